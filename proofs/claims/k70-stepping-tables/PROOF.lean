import PyProof.Rows.All
import Wide.All
import OpenK.AllK
import Wide.FinOn
import HandS.ForMost
import HandS.ForExc
import HandS.Wide
import HandS.IsInst
import HandS.Text
import HandS.SortKw
import HandS.RaiseMore
import KE.GoesMore
import HandS.ExcSuper
import HandS.ExcInit
import HandS.ExcIs
import HandS.ExcField
import HandS.ExcValue
import HandS.Defaults
import KE.KExcSuper
import KE.KSuper
import KE.KExcIs
import PyProof.ReprRoads
import PyProof.ReprLen
import PyProof.CallFns
import HandS.Iter
import PyProof.Draws
import PyProof.EnumMake
import HandS.Dict
import HandS.Style
import HandS.Ends
import HandS.Property
import HandS.MakeKwOnly
import PyProof.InstNe
import KE.DataCmp
import HandS.OwnEq
import HandS.Strs
import PySem.Challenge.RW_everypair_k70_stepping_tables
import KE.RegKSuper
import OpenK.XHead
set_option Elab.async false
set_option linter.all false
set_option maxRecDepth 100000
set_option maxHeartbeats 4000000
/-! DD1: values as data, without a heap: what a value is worth (Rp), what the slots are worth (SD), expressions and statements read over data. -/
namespace DD
open PySem PySem.Spec PyProof.Rows L2

inductive D where
  | non | bl (b : Bool) | int (i : Int) | str (s : Str) | ty (n : String) | ref (a : Addr)
  | lst (ds : List D) | tup (ds : List D)
  | dct (ks : List Key) (ds : List D)
  | ins (C : Addr) (ns : List Str) (ds : List D)
  | iset (S : Int → Bool) (n : Nat)
  | exc (C : Addr) (ds : List D)
  | scr (ns : List Int)

/-- an exception object that is kept as a value: its class, its own dict -/
def ExcAt (a C : Addr) (dx : Option Addr) : HO := .ext fun h => ∃ (oe : Obj) (vs : Array Value), h.get? a = some oe ∧ oe.cls = .ref C ∧ oe.dict = dx ∧ oe.data = .fields vs

/-- the script's list: a frozen one, or a constant of the text -/
def SqZ (K : PySem.W.Frag) (F : Hp) (a : Addr) (xs : List V) : Prop := (∃ o, F a = some (.frz o (.lst xs))) ∨
  ∃ (o : Obj) (its : Array Value) (n : Nat), K.lookup a = some o ∧ o.cls = .type "list" ∧ o.dict = none ∧ o.data = .seq its n ∧ its.size ≤ sizeLine ∧ Vals xs its.toList
theorem SqZ.mono {K : PySem.W.Frag} {F F' : Hp} {a : Addr} {xs : List V} (h : SqZ K F a xs) (e : ∀ o, F a = some (.frz o (.lst xs)) → F' a = some (.frz o (.lst xs))) : SqZ K F' a xs := by
  rcases h with ⟨o, h⟩ | h
  · exact .inl ⟨o, e o h⟩
  · exact .inr h
theorem SqZ.seq {K : PySem.W.Frag} {F : Hp} {a : Addr} {xs : List V} (h : SqZ K F a xs) : SqL K F a xs := by
  rcases h with ⟨o, h⟩ | h
  · exact .inl (.inr ⟨o, h⟩)
  · exact .inr h
mutual
def Rp (K : PySem.W.Frag) (F : Hp) : D → V → Prop
  | .non, v => v = .non
  | .bl b, v => v = .bl b
  | .int i, v => v = .int i
  | .str s, v => v = .str s
  | .ty n, v => v = .ty n
  | .ref a, v => v = .ref a
  | .lst ds, v => ∃ a xs, v = .ref a ∧ F a = some (.lst xs) ∧ RpL K F ds xs
  | .tup ds, v => ∃ a xs, v = .ref a ∧ SqT K F a xs ∧ RpL K F ds xs
  | .dct ks ds, v => ∃ a xs, v = .ref a ∧ F a = some (.dK (ks.zip xs)) ∧ RpL K F ds xs ∧ ks.length = xs.length
  | .ins C ns ds, v => ∃ a dx xs, v = .ref a ∧ F a = some (.ins C dx (ns.zip xs)) ∧ RpL K F ds xs ∧ ns.length = xs.length
  | .iset S n, v => ∃ a, v = .ref a ∧ F a = some (.set S n)
  | .exc C ds, v => ∃ a dx x xs, v = .ref a ∧ F a = some (ExcAt a C (some dx)) ∧ F dx = some (.xd [("value", x)]) ∧ xs = [x] ∧ RpL K F ds xs
  | .scr ns, v => ∃ a, v = .ref a ∧ SqZ K F a (ns.map V.int)
def RpL (K : PySem.W.Frag) (F : Hp) : List D → List V → Prop
  | [], xs => xs = []
  | d :: ds, xs => ∃ x r, xs = x :: r ∧ Rp K F d x ∧ RpL K F ds r
end

theorem sqT_mono {K : PySem.W.Frag} {F F' : Hp} {a : Addr} {xs : List V} (e : Same F F') (h : SqT K F a xs) : SqT K F' a xs := by
  rcases h with (h | ⟨o, h⟩) | h
  · exact .inl (.inl (e _ _ h))
  · exact .inl (.inr ⟨o, e _ _ h⟩)
  · exact .inr h

mutual
theorem Rp.mono {K : PySem.W.Frag} {F F' : Hp} (e : Same F F') : ∀ (d : D) (v : V), Rp K F d v → Rp K F' d v
  | .non, _, h => h
  | .bl _, _, h => h
  | .int _, _, h => h
  | .str _, _, h => h
  | .ty _, _, h => h
  | .ref _, _, h => h
  | .lst ds, v, h => by
    unfold Rp at h ⊢
    obtain ⟨a, xs, rfl, h1, h2⟩ := h
    exact ⟨a, xs, rfl, e _ _ h1, RpL.mono e ds xs h2⟩
  | .tup ds, v, h => by
    unfold Rp at h ⊢
    obtain ⟨a, xs, rfl, h1, h2⟩ := h
    exact ⟨a, xs, rfl, sqT_mono e h1, RpL.mono e ds xs h2⟩
  | .dct ks ds, v, h => by
    unfold Rp at h ⊢
    obtain ⟨a, xs, rfl, h1, h2, h3⟩ := h
    exact ⟨a, xs, rfl, e _ _ h1, RpL.mono e ds xs h2, h3⟩
  | .ins C ns ds, v, h => by
    unfold Rp at h ⊢
    obtain ⟨a, dx, xs, rfl, h1, h2, h3⟩ := h
    exact ⟨a, dx, xs, rfl, e _ _ h1, RpL.mono e ds xs h2, h3⟩
  | .iset S n, v, h => by
    unfold Rp at h ⊢
    obtain ⟨a, rfl, h1⟩ := h
    exact ⟨a, rfl, e _ _ h1⟩
  | .scr ns, v, h => by
    unfold Rp at h ⊢
    obtain ⟨a, rfl, h1⟩ := h
    exact ⟨a, rfl, h1.mono fun o q => e _ _ q⟩
  | .exc C ds, v, h => by
    unfold Rp at h ⊢
    obtain ⟨a, dx, x, xs, rfl, h1, h2, h3, h4⟩ := h
    exact ⟨a, dx, x, xs, rfl, e _ _ h1, e _ _ h2, h3, RpL.mono e ds xs h4⟩
theorem RpL.mono {K : PySem.W.Frag} {F F' : Hp} (e : Same F F') : ∀ (ds : List D) (xs : List V), RpL K F ds xs → RpL K F' ds xs
  | [], _, h => h
  | d :: ds, xs, h => by
    unfold RpL at h ⊢
    obtain ⟨x, r, rfl, h1, h2⟩ := h
    exact ⟨x, r, rfl, Rp.mono e d x h1, RpL.mono e ds r h2⟩
end
theorem RpL.length {K : PySem.W.Frag} {F : Hp} : ∀ {ds : List D} {xs : List V}, RpL K F ds xs → xs.length = ds.length
  | [], _, h => by
    unfold RpL at h
    rw [h] <;> rfl
  | d :: ds, xs, h => by
    unfold RpL at h
    obtain ⟨x, r, rfl, _, h2⟩ := h
    rw [List.length_cons, List.length_cons, RpL.length h2]
theorem RpL.get {K : PySem.W.Frag} {F : Hp} : ∀ {ds : List D} {xs : List V} {i : Nat} {d : D}, RpL K F ds xs → ds[i]? = some d → ∃ x, xs[i]? = some x ∧ Rp K F d x
  | [], _, _, _, _, e => by simp at e
  | d :: ds, xs, 0, d', h, e => by
    unfold RpL at h
    obtain ⟨x, r, rfl, h1, _⟩ := h
    simp at e
    subst e
    exact ⟨x, rfl, h1⟩
  | d :: ds, xs, i + 1, d', h, e => by
    unfold RpL at h
    obtain ⟨x, r, rfl, _, h2⟩ := h
    obtain ⟨y, e1, e2⟩ := RpL.get (i := i) h2 (by simpa using e)
    exact ⟨y, by simpa using e1, e2⟩
theorem RpL.nil {K : PySem.W.Frag} {F : Hp} : RpL K F [] [] := by
  unfold RpL
  rfl
theorem RpL.cons {K : PySem.W.Frag} {F : Hp} {d : D} {ds : List D} {x : V} {xs : List V} (h : Rp K F d x) (t : RpL K F ds xs) : RpL K F (d :: ds) (x :: xs) := by
  unfold RpL
  exact ⟨x, xs, rfl, h, t⟩
theorem RpL.append {K : PySem.W.Frag} {F : Hp} : ∀ {ds es : List D} {xs ys : List V}, RpL K F ds xs → RpL K F es ys → RpL K F (ds ++ es) (xs ++ ys)
  | [], _, _, _, h, g => by
    unfold RpL at h
    rw [h]
    exact g
  | d :: ds, es, xs, ys, h, g => by
    unfold RpL at h
    obtain ⟨x, r, rfl, h1, h2⟩ := h
    exact .cons h1 (RpL.append h2 g)
theorem RpL.take {K : PySem.W.Frag} {F : Hp} : ∀ {ds : List D} {xs : List V} (n : Nat), RpL K F ds xs → RpL K F (ds.take n) (xs.take n)
  | _, _, 0, _ => by
    rw [List.take_zero, List.take_zero]
    exact .nil
  | [], _, n + 1, h => by
    unfold RpL at h
    rw [h]
    exact .nil
  | d :: ds, xs, n + 1, h => by
    unfold RpL at h
    obtain ⟨x, r, rfl, h1, h2⟩ := h
    exact .cons h1 (RpL.take n h2)
theorem RpL.drop {K : PySem.W.Frag} {F : Hp} : ∀ {ds : List D} {xs : List V} (n : Nat), RpL K F ds xs → RpL K F (ds.drop n) (xs.drop n)
  | _, _, 0, h => h
  | [], _, n + 1, h => by
    unfold RpL at h
    rw [h]
    exact .nil
  | d :: ds, xs, n + 1, h => by
    unfold RpL at h
    obtain ⟨x, r, rfl, h1, h2⟩ := h
    exact RpL.drop n h2
theorem RpL.set {K : PySem.W.Frag} {F : Hp} {d : D} {x : V} (hx : Rp K F d x) : ∀ {ds : List D} {xs : List V} (n : Nat), RpL K F ds xs → RpL K F (ds.set n d) (xs.set n x)
  | [], _, _, h => by
    unfold RpL at h
    rw [h]
    exact .nil
  | d' :: ds, xs, 0, h => by
    unfold RpL at h
    obtain ⟨x', r, rfl, h1, h2⟩ := h
    exact .cons hx h2
  | d' :: ds, xs, n + 1, h => by
    unfold RpL at h
    obtain ⟨x', r, rfl, h1, h2⟩ := h
    exact .cons h1 (RpL.set hx n h2)
theorem RpL.int {K : PySem.W.Frag} {F : Hp} : ∀ {ns : List Int} {xs : List V}, RpL K F (ns.map D.int) xs → xs = ns.map V.int
  | [], _, h => by
    unfold RpL at h
    rw [h]
    rfl
  | n :: ns, xs, h => by
    unfold RpL at h
    obtain ⟨x, r, rfl, h1, h2⟩ := h
    unfold Rp at h1
    rw [h1, RpL.int h2]
    rfl
theorem RpL.ofInt {K : PySem.W.Frag} {F : Hp} : ∀ (ns : List Int), RpL K F (ns.map D.int) (ns.map V.int)
  | [] => .nil
  | n :: ns => .cons (by unfold Rp; rfl) (RpL.ofInt ns)
theorem RpL.str {K : PySem.W.Frag} {F : Hp} : ∀ {ns : List Str} {xs : List V}, RpL K F (ns.map D.str) xs → xs = ns.map V.str
  | [], _, h => by
    unfold RpL at h
    rw [h]
    rfl
  | n :: ns, xs, h => by
    unfold RpL at h
    obtain ⟨x, r, rfl, h1, h2⟩ := h
    unfold Rp at h1
    rw [h1, RpL.str h2]
    rfl
theorem RpL.ofStr {K : PySem.W.Frag} {F : Hp} : ∀ (ns : List Str), RpL K F (ns.map D.str) (ns.map V.str)
  | [] => .nil
  | n :: ns => .cons (by unfold Rp; rfl) (RpL.ofStr ns)

/-! ### what a slot holds: plain data, data of its own (a list, a dict that nobody else knows), a purse of draws -/
inductive B where
  | p (d : D) | o (d : D) | u (w : Bool) (n : Nat) | n (ds : List D) | s (d : D)
abbrev Env' := List (Option B)
def B.d : B → D
  | .p d => d
  | .o d => d
  | .u _ _ => .non
  | .n ds => .tup ds
  | .s _ => .non
def B.own : B → Bool
  | .p _ => false
  | .n _ => false
  | _ => true
def B.isU : B → Bool
  | .u _ _ => true
  | .s _ => true
  | _ => false
/-- a purse: its digits, its seed, at most n turns so far -/
def PWF (n : Nat) (x y z : Int) : Prop := 0 ≤ x ∧ x < 10 ^ 400 ∧ 0 ≤ y ∧ y < 2147483629 ∧ 0 ≤ z ∧ z ≤ n

structure Fix where
  F0 : Hp
  H0 : Hp
  P : Option Addr
  /-- what is wanted of an exception: its class, what its field holds, the slots -/
  E : Addr → List D → Env' → Prop

def Own (K : PySem.W.Frag) (F H : Hp) : D → Addr → Prop
  | .lst ds, a => ∃ xs, H a = some (.lst xs) ∧ RpL K F ds xs
  | .dct ks ds, a => ∃ xs, H a = some (.dK (ks.zip xs)) ∧ RpL K F ds xs ∧ ks.length = xs.length
  | .iset S n, a => H a = some (.set S n)
  | .ins C ns ds, a => ∃ dx xs, H a = some (.ins C dx (ns.zip xs)) ∧ RpL K F ds xs ∧ ns.length = xs.length
  | _, _ => False
def RB (K : PySem.W.Frag) (W : Fix) (F H : Hp) : B → V → Prop
  | .p d, v => Rp K F d v
  | .o d, v => ∃ a, v = .ref a ∧ F a = none ∧ W.H0 a = none ∧ Own K F H d a
  | .u w n, v => ∃ p x y z, v = .ref p ∧ F p = none ∧ (if w = true then W.P = some p else W.H0 p = none) ∧ H p = some (.lst [.int x, .int y, .int z]) ∧ PWF n x y z
  | .n ds, v => ∃ t xs, v = .ref t ∧ SqT K F t xs ∧ RpL K F ds xs ∧ ∀ a, V.ref a ∈ xs → (∃ ys, F a = some (.lst ys)) ∧ W.H0 a = none
  | .s d, v => ∃ a, v = .ref a ∧ F a = none ∧ W.P = some a ∧ Own K F H d a

structure SD (K : PySem.W.Frag) (W : Fix) (F H : Hp) (σ : L2.St) (δ : Env') : Prop where
  f0 : Same W.F0 F
  h0 : ∀ a o, W.H0 a = some o → W.P ≠ some a → H a = some o
  fh : Same F H
  fr : ∀ a o, F a = some o → W.F0 a = some o ∨ W.H0 a = none
  fp : ∀ a, W.P = some a → F a = none ∧ (∃ o, H a = some o) ∧ ∃ o, W.H0 a = some o
  len : σ.length = δ.length
  get : ∀ (i : Nat) (b : B), δ[i]? = some (some b) → ∃ v, σ[i]? = some (some v) ∧ RB K W F H b v
  sep : ∀ (i j : Nat) (b c : B) (v : V), i ≠ j → δ[i]? = some (some b) → b.own = true → δ[j]? = some (some c) → c.own = true → σ[i]? = some (some v) → σ[j]? ≠ some (some v)

/-- what comes of an expression -/
def DQ (K : PySem.W.Frag) (W : Fix) (F : Hp) (σ : L2.St) (Q : B → Env' → Prop) : VK := fun v H' =>
  ∃ (F' : Hp) (b : B) (δ' : Env'), Same F F' ∧ SD K W F' H' σ δ' ∧ RB K W F' H' b v ∧ (b.own = true → ∀ (j : Nat) (c : B), δ'[j]? = some (some c) → c.own = true → σ[j]? ≠ some (some v)) ∧ Q b δ'

section
variable {K : PySem.W.Frag} {W : Fix} {F H : Hp} {σ : L2.St} {δ : Env'}
theorem Own.some {d : D} {a : Addr} (h : Own K F H d a) : ∃ o, H a = some o := by
  cases d <;> first | exact h.elim | skip
  · obtain ⟨xs, h, _⟩ := h
    exact ⟨_, h⟩
  · obtain ⟨xs, h, _⟩ := h
    exact ⟨_, h⟩
  · obtain ⟨dx, xs, h, _⟩ := h
    exact ⟨_, h⟩
  · exact ⟨_, h⟩
theorem own_keep {F' H' : Hp} {d : D} {a : Addr} (h : Own K F H d a) (e : Same F F') (k : ∀ o, H a = some o → H' a = some o) : Own K F' H' d a := by
  cases d <;> first | exact h.elim | skip
  · obtain ⟨xs, h4, h5⟩ := h
    exact ⟨xs, k _ h4, RpL.mono e _ _ h5⟩
  · obtain ⟨xs, h4, h5, h6⟩ := h
    exact ⟨xs, k _ h4, RpL.mono e _ _ h5, h6⟩
  · obtain ⟨dx, xs, h4, h5, h6⟩ := h
    exact ⟨dx, xs, k _ h4, RpL.mono e _ _ h5, h6⟩
  · exact k _ h
theorem RB.there {b : B} {v : V} (h : RB K W F H b v) (hb : b.own = true) : ∃ a o, v = .ref a ∧ H a = some o ∧ F a = none := by
  cases b with
  | p d => cases hb
  | n ds => cases hb
  | o d =>
    obtain ⟨a, rfl, h1, _, h2⟩ := h
    obtain ⟨o, ho⟩ := h2.some
    exact ⟨a, o, rfl, ho, h1⟩
  | u w n =>
    obtain ⟨p, x, y, z, rfl, h1, _, h2, _⟩ := h
    exact ⟨p, _, rfl, h2, h1⟩
  | s d =>
    obtain ⟨a, rfl, h1, _, h2⟩ := h
    obtain ⟨o, ho⟩ := h2.some
    exact ⟨a, o, rfl, ho, h1⟩
theorem SD.fresh0 (S : SD K W F H σ δ) {p : Addr} (hp : H p = none) : W.H0 p = none := by
  cases e : W.H0 p with
  | none => rfl
  | some o =>
    by_cases hP : W.P = some p
    · obtain ⟨_, ⟨o', ho⟩, _⟩ := S.fp p hP
      rw [hp] at ho
      cases ho
    · have := S.h0 p o e hP
      rw [hp] at this
      cases this
theorem SD.freshF (S : SD K W F H σ δ) {p : Addr} (hp : H p = none) : F p = none := S.fh.free hp
/-- data stay where what is frozen grows and what is owned stays -/
theorem RB.keep {F' H' : Hp} {b : B} {v : V} (h : RB K W F H b v) (e : Same F F') (k : ∀ a o, v = .ref a → b.own = true → H a = some o → H' a = some o) (n : ∀ a, v = .ref a → b.own = true → F a = none → F' a = none) : RB K W F' H' b v := by
  cases b with
  | p d => exact Rp.mono e d v h
  | n ds =>
    obtain ⟨t, xs, rfl, h1, h2, h3⟩ := h
    refine ⟨t, xs, rfl, sqT_mono e h1, RpL.mono e _ _ h2, fun a ha => ?_⟩
    obtain ⟨⟨ys, h4⟩, h5⟩ := h3 a ha
    exact ⟨⟨ys, e _ _ h4⟩, h5⟩
  | o d =>
    obtain ⟨a, rfl, h1, h2, h3⟩ := h
    refine ⟨a, rfl, n a rfl rfl h1, h2, ?_⟩
    exact own_keep (d := d) h3 e fun o q => k a o rfl rfl q
  | u w m =>
    obtain ⟨p, x, y, z, rfl, h1, h2, h3, h4⟩ := h
    exact ⟨p, x, y, z, rfl, n p rfl rfl h1, h2, k p _ rfl rfl h3, h4⟩
  | s d =>
    obtain ⟨a, rfl, h1, h2, h3⟩ := h
    exact ⟨a, rfl, n a rfl rfl h1, h2, own_keep (d := d) h3 e fun o q => k a o rfl rfl q⟩
theorem same_upd {H : Hp} {p : Addr} {o : HO} (h : H p = none) : Same H (upd H p o) := fun b x e => by
  rw [upd_ne (ne_of_none e h)]
  exact e
/-- a new object, frozen at once -/
theorem SD.new (S : SD K W F H σ δ) {p : Addr} {o : HO} (hp : H p = none) : SD K W (upd F p o) (upd H p o) σ δ where
  f0 := S.f0.trans (same_upd (S.freshF hp))
  h0 := fun a o' h1 h2 => by
    have := S.h0 a o' h1 h2
    rw [upd_ne (ne_of_none this hp)]
    exact this
  fh := fun a o' h => by
    by_cases e : a = p
    · subst e
      rw [upd_same] at h ⊢
      exact h
    · rw [upd_ne e] at h ⊢
      exact S.fh a o' h
  fr := fun a o' h => by
    by_cases e : a = p
    · subst e
      exact .inr (S.fresh0 hp)
    · rw [upd_ne e] at h
      exact S.fr a o' h
  fp := fun a h => by
    obtain ⟨h1, ⟨o', h2⟩, h3⟩ := S.fp a h
    have e := ne_of_none h2 hp
    rw [upd_ne e, upd_ne e]
    exact ⟨h1, ⟨o', h2⟩, h3⟩
  len := S.len
  get := fun i b h => by
    obtain ⟨v, h1, h2⟩ := S.get i b h
    refine ⟨v, h1, h2.keep (same_upd (S.freshF hp)) (fun a o' _ _ h3 => ?_) (fun a hv hb h3 => ?_)⟩
    · rw [upd_ne (ne_of_none h3 hp)]
      exact h3
    · obtain ⟨a', o', e1, h4, _⟩ := h2.there hb
      rw [hv] at e1
      cases e1
      rw [upd_ne (ne_of_none h4 hp)]
      exact h3
  sep := S.sep
/-- a new object of one's own: not frozen -/
theorem SD.newO (S : SD K W F H σ δ) {p : Addr} {o : HO} (hp : H p = none) : SD K W F (upd H p o) σ δ where
  f0 := S.f0
  h0 := fun a o' h1 h2 => by
    have := S.h0 a o' h1 h2
    rw [upd_ne (ne_of_none this hp)]
    exact this
  fh := S.fh.trans (same_upd hp)
  fr := S.fr
  fp := fun a h => by
    obtain ⟨h1, ⟨o', h2⟩, h3⟩ := S.fp a h
    rw [upd_ne (ne_of_none h2 hp)]
    exact ⟨h1, ⟨o', h2⟩, h3⟩
  len := S.len
  get := fun i b h => by
    obtain ⟨v, h1, h2⟩ := S.get i b h
    refine ⟨v, h1, h2.keep (Same.refl F) (fun a o' _ _ h3 => ?_) (fun a hv hb h3 => h3)⟩
    rw [upd_ne (ne_of_none h3 hp)]
    exact h3
  sep := S.sep
/-- an object that stands already, and that no slot owns, is frozen -/
theorem SD.freeze (S : SD K W F H σ δ) {a : Addr} {o : HO} (ha : H a = some o) (h0 : W.H0 a = none) (hF : F a = none) (hno : ∀ (j : Nat) (c : B), δ[j]? = some (some c) → c.own = true → σ[j]? ≠ some (some (.ref a))) : SD K W (upd F a o) H σ δ where
  f0 := S.f0.trans (same_upd hF)
  h0 := S.h0
  fh := fun b o' h => by
    by_cases e : b = a
    · subst e
      rw [upd_same] at h
      rw [ha]
      exact h
    · rw [upd_ne e] at h
      exact S.fh b o' h
  fr := fun b o' h => by
    by_cases e : b = a
    · subst e
      exact .inr h0
    · rw [upd_ne e] at h
      exact S.fr b o' h
  fp := fun b h => by
    obtain ⟨h1, h2, o', h3⟩ := S.fp b h
    refine ⟨?_, h2, o', h3⟩
    have e : b ≠ a := fun z => by
      rw [z, h0] at h3
      cases h3
    rw [upd_ne e]
    exact h1
  len := S.len
  get := fun i b h => by
    obtain ⟨v, h1, h2⟩ := S.get i b h
    refine ⟨v, h1, h2.keep (same_upd hF) (fun _ _ _ _ h3 => h3) (fun b' hv hb h3 => ?_)⟩
    by_cases e : b' = a
    · subst e
      subst hv
      exact absurd h1 (hno i b h hb)
    · rw [upd_ne e]
      exact h3
  sep := S.sep
end
end DD

set_option Elab.async false
set_option linter.all false
set_option maxRecDepth 100000
set_option maxHeartbeats 4000000
/-! DD2: defs that know that no repr is under way; expressions over data. -/
namespace DD
open PySem PySem.Spec PyProof.Rows L2

/-! ### defs, where no repr is under way around -/
structure GnOk (P : Program) (w : World) (K : PySem.W.Frag) (mg : Str → Option Value) (base : Heap) (k : Nat) (f : Addr) (fd : FuncData) (ps : List Str) (sp : Sp) : Prop where
  len : ∀ vs H Q E, sp vs H Q E → vs.length = ps.length
  run : ∀ (A : Around) (outer : List Env) (s : Shared) (H : Hp) (args : Args) (us : List Value) (vs : List V) (Q : VK) (E : XK),
    A.guards = some [] → Room k A → Env0 P w K mg base A outer s H → BindsTo s fd args (ps.zip us) → Vals vs us → sp vs H Q E →
    codeAny (model P w) A (.call (.ref f) args) (CR (L2.CX P w) outer P w H s Q E) s
theorem GnOk.mono {P : Program} {w : World} {K : PySem.W.Frag} {mg : Str → Option Value} {base : Heap} {j k : Nat} {f : Addr} {fd : FuncData} {ps : List Str} {sp : Sp}
    (G : GnOk P w K mg base j f fd ps sp) (h : j ≤ k) : GnOk P w K mg base k f fd ps sp :=
  ⟨G.len, fun A outer s H args us vs Q E hg hr => G.run A outer s H args us vs Q E hg (hr.mono h)⟩
theorem GnOk.of {P : Program} {w : World} {K : PySem.W.Frag} {mg : Str → Option Value} {base : Heap} {k : Nat} {f : Addr} {fd : FuncData} {ps : List Str} {sp : Sp}
    (G : FnOk P w K mg base (L2.CX P w) k f fd ps sp) : GnOk P w K mg base k f fd ps sp :=
  ⟨G.len, fun A outer s H args us vs Q E _ hr => G.run A outer s H args us vs Q E hr⟩
/-- a def of the text, by its body; what is known of A besides: no repr is under way -/
theorem gn_of {P : Program} {w : World} {K : PySem.W.Frag} {mg : Str → Option Value} {base : Heap} {x qual : Str} {st : Stmt} {f : Addr} {fd : FuncData} {N ps : List Str} {k : Nat} {sp : Sp}
    (F : Fun K x qual st f fd) (S : FnScope N ps (defScope st)) (len : ∀ vs H Q E, sp vs H Q E → vs.length = ps.length)
    (hbody : ∀ (cdv : Value) (A : Around) (outer : List Env) (s : Shared) (H : Hp) (vs : List V) (Q : VK) (E : XK), A.guards = some [] →
      Room k (A.deeper (envOfC qual (defScope st) s.heap.objs.size f cdv)) → sp vs H Q E →
      ∃ t, PSs (cxOf (L2.CX P w) P w K mg base N qual (defScope st) f cdv A outer s H E) (defBody st) t ∧ t { nx := fun _ H' => Q .non H', rt := Q } (start N vs) H) :
    GnOk P w K mg base (k + 1) f fd ps sp := by
  refine ⟨len, ?_⟩
  intro A outer s H args us vs Q E hg hr e0 hb r hsp
  obtain ⟨oc, od, kV, doc, pm, an, cdv, ct, osl, rfl, lk, hcd⟩ := F.ex
  have kin : K.In s.heap := e0.mod.kin.keeps fun b o e => (e0.bs b o e).1
  refine codeAny_call_function hr.depth (kin _ _ lk) rfl S.co S.gen rfl (PySem.W.codeRec_of kin hcd) (hb _ _ _ _ ?_)
  have hk : ∀ y ∈ ps.zip us, (defScope st).names.lookup y.1 = some .local ∨
      ((defScope st).names.lookup y.1 = some .cell ∧ ((cellsFrom (s.heap.objs.size + 1) (defScope st).names []).lookup y.1).isSome = true) := by
    rintro ⟨n, v⟩ hy
    rcases S.par n (List.of_mem_zip hy).1 with q | q
    · exact Or.inl q
    · exact Or.inr ⟨q, PySem.W.cellsFrom_some _ _ _ (Or.inl q)⟩
  refine wpAny_newFunctionEnv_cells S.kind hk ?_
  intro env he s1 x
  subst he
  refine ⟨(e0.mod.nolimit.keeps fun b o e => (e0.bs b o e).1).keeps x.toInCall.keep, codeAny_func ?_⟩
  obtain ⟨t, ht, hq⟩ := hbody cdv A outer s H vs Q E hg (hr.deeper _) hsp
  have I := inv_start (CX := L2.CX P w) (P := P) (w := w) (mg := mg) (base := base) (E := E) S hr.hd e0 (len _ _ _ _ hsp) r x
  refine wpAny_mono (ht.run [] s1 (start N vs) H _ I hq) ?_ (fun e s' hs => hs)
  intro fl s' hs
  cases fl with
  | ret u =>
    obtain ⟨v, σ', H', J, rv, q⟩ := hs
    exact ⟨v, H', J.os, J.bare, J.base, J.hok, rv, q⟩
  | next =>
    obtain ⟨σ', H', J, q⟩ := hs
    exact ⟨V.non, H', J.os, J.bare, J.base, J.hok, rfl, q⟩
  | brk =>
    obtain ⟨_, _, _, q⟩ := hs
    exact q.elim
  | cont =>
    obtain ⟨_, _, _, q⟩ := hs
    exact q.elim

/-! ### canonical readings -/
section
variable {X : Cx} {e : Expr}
def cE (X : Cx) (e : Expr) : TE := fun σ H Q => ∀ (pins : List (Addr × Obj)) (s : Shared), Inv X pins σ H s → wpAny (model X.prog X.w) X.A (eval e X.env) (EP X pins σ Q) X.xe s
def cT (X : Cx) (e : Expr) : TT := fun σ H Q => ∀ (pins : List (Addr × Obj)) (s : Shared), Inv X pins σ H s → wpAny (model X.prog X.w) X.A (isTrue e X.env (eval e X.env)) (TP X pins σ Q) X.xe s
def cW (X : Cx) (e : Expr) : TT := fun σ H Q => ∀ (whole : Sem Value) (pins : List (Addr × Obj)) (s : Shared), Inv X pins σ H s → wpAny (model X.prog X.w) X.A (isTrue e X.env whole) (TP X pins σ Q) X.xe s
def cA (X : Cx) (es : List Expr) : TA := fun σ H Q => ∀ (pos : Pos) (pins : List (Addr × Obj)) (s : Shared), Inv X pins σ H s → wpAny (model X.prog X.w) X.A (spliced (backTo pos (starEach es X.env))) (AP X pins σ Q) X.xe s
def cS (X : Cx) (st : Stmt) : TS := fun D σ H => ∀ (pins : List (Addr × Obj)) (s : Shared), Inv X pins σ H s → wpAny (model X.prog X.w) X.A (exec st X.env) (SP X pins D) X.xe s
def cSs (X : Cx) (st : List Stmt) : TS := fun D σ H => ∀ (pins : List (Addr × Obj)) (s : Shared), Inv X pins σ H s → wpAny (model X.prog X.w) X.A (execs st X.env) (SP X pins D) X.xe s
theorem cE_pe : PE X e (cE X e) := ⟨fun pins s _ _ _ I h => h pins s I⟩
theorem cT_pt : PT X e (cT X e) := ⟨fun pins s _ _ _ I h => h pins s I⟩
theorem cW_pw : PW X e (cW X e) := ⟨fun wh pins s _ _ _ I h => h wh pins s I⟩
theorem cA_pa {es : List Expr} : PA X es (cA X es) := ⟨fun pos pins s _ _ _ I h => h pos pins s I⟩
theorem cS_ps {st : Stmt} : PS X st (cS X st) := ⟨fun pins s _ _ _ I h => h pins s I⟩
theorem cSs_pss {st : List Stmt} : PSs X st (cSs X st) := ⟨fun pins s _ _ _ I h => h pins s I⟩
theorem cE_of {t : TE} {σ : L2.St} {H : Hp} {Q : VK} (h : PE X e t) (q : t σ H Q) : cE X e σ H Q := fun pins s I => h.run pins s σ H Q I q
theorem cT_of {t : TT} {σ : L2.St} {H : Hp} {Q : Bool → Hp → Prop} (h : PT X e t) (q : t σ H Q) : cT X e σ H Q := fun pins s I => h.run pins s σ H Q I q
theorem cE.imp {σ : L2.St} {H : Hp} {Q Q' : VK} (h : cE X e σ H Q) (i : ∀ v H', Q v H' → Q' v H') : cE X e σ H Q' := fun pins s I => thn (h pins s I) fun u s' q => by
  obtain ⟨v, H', I', r, q⟩ := q
  exact ⟨v, H', I', r, i v H' q⟩
theorem cT.imp {σ : L2.St} {H : Hp} {Q Q' : Bool → Hp → Prop} (h : cT X e σ H Q) (i : ∀ v H', Q v H' → Q' v H') : cT X e σ H Q' := fun pins s I => thn (h pins s I) fun u s' q => by
  obtain ⟨H', I', q⟩ := q
  exact ⟨H', I', i u H' q⟩
theorem cW.imp {σ : L2.St} {H : Hp} {Q Q' : Bool → Hp → Prop} (h : cW X e σ H Q) (i : ∀ v H', Q v H' → Q' v H') : cW X e σ H Q' := fun wh pins s I => thn (h wh pins s I) fun u s' q => by
  obtain ⟨H', I', q⟩ := q
  exact ⟨H', I', i u H' q⟩
theorem cA.imp {es : List Expr} {σ : L2.St} {H : Hp} {Q Q' : List V → Hp → Prop} (h : cA X es σ H Q) (i : ∀ v H', Q v H' → Q' v H') : cA X es σ H Q' := fun pos pins s I => thn (h pos pins s I) fun u s' q => by
  obtain ⟨v, H', I', r, q⟩ := q
  exact ⟨v, H', I', r, i v H' q⟩
theorem SP.imp {pins : List (Addr × Obj)} {D D' : Ends} {f : Flow} {s : Shared} (h : SP X pins D f s) (h1 : ∀ σ H, D.nx σ H → D'.nx σ H) (h2 : ∀ v H, D.rt v H → D'.rt v H) (h3 : ∀ σ H, D.bk σ H → D'.bk σ H) (h4 : ∀ σ H, D.ct σ H → D'.ct σ H) : SP X pins D' f s := by
  cases f with
  | next =>
    obtain ⟨σ', H', I, q⟩ := h
    exact ⟨σ', H', I, h1 _ _ q⟩
  | brk =>
    obtain ⟨σ', H', I, q⟩ := h
    exact ⟨σ', H', I, h3 _ _ q⟩
  | cont =>
    obtain ⟨σ', H', I, q⟩ := h
    exact ⟨σ', H', I, h4 _ _ q⟩
  | ret u =>
    obtain ⟨v, σ', H', I, r, q⟩ := h
    exact ⟨v, σ', H', I, r, h2 _ _ q⟩
end

/-! ### expressions over data -/
abbrev TD := Env' → (B → Env' → Prop) → Prop
abbrev TDT := Env' → (Bool → Env' → Prop) → Prop
abbrev TDA := Env' → (List D → Env' → Prop) → Prop
structure DE (X : Cx) (W : Fix) (e : Expr) (t : TD) : Prop where
  run : ∀ (F H : Hp) (σ : L2.St) (δ : Env') (Q : B → Env' → Prop), SD X.K W F H σ δ → t δ Q → cE X e σ H (DQ X.K W F σ Q)
def TQ (K : PySem.W.Frag) (W : Fix) (F : Hp) (σ : L2.St) (Q : Bool → Env' → Prop) : Bool → Hp → Prop := fun b H' =>
  ∃ (F' : Hp) (δ' : Env'), Same F F' ∧ SD K W F' H' σ δ' ∧ Q b δ'
def AQ (K : PySem.W.Frag) (W : Fix) (F : Hp) (σ : L2.St) (Q : List D → Env' → Prop) : List V → Hp → Prop := fun vs H' =>
  ∃ (F' : Hp) (ds : List D) (δ' : Env'), Same F F' ∧ SD K W F' H' σ δ' ∧ RpL K F' ds vs ∧ Q ds δ'
structure DT (X : Cx) (W : Fix) (e : Expr) (t : TDT) : Prop where
  run : ∀ (F H : Hp) (σ : L2.St) (δ : Env') (Q : Bool → Env' → Prop), SD X.K W F H σ δ → t δ Q → cT X e σ H (TQ X.K W F σ Q)
structure DW (X : Cx) (W : Fix) (e : Expr) (t : TDT) : Prop where
  run : ∀ (F H : Hp) (σ : L2.St) (δ : Env') (Q : Bool → Env' → Prop), SD X.K W F H σ δ → t δ Q → cW X e σ H (TQ X.K W F σ Q)
structure DA (X : Cx) (W : Fix) (es : List Expr) (t : TDA) : Prop where
  run : ∀ (F H : Hp) (σ : L2.St) (δ : Env') (Q : List D → Env' → Prop), SD X.K W F H σ δ → t δ Q → cA X es σ H (AQ X.K W F σ Q)
theorem DW.dt {X : Cx} {W : Fix} {e : Expr} {t : TDT} (h : DW X W e t) : DT X W e t := ⟨fun F H σ δ Q S q pins s I => h.run F H σ δ Q S q _ pins s I⟩

section
variable {K : PySem.W.Frag} {W : Fix} {F F1 H : Hp} {σ : L2.St} {δ : Env'}
theorem DQ.back {Q : B → Env' → Prop} {v : V} (e : Same F F1) (h : DQ K W F1 σ Q v H) : DQ K W F σ Q v H := by
  obtain ⟨F', b, δ', e1, h⟩ := h
  exact ⟨F', b, δ', e.trans e1, h⟩
theorem TQ.back {Q : Bool → Env' → Prop} {v : Bool} (e : Same F F1) (h : TQ K W F1 σ Q v H) : TQ K W F σ Q v H := by
  obtain ⟨F', δ', e1, h⟩ := h
  exact ⟨F', δ', e.trans e1, h⟩
theorem AQ.back {Q : List D → Env' → Prop} {v : List V} (e : Same F F1) (h : AQ K W F1 σ Q v H) : AQ K W F σ Q v H := by
  obtain ⟨F', b, δ', e1, h⟩ := h
  exact ⟨F', b, δ', e.trans e1, h⟩
theorem own_noU {b : B} (h : b.isU = false) (g : b.own = true) : ∃ d, b = .o d := by
  cases b with
  | p d => cases g
  | n ds => cases g
  | o d => exact ⟨d, rfl⟩
  | u w n => cases h
  | s d => cases h
/-- what is frozen where it stood owned -/
theorem own_frozen {o : HO} {d : D} {a : Addr} (h : Own K F H d a) (ho : H a = some o) (hF : F a = none) : Rp K (upd F a o) d (.ref a) := by
  have e : Same F (upd F a o) := same_upd hF
  cases d <;> first | exact h.elim | skip
  · obtain ⟨xs, h1, h2⟩ := h
    rw [h1] at ho
    cases ho
    unfold Rp
    exact ⟨a, xs, rfl, upd_same, RpL.mono e _ _ h2⟩
  · obtain ⟨xs, h1, h2, h3⟩ := h
    rw [h1] at ho
    cases ho
    unfold Rp
    exact ⟨a, xs, rfl, upd_same, RpL.mono e _ _ h2, h3⟩
  · obtain ⟨dx, xs, h1, h2, h3⟩ := h
    rw [h1] at ho
    cases ho
    unfold Rp
    exact ⟨a, dx, xs, rfl, upd_same, RpL.mono e _ _ h2, h3⟩
  · have h1 : H a = some (.set _ _) := h
    rw [h1] at ho
    cases ho
    unfold Rp
    exact ⟨a, rfl, upd_same⟩
/-- data as plain data -/
theorem DQ.plain {Q : B → Env' → Prop} {v : V} (h : DQ K W F σ (fun b δ' => b.isU = false ∧ Q b δ') v H) :
    ∃ (F' : Hp) (b : B) (δ' : Env'), Same F F' ∧ SD K W F' H σ δ' ∧ Rp K F' b.d v ∧ Q b δ' := by
  obtain ⟨F', b, δ', e1, S, r, hs, hu, q⟩ := h
  cases b with
  | p d => exact ⟨F', .p d, δ', e1, S, r, q⟩
  | n ds =>
    obtain ⟨t, xs, rfl, h1, h2, _⟩ := r
    refine ⟨F', .n ds, δ', e1, S, ?_, q⟩
    show Rp K F' (.tup ds) (.ref t)
    unfold Rp
    exact ⟨t, xs, rfl, h1, h2⟩
  | u w n => cases hu
  | s d => cases hu
  | o d =>
    obtain ⟨a, rfl, h1, h2, h3⟩ := r
    obtain ⟨o, ho⟩ := h3.some
    exact ⟨upd F' a o, .o d, δ', e1.trans (same_upd h1), S.freeze ho h2 h1 (hs rfl), own_frozen h3 ho h1, q⟩
/-- plain data as a result -/
theorem DQ.mk {Q : B → Env' → Prop} {v : V} {d : D} (S : SD K W F H σ δ) (r : Rp K F d v) (q : Q (.p d) δ) : DQ K W F σ Q v H :=
  ⟨F, .p d, δ, Same.refl F, S, r, (fun h => by cases h), q⟩
theorem DQ.mkN {Q : B → Env' → Prop} {p : Addr} {o : HO} {d : D} (S : SD K W F H σ δ) (hp : H p = none) (r : Rp K (upd F p o) d (.ref p)) (q : Q (.p d) δ) : DQ K W F σ Q (.ref p) (upd H p o) :=
  ⟨upd F p o, .p d, δ, same_upd (S.freshF hp), S.new hp, r, (fun h => by cases h), q⟩
/-- a new object of one's own as a result -/
theorem DQ.mkO {Q : B → Env' → Prop} {p : Addr} {o : HO} {d : D} (S : SD K W F H σ δ) (hp : H p = none) (r : Own K F (upd H p o) d p) (q : Q (.o d) δ) : DQ K W F σ Q (.ref p) (upd H p o) := by
  refine ⟨F, .o d, δ, Same.refl F, S.newO hp, ⟨p, rfl, S.freshF hp, S.fresh0 hp, r⟩, fun _ j c h1 h2 h3 => ?_, q⟩
  obtain ⟨v, e1, r1⟩ := S.get j c h1
  rw [h3] at e1
  cases e1
  obtain ⟨a, o', e2, h4, _⟩ := r1.there h2
  cases e2
  rw [hp] at h4
  cases h4
end

/-- a part whose value is taken as plain data -/
def dp (t : TD) : Env' → (D → Env' → Prop) → Prop := fun δ Q => t δ fun b δ' => b.isU = false ∧ Q b.d δ'
section
variable {X : Cx} {W : Fix} {e a b : Expr} {t ta tb : TD}
theorem DE.plain {F H : Hp} {σ : L2.St} {δ : Env'} {Q : D → Env' → Prop} (h : DE X W e t) (S : SD X.K W F H σ δ) (q : dp t δ Q) :
    cE X e σ H fun v H' => ∃ (F' : Hp) (d : D) (δ' : Env'), Same F F' ∧ SD X.K W F' H' σ δ' ∧ Rp X.K F' d v ∧ Q d δ' :=
  (h.run F H σ δ _ S q).imp fun v H' z => by
    obtain ⟨F', b, δ', e, S', r, q⟩ := DQ.plain (Q := fun b δ' => Q b.d δ') z
    exact ⟨F', b.d, δ', e, S', r, q⟩
theorem DE.of {te : TE} (h : PE X e te) (hh : ∀ (F H : Hp) (σ : L2.St) (δ : Env') (Q : B → Env' → Prop), SD X.K W F H σ δ → t δ Q → te σ H (DQ X.K W F σ Q)) : DE X W e t :=
  ⟨fun F H σ δ Q S q => cE_of h (hh F H σ δ Q S q)⟩

/-! ### names, constants -/
def dC (d : D) : TD := fun δ Q => Q (.p d) δ
/-- what a name holds once it was read -/
def B.rd : B → B
  | .n ds => .n ds
  | b => .p b.d
/-- a name: what was one's own is shared from then on -/
def dV (i : Nat) : TD := fun δ Q => ∃ b, δ[i]? = some (some b) ∧ b.isU = false ∧ Q (.p b.d) (δ.set i (some b.rd))
/-- a name whose value leaves it (returned, handed on): what was its own stays so -/
def dM (i : Nat) : TD := fun δ Q => ∃ b, δ[i]? = some (some b) ∧ b.isU = false ∧ Q b (δ.set i none)
theorem SD.put {K : PySem.W.Frag} {F H : Hp} {σ : L2.St} {δ : Env'} {i : Nat} {v : V} {b : B} (S : SD K W F H σ δ) (r : RB K W F H b v)
    (hs : b.own = true → ∀ (j : Nat) (c : B), δ[j]? = some (some c) → c.own = true → j ≠ i → σ[j]? ≠ some (some v)) : SD K W F H (σ.set i (some v)) (δ.set i (some b)) where
  f0 := S.f0
  h0 := S.h0
  fh := S.fh
  fr := S.fr
  fp := S.fp
  len := by rw [List.length_set, List.length_set, S.len]
  get := fun j c h => by
    by_cases e : j = i
    · subst e
      have hl : j < δ.length := by
        have := (List.getElem?_eq_some_iff.mp h).1
        rw [List.length_set] at this
        exact this
      rw [List.getElem?_set_self hl] at h
      cases h
      exact ⟨v, by rw [List.getElem?_set_self (by rw [S.len]; exact hl)], r⟩
    · rw [List.getElem?_set_ne (Ne.symm e)] at h
      rw [List.getElem?_set_ne (Ne.symm e)]
      exact S.get j c h
  sep := fun j k c d x ne h1 h2 h3 h4 h5 => by
    by_cases ej : j = i
    · subst ej
      have ek : k ≠ j := Ne.symm ne
      have hl : j < δ.length := by
        have := (List.getElem?_eq_some_iff.mp h1).1
        rw [List.length_set] at this
        exact this
      rw [List.getElem?_set_self hl] at h1
      cases h1
      rw [List.getElem?_set_self (by rw [S.len]; exact hl)] at h5
      cases h5
      rw [List.getElem?_set_ne ne] at h3 ⊢
      exact hs h2 k d h3 h4 ek
    · rw [List.getElem?_set_ne (Ne.symm ej)] at h1 h5
      by_cases ek : k = i
      · subst ek
        have hl : k < δ.length := by
          have := (List.getElem?_eq_some_iff.mp h3).1
          rw [List.length_set] at this
          exact this
        rw [List.getElem?_set_self hl] at h3
        cases h3
        rw [List.getElem?_set_self (by rw [S.len]; exact hl)]
        intro z
        cases z
        exact hs h4 j c h1 h2 ej h5
      · rw [List.getElem?_set_ne (Ne.symm ek)] at h3 ⊢
        exact S.sep j k c d x ne h1 h2 h3 h4 h5
/-- what a slot is known to hold is forgotten -/
theorem SD.drop {K : PySem.W.Frag} {F H : Hp} {σ : L2.St} {δ : Env'} {i : Nat} (S : SD K W F H σ δ) : SD K W F H σ (δ.set i none) where
  f0 := S.f0
  h0 := S.h0
  fh := S.fh
  fr := S.fr
  fp := S.fp
  len := by rw [List.length_set, S.len]
  get := fun j c h => by
    by_cases e : j = i
    · subst e
      have hl : j < δ.length := by
        have := (List.getElem?_eq_some_iff.mp h).1
        rw [List.length_set] at this
        exact this
      rw [List.getElem?_set_self hl] at h
      cases h
    · rw [List.getElem?_set_ne (Ne.symm e)] at h
      exact S.get j c h
  sep := fun j k c d x ne h1 h2 h3 h4 h5 => by
    have aux : ∀ (m : Nat) (c : B), (δ.set i none)[m]? = some (some c) → δ[m]? = some (some c) := fun m c h => by
      by_cases e : m = i
      · subst e
        have hl : m < δ.length := by
          have := (List.getElem?_eq_some_iff.mp h).1
          rw [List.length_set] at this
          exact this
        rw [List.getElem?_set_self hl] at h
        cases h
      · rw [List.getElem?_set_ne (Ne.symm e)] at h
        exact h
    exact S.sep j k c d x ne (aux j c h1) h2 (aux k d h3) h4 h5
theorem set_noop {α : Type} {l : List α} {i : Nat} {x : α} (h : l[i]? = some x) : l.set i x = l := by
  obtain ⟨h1, h2⟩ := List.getElem?_eq_some_iff.mp h
  rw [← h2]
  exact List.set_getElem_self h1
theorem de_var {i : Nat} {x : Str} {pos : Pos} (hN : X.N[i]? = some x) (hv : Vis X.env.scope x) (hd : (x == ("__debug__" : Str)) = false := by decide) (hcd : (x == ("__classdict__" : Str)) = false := by decide) :
    DE X W (.Name x pos) (dV i) := .of (pe_var (X := X) hN hv hd hcd) fun F H σ δ Q S q => by
  obtain ⟨b, h1, h2, q⟩ := q
  obtain ⟨v, h3, r⟩ := S.get i b h1
  refine ⟨v, h3, ?_⟩
  cases b with
  | u w n => cases h2
  | s d => cases h2
  | n ds =>
    have e : δ.set i (some (B.n ds).rd) = δ := set_noop h1
    rw [e] at q
    obtain ⟨t, xs, rfl, h4, h5, _⟩ := r
    refine .mk S (?_ : Rp X.K F (.tup ds) (.ref t)) q
    unfold Rp
    exact ⟨t, xs, rfl, h4, h5⟩
  | p d =>
    have e : δ.set i (some (.p d)) = δ := set_noop h1
    have q : Q (.p d) (δ.set i (some (.p d))) := q
    rw [e] at q
    exact .mk S r q
  | o d =>
    obtain ⟨a, rfl, hF, h0, hO⟩ := r
    obtain ⟨o, ho⟩ := hO.some
    have S1 := SD.drop (i := i) S
    have S2 : SD X.K W (upd F a o) H σ (δ.set i none) := S1.freeze ho h0 hF fun j c e1 e2 e3 => by
      by_cases ej : j = i
      · subst ej
        have hl : j < δ.length := (List.getElem?_eq_some_iff.mp h1).1
        rw [List.getElem?_set_self hl] at e1
        cases e1
      · rw [List.getElem?_set_ne (Ne.symm ej)] at e1
        exact S.sep i j (.o d) c (.ref a) (Ne.symm ej) h1 rfl e1 e2 h3 e3
    have r2 : RB X.K W (upd F a o) H (.p d) (.ref a) := own_frozen hO ho hF
    have S3 := S2.put (i := i) r2 (fun z => by cases z)
    rw [set_noop h3, List.set_set] at S3
    exact ⟨upd F a o, .p d, _, same_upd hF, S3, r2, (fun z => by cases z), q⟩
theorem de_move {i : Nat} {x : Str} {pos : Pos} (hN : X.N[i]? = some x) (hv : Vis X.env.scope x) (hd : (x == ("__debug__" : Str)) = false := by decide) (hcd : (x == ("__classdict__" : Str)) = false := by decide) :
    DE X W (.Name x pos) (dM i) := .of (pe_var (X := X) hN hv hd hcd) fun F H σ δ Q S q => by
  obtain ⟨b, h1, h2, q⟩ := q
  obtain ⟨v, h3, r⟩ := S.get i b h1
  refine ⟨v, h3, F, b, _, Same.refl F, S.drop, r, fun hb j c e1 e2 e3 => ?_, q⟩
  by_cases ej : j = i
  · subst ej
    have hl : j < δ.length := (List.getElem?_eq_some_iff.mp h1).1
    rw [List.getElem?_set_self hl] at e1
    cases e1
  · rw [List.getElem?_set_ne (Ne.symm ej)] at e1
    exact S.sep i j b c v (Ne.symm ej) h1 hb e1 e2 h3 e3
theorem de_int {i : Int} {j : Nat} {pos : Pos} : DE X W (.Constant (.int i) j pos) (dC (.int i)) := .of pe_int fun F H σ δ Q S q => .mk S (by unfold Rp; rfl) q
theorem de_bl {i : Bool} {j : Nat} {pos : Pos} : DE X W (.Constant (.bool i) j pos) (dC (.bl i)) := .of pe_bl fun F H σ δ Q S q => .mk S (by unfold Rp; rfl) q
theorem de_non {j : Nat} {pos : Pos} : DE X W (.Constant .none j pos) (dC .non) := .of pe_non fun F H σ δ Q S q => .mk S (by unfold Rp; rfl) q
theorem de_str {i : Str} {j : Nat} {pos : Pos} : DE X W (.Constant (.str i) j pos) (dC (.str i)) := .of pe_str fun F H σ δ Q S q => .mk S (by unfold Rp; rfl) q
/-- a constant of the module -/
theorem de_glob {x : Str} {d : D} {v : V} {u : Value} {pos : Pos} (hg : Gl X x) (hm : X.mg x = some u) (r : RelV v u) (hr : ∀ F, Rp X.K F d v) (hd : (x == ("__debug__" : Str)) = false := by decide) :
    DE X W (.Name x pos) (dC d) := .of (pe_glob hg hm r hd) fun F H σ δ Q S q => .mk S (hr F) q
theorem de_bltn {x : Str} {d : D} {v : V} {u : Value} {pos : Pos} (hg : Gl X x) (hm : X.mg x = none) (hv : bootBuiltins x = some u) (r : RelV v u) (hr : ∀ F, Rp X.K F d v) (hn : x ≠ "__name__" := by decide) (hd : (x == ("__debug__" : Str)) = false := by decide) :
    DE X W (.Name x pos) (dC d) := .of (pe_bltn hg hm hv r hn hd) fun F H σ δ Q S q => .mk S (hr F) q

/-! ### two operands -/
/-- what an operation on two values does over data -/
def RD (K : PySem.W.Frag) (r : R2) (g : D → D → (B → Prop) → Prop) : Prop :=
  ∀ (W : Fix) (F H : Hp) (σ : L2.St) (δ : Env') (x y : V) (c d : D) (Q : B → Prop) (Z : VK), SD K W F H σ δ → Rp K F c x → Rp K F d y → g c d Q →
    (∀ v H', DQ K W F σ (fun b δ' => δ' = δ ∧ Q b) v H' → Z v H') → r x y H Z
def dOp (g : D → D → (B → Prop) → Prop) (ta tb : TD) : TD := fun δ Q => dp ta δ fun x δ1 => dp tb δ1 fun y δ2 => g x y fun z => Q z δ2
theorem DQ.fix {K : PySem.W.Frag} {F F0 H : Hp} {σ : L2.St} {δ : Env'} {Q : B → Env' → Prop} {v : V} (e : Same F0 F) (h : DQ K W F σ (fun b δ' => δ' = δ ∧ Q b δ) v H) : DQ K W F0 σ Q v H := by
  obtain ⟨F', b, δ', e1, S, r, hs, rfl, q⟩ := h
  exact ⟨F', b, δ', e.trans e1, S, r, hs, q⟩
theorem two {F H : Hp} {σ : L2.St} {δ : Env'} {r : R2} {g : D → D → (B → Prop) → Prop} {Q : B → Env' → Prop} (ha : DE X W a ta) (hb : DE X W b tb) (hr : RD X.K r g) (S : SD X.K W F H σ δ) (q : dOp g ta tb δ Q) :
    tOp r (cE X a) (cE X b) σ H (DQ X.K W F σ Q) := by
  refine (ha.plain S q).imp fun x H1 h1 => ?_
  obtain ⟨F1, c, δ1, e1, S1, r1, q1⟩ := h1
  refine (hb.plain S1 q1).imp fun y H2 h2 => ?_
  obtain ⟨F2, d, δ2, e2, S2, r2, q2⟩ := h2
  exact hr W F2 H2 σ δ2 x y c d _ _ S2 (Rp.mono e2 c x r1) r2 q2 fun v H' h => h.fix (e1.trans e2)
theorem de_op {op : Operator} {pos : Pos} {r : R2} {g : D → D → (B → Prop) → Prop} (ho : OpR X (binaryOp op) r) (hr : RD X.K r g) (ha : DE X W a ta) (hb : DE X W b tb) : DE X W (.BinOp a op b pos) (dOp g ta tb) :=
  .of (pe_op ho cE_pe cE_pe) fun _ _ _ _ _ S q => two ha hb hr S q
theorem de_cmp {op : CmpOp} {pos : Pos} {r : R2} {g : D → D → (B → Prop) → Prop} (ho : OpR X (compareOp op) r) (hr : RD X.K r g) (ha : DE X W a ta) (hb : DE X W b tb) (hm : behindInMarks op b = false) : DE X W (.Compare a [op] [b] pos) (dOp g ta tb) :=
  .of (pe_cmpR ho cE_pe cE_pe hm) fun _ _ _ _ _ S q => two ha hb hr S q
/-- a test by its value, a bool -/
def dT (t : TD) : TDT := fun δ Q => t δ fun b δ' => ∃ k, b = .p (.bl k) ∧ Q k δ'
theorem dt_cmp {op : CmpOp} {pos : Pos} {r : R2} {g : D → D → (B → Prop) → Prop} (ho : OpR X (compareOp op) r) (hr : RD X.K r g) (ha : DE X W a ta) (hb : DE X W b tb) (hm : behindInMarks op b = false) : DT X W (.Compare a [op] [b] pos) (dT (dOp g ta tb)) := by
  refine ⟨fun F H σ δ Q S q => cT_of (pt_cmpR ho cE_pe cE_pe hm) ?_⟩
  have q : dp ta δ fun x δ1 => dp tb δ1 fun y δ2 => g x y fun z => ∃ k, z = .p (.bl k) ∧ Q k δ2 := q
  refine (ha.plain S q).imp fun x H1 h1 => ?_
  obtain ⟨F1, c, δ1, e1, S1, r1, q1⟩ := h1
  refine (hb.plain S1 q1).imp fun y H2 h2 => ?_
  obtain ⟨F2, d, δ2, e2, S2, r2, q2⟩ := h2
  refine hr W F2 H2 σ δ2 x y c d _ _ S2 (Rp.mono e2 c x r1) r2 q2 fun v H' h => ?_
  obtain ⟨F3, b, δ3, e3, S3, r3, _, rfl, k, rfl, q3⟩ := h
  exact ⟨k, r3, F3, δ3, (e1.trans e2).trans e3, S3, q3⟩
theorem dt_val {he : ∀ whole, isTrue e X.env whole = (do let v ← whole; standAt e.pos; holding [v] (truthy v))} (h : DE X W e t) : DT X W e (dT t) := by
  refine ⟨fun F H σ δ Q S q => cT_of (pt_val (t := cE X e) cE_pe he) ?_⟩
  refine (h.run F H σ δ _ S q).imp fun x H1 h1 => ?_
  obtain ⟨F3, b, δ3, e3, S3, r3, _, k, rfl, q3⟩ := h1
  exact ⟨k, r3, F3, δ3, e3, S3, q3⟩
end

/-! ### and, or, not; a if t else b -/
section
variable {X : Cx} {W : Fix} {a b c : Expr} {rest : List Expr} {t u : TDT} {ta tb : TD} {pos : Pos}
def dAnd (t u : TDT) : TDT := fun δ Q => t δ fun k δ1 => if k = true then u δ1 Q else Q false δ1
def dOr (t u : TDT) : TDT := fun δ Q => t δ fun k δ1 => if k = true then Q true δ1 else u δ1 Q
def dNot (t : TDT) : TDT := fun δ Q => t δ fun k δ1 => Q (!k) δ1
theorem dw_and1 (h : DT X W a t) : DW X W (.BoolOp .And [a] pos) t := ⟨fun F H σ δ Q S q wh pins s I => (pw_and1 (X := X) cT_pt).run wh pins s σ H _ I (h.run F H σ δ Q S q)⟩
theorem dw_or1 (h : DT X W a t) : DW X W (.BoolOp .Or [a] pos) t := ⟨fun F H σ δ Q S q wh pins s I => (pw_or1 (X := X) cT_pt).run wh pins s σ H _ I (h.run F H σ δ Q S q)⟩
theorem dw_and (h : DT X W a t) (g : DW X W (.BoolOp .And (b :: rest) pos) u) : DW X W (.BoolOp .And (a :: b :: rest) pos) (dAnd t u) := by
  refine ⟨fun F H σ δ Q S q wh pins s I => (pw_and (X := X) cT_pt cW_pw).run wh pins s σ H _ I ?_⟩
  refine (h.run F H σ δ _ S q).imp fun k H1 h1 => ?_
  obtain ⟨F1, δ1, e1, S1, q1⟩ := h1
  cases k with
  | true =>
    rw [if_pos rfl] at q1 ⊢
    exact (g.run F1 H1 σ δ1 Q S1 q1).imp fun k2 H2 h2 => h2.back e1
  | false =>
    rw [if_neg Bool.false_ne_true] at q1 ⊢
    exact ⟨F1, δ1, e1, S1, q1⟩
theorem dw_or (h : DT X W a t) (g : DW X W (.BoolOp .Or (b :: rest) pos) u) : DW X W (.BoolOp .Or (a :: b :: rest) pos) (dOr t u) := by
  refine ⟨fun F H σ δ Q S q wh pins s I => (pw_or (X := X) cT_pt cW_pw).run wh pins s σ H _ I ?_⟩
  refine (h.run F H σ δ _ S q).imp fun k H1 h1 => ?_
  obtain ⟨F1, δ1, e1, S1, q1⟩ := h1
  cases k with
  | false =>
    rw [if_neg Bool.false_ne_true] at q1 ⊢
    exact (g.run F1 H1 σ δ1 Q S1 q1).imp fun k2 H2 h2 => h2.back e1
  | true =>
    rw [if_pos rfl] at q1 ⊢
    exact ⟨F1, δ1, e1, S1, q1⟩
theorem dt_not (h : DT X W a t) : DT X W (.UnaryOp .Not a pos) (dNot t) := by
  refine ⟨fun F H σ δ Q S q => cT_of (pt_not (X := X) cT_pt) ?_⟩
  exact (h.run F H σ δ _ S q).imp fun k H1 h1 => h1
/-- and, or, not as values: all are bools -/
def dAndV (ta tb : TD) : TD := fun δ Q => ta δ fun x δ1 => ∃ k, x = .p (.bl k) ∧ if k = true then tb δ1 Q else Q (.p (.bl false)) δ1
def dOrV (ta tb : TD) : TD := fun δ Q => ta δ fun x δ1 => ∃ k, x = .p (.bl k) ∧ if k = true then Q (.p (.bl true)) δ1 else tb δ1 Q
def dNotV (ta : TD) : TD := fun δ Q => ta δ fun x δ1 => ∃ k, x = .p (.bl k) ∧ Q (.p (.bl (!k))) δ1
theorem de_one {op : BoolOp} (h : DE X W a ta) : DE X W (.BoolOp op [a] pos) ta := .of (pe_one (X := X) (t := cE X a) cE_pe) fun F H σ δ Q S q => h.run F H σ δ Q S q
theorem de_and (h : DE X W a ta) (g : DE X W (.BoolOp .And (b :: rest) pos) tb) : DE X W (.BoolOp .And (a :: b :: rest) pos) (dAndV ta tb) := .of (pe_and (X := X) cE_pe cE_pe) fun F H σ δ Q S q => by
  refine (h.run F H σ δ _ S q).imp fun x H1 h1 => ?_
  obtain ⟨F1, b1, δ1, e1, S1, r1, _, k, rfl, q1⟩ := h1
  refine ⟨k, r1, ?_⟩
  cases k with
  | true =>
    rw [if_pos rfl] at q1 ⊢
    exact (g.run F1 H1 σ δ1 Q S1 q1).imp fun k2 H2 h2 => h2.back e1
  | false =>
    rw [if_neg Bool.false_ne_true] at q1 ⊢
    exact (DQ.mk (Q := Q) S1 (by unfold Rp; rfl) q1).back e1
theorem de_or (h : DE X W a ta) (g : DE X W (.BoolOp .Or (b :: rest) pos) tb) : DE X W (.BoolOp .Or (a :: b :: rest) pos) (dOrV ta tb) := .of (pe_or (X := X) cE_pe cE_pe) fun F H σ δ Q S q => by
  refine (h.run F H σ δ _ S q).imp fun x H1 h1 => ?_
  obtain ⟨F1, b1, δ1, e1, S1, r1, _, k, rfl, q1⟩ := h1
  refine ⟨k, r1, ?_⟩
  cases k with
  | false =>
    rw [if_neg Bool.false_ne_true] at q1 ⊢
    exact (g.run F1 H1 σ δ1 Q S1 q1).imp fun k2 H2 h2 => h2.back e1
  | true =>
    rw [if_pos rfl] at q1 ⊢
    exact (DQ.mk (Q := Q) S1 (by unfold Rp; rfl) q1).back e1
theorem de_not (h : DE X W a ta) : DE X W (.UnaryOp .Not a pos) (dNotV ta) := .of (pe_not (X := X) cE_pe) fun F H σ δ Q S q => by
  refine (h.run F H σ δ _ S q).imp fun x H1 h1 => ?_
  obtain ⟨F1, b1, δ1, e1, S1, r1, _, k, rfl, q1⟩ := h1
  exact ⟨k, r1, (DQ.mk (Q := Q) S1 (d := .bl (!k)) (by unfold Rp; rfl) q1).back e1⟩
def dIf (t : TDT) (ta tb : TD) : TD := fun δ Q => t δ fun k δ1 => if k = true then ta δ1 Q else tb δ1 Q
theorem de_ifExp (hc : DT X W c t) (ha : DE X W a ta) (hb : DE X W b tb) : DE X W (.IfExp c a b pos) (dIf t ta tb) := .of (pe_ifExp (X := X) cT_pt cE_pe cE_pe) fun F H σ δ Q S q => by
  refine (hc.run F H σ δ _ S q).imp fun k H1 h1 => ?_
  obtain ⟨F1, δ1, e1, S1, q1⟩ := h1
  cases k with
  | true =>
    rw [if_pos rfl] at q1 ⊢
    exact (ha.run F1 H1 σ δ1 Q S1 q1).imp fun k2 H2 h2 => h2.back e1
  | false =>
    rw [if_neg Bool.false_ne_true] at q1 ⊢
    exact (hb.run F1 H1 σ δ1 Q S1 q1).imp fun k2 H2 h2 => h2.back e1
end

/-! ### rows of expressions; displays -/
section
variable {X : Cx} {W : Fix} {e : Expr} {es : List Expr} {te : TD} {t : TDA} {pos : Pos}
def dNil : TDA := fun δ Q => Q [] δ
def dCons (te : TD) (t : TDA) : TDA := fun δ Q => dp te δ fun x δ1 => t δ1 fun xs δ2 => Q (x :: xs) δ2
theorem da_nil : DA X W [] dNil := ⟨fun F H σ δ Q S q pos pins s I => (pa_nil (X := X)).run pos pins s σ H _ I ⟨F, [], δ, Same.refl F, S, .nil, q⟩⟩
theorem da_cons (h : DE X W e te) (g : DA X W es t) (hs : starEach (e :: es) X.env = (false, eval e X.env) :: starEach es X.env := by rfl) : DA X W (e :: es) (dCons te t) := by
  refine ⟨fun F H σ δ Q S q pos pins s I => (pa_cons (X := X) cE_pe cA_pa hs).run pos pins s σ H _ I ?_⟩
  refine (h.plain S q).imp fun x H1 h1 => ?_
  obtain ⟨F1, d, δ1, e1, S1, r1, q1⟩ := h1
  refine (g.run F1 H1 σ δ1 _ S1 q1).imp fun xs H2 h2 => ?_
  obtain ⟨F2, ds, δ2, e2, S2, r2, q2⟩ := h2
  exact ⟨F2, d :: ds, δ2, e1.trans e2, S2, .cons (Rp.mono e2 d x r1) r2, q2⟩
def dTup (t : TDA) : TD := fun δ Q => t δ fun ds δ1 => ds.length ≤ sizeLine ∧ Q (.p (.tup ds)) δ1
def dLst (t : TDA) : TD := fun δ Q => t δ fun ds δ1 => ds.length ≤ sizeLine ∧ Q (.o (.lst ds)) δ1
theorem de_tup {x1 : Nat} (h : DA X W es t) : DE X W (.Tuple es x1 pos) (dTup t) := .of (pe_tup (X := X) cA_pa) fun F H σ δ Q S q => by
  refine (h.run F H σ δ _ S q).imp fun xs H1 h1 => ?_
  obtain ⟨F1, ds, δ1, e1, S1, r1, hz, q1⟩ := h1
  refine ⟨by rw [r1.length]; exact hz, fun p hp => ?_⟩
  refine (DQ.mkN S1 hp ?_ q1).back e1
  unfold Rp
  exact ⟨p, xs, rfl, .inl (.inl upd_same), RpL.mono (same_upd (S1.freshF hp)) _ _ r1⟩
theorem de_lst (h : DA X W es t) : DE X W (.List es pos) (dLst t) := .of (pe_lst (X := X) cA_pa) fun F H σ δ Q S q => by
  refine (h.run F H σ δ _ S q).imp fun xs H1 h1 => ?_
  obtain ⟨F1, ds, δ1, e1, S1, r1, hz, q1⟩ := h1
  refine ⟨by rw [r1.length]; exact hz, fun p hp => ?_⟩
  exact (DQ.mkO (d := .lst ds) S1 hp ⟨xs, upd_same, r1⟩ q1).back e1
end
end DD

set_option Elab.async false
set_option linter.all false
set_option maxRecDepth 100000
set_option maxHeartbeats 4000000
/-! DD3: statements over data; loops by recursion on what they walk; comprehensions. -/
namespace DD
open PySem PySem.Spec PyProof.Rows L2

structure EndsD where
  nx : Env' → Prop
  rt : B → Env' → Prop
  bk : Env' → Prop := fun _ => False
  ct : Env' → Prop := fun _ => False
abbrev TSD := EndsD → Env' → Prop
def NQ (K : PySem.W.Frag) (W : Fix) (F : Hp) (N : Env' → Prop) : L2.St → Hp → Prop := fun σ' H' => ∃ (F' : Hp) (δ' : Env'), Same F F' ∧ SD K W F' H' σ' δ' ∧ N δ'
/-- behind a statement: what is frozen may have shrunk -/
def MQ (K : PySem.W.Frag) (W : Fix) (N : Env' → Prop) : L2.St → Hp → Prop := fun σ' H' => ∃ (F' : Hp) (δ' : Env'), SD K W F' H' σ' δ' ∧ N δ'
def UQ (K : PySem.W.Frag) (W : Fix) (R : B → Env' → Prop) : VK := fun v H' => ∃ F σ', DQ K W F σ' R v H'
def toE (K : PySem.W.Frag) (W : Fix) (D : EndsD) : Ends where
  nx := MQ K W D.nx
  rt := UQ K W D.rt
  bk := MQ K W D.bk
  ct := MQ K W D.ct
structure DS (X : Cx) (W : Fix) (st : Stmt) (t : TSD) : Prop where
  run : ∀ (F H : Hp) (σ : L2.St) (δ : Env') (D : EndsD), SD X.K W F H σ δ → t D δ → cS X st (toE X.K W D) σ H
structure DSs (X : Cx) (W : Fix) (st : List Stmt) (t : TSD) : Prop where
  run : ∀ (F H : Hp) (σ : L2.St) (δ : Env') (D : EndsD), SD X.K W F H σ δ → t D δ → cSs X st (toE X.K W D) σ H
theorem NQ.back {K : PySem.W.Frag} {W : Fix} {F F1 H : Hp} {σ : L2.St} {N : Env' → Prop} (e : Same F F1) (h : NQ K W F1 N σ H) : NQ K W F N σ H := by
  obtain ⟨F', δ', e1, h⟩ := h
  exact ⟨F', δ', e.trans e1, h⟩
theorem cS.imp {X : Cx} {st : Stmt} {D D' : Ends} {σ : L2.St} {H : Hp} (h : cS X st D σ H) (h1 : ∀ σ H, D.nx σ H → D'.nx σ H) (h2 : ∀ v H, D.rt v H → D'.rt v H) (h3 : ∀ σ H, D.bk σ H → D'.bk σ H) (h4 : ∀ σ H, D.ct σ H → D'.ct σ H) : cS X st D' σ H :=
  fun pins s I => thn (h pins s I) fun _ _ q => SP.imp q h1 h2 h3 h4
theorem cSs.imp {X : Cx} {st : List Stmt} {D D' : Ends} {σ : L2.St} {H : Hp} (h : cSs X st D σ H) (h1 : ∀ σ H, D.nx σ H → D'.nx σ H) (h2 : ∀ v H, D.rt v H → D'.rt v H) (h3 : ∀ σ H, D.bk σ H → D'.bk σ H) (h4 : ∀ σ H, D.ct σ H → D'.ct σ H) : cSs X st D' σ H :=
  fun pins s I => thn (h pins s I) fun _ _ q => SP.imp q h1 h2 h3 h4
section
variable {X : Cx} {W : Fix} {st : Stmt} {rest : List Stmt} {e c : Expr} {t u : TSD} {te : TD} {tc : TDT} {pos : Pos}
def dNext : TSD := fun D δ => D.nx δ
def dSeq (t u : TSD) : TSD := fun D δ => t { D with nx := u D } δ
theorem dss_nil : DSs X W [] dNext := ⟨fun F H σ δ D S q pins s I => (pss_nil (X := X)).run pins s σ H _ I ⟨F, δ, S, q⟩⟩
theorem dss_cons (h : DS X W st t) (g : DSs X W rest u) : DSs X W (st :: rest) (dSeq t u) := by
  refine ⟨fun F H σ δ D S q pins s I => (pss_cons (X := X) cS_ps cSs_pss).run pins s σ H _ I ?_⟩
  refine (h.run F H σ δ _ S q).imp (fun σ1 H1 h1 => ?_) (fun _ _ h => h) (fun _ _ h => h) (fun _ _ h => h)
  obtain ⟨F1, δ1, S1, q1⟩ := h1
  exact g.run F1 H1 σ1 δ1 D S1 q1
theorem dss_one (h : DS X W st t) : DSs X W [st] t := ⟨fun F H σ δ D S q pins s I => (pss_one (X := X) cS_ps).run pins s σ H _ I (h.run F H σ δ D S q)⟩
def dBreak : TSD := fun D δ => D.bk δ
def dCont : TSD := fun D δ => D.ct δ
theorem cS_of {t : TS} {D : Ends} {σ : L2.St} {H : Hp} (h : PS X st t) (q : t D σ H) : cS X st D σ H := fun pins s I => h.run pins s σ H D I q
theorem DS.of {ts : TS} (h : PS X st ts) (hh : ∀ (F H : Hp) (σ : L2.St) (δ : Env') (D : EndsD), SD X.K W F H σ δ → t D δ → ts (toE X.K W D) σ H) : DS X W st t :=
  ⟨fun F H σ δ D S q => cS_of h (hh F H σ δ D S q)⟩
theorem ds_pass : DS X W (.Pass pos) dNext := .of ps_pass fun F H σ δ D S q => ⟨F, δ, S, q⟩
theorem ds_break : DS X W (.Break pos) dBreak := .of ps_break fun F H σ δ D S q => ⟨F, δ, S, q⟩
theorem ds_continue : DS X W (.Continue pos) dCont := .of ps_continue fun F H σ δ D S q => ⟨F, δ, S, q⟩
def dDrop (te : TD) : TSD := fun D δ => te δ fun _ δ1 => D.nx δ1
theorem ds_expr (h : DE X W e te) (hs : swapsWith e none pos.line X.env = pure false := by rfl) : DS X W (.Expr e pos) (dDrop te) := .of (ps_expr (X := X) cE_pe hs) fun F H σ δ D S q => by
  refine (h.run F H σ δ _ S q).imp fun v H1 h1 => ?_
  obtain ⟨F1, b, δ1, e1, S1, _, _, q1⟩ := h1
  exact ⟨F1, δ1, S1, q1⟩
def dRet (te : TD) : TSD := fun D δ => te δ D.rt
theorem ds_ret (h : DE X W e te) : DS X W (.Return (some e) pos) (dRet te) := .of (ps_ret (X := X) cE_pe) fun F H σ δ D S q =>
  (h.run F H σ δ _ S q).imp fun v H1 h1 => ⟨F, σ, h1⟩
def dRetN : TSD := fun D δ => D.rt (.p .non) δ
theorem ds_retN : DS X W (.Return none pos) dRetN := .of ps_retN fun F H σ δ D S q => ⟨F, σ, .mk S (by unfold Rp; rfl) q⟩
def dIfS (tc : TDT) (t u : TSD) : TSD := fun D δ => tc δ fun k δ1 => if k = true then t D δ1 else u D δ1
theorem ds_if {a b : List Stmt} (hc : DT X W c tc) (ha : DSs X W a t) (hb : DSs X W b u) : DS X W (.If c a b pos) (dIfS tc t u) := .of (ps_if (X := X) cT_pt cSs_pss cSs_pss) fun F H σ δ D S q => by
  refine (hc.run F H σ δ _ S q).imp fun k H1 h1 => ?_
  obtain ⟨F1, δ1, e1, S1, q1⟩ := h1
  cases k with
  | true =>
    rw [if_pos rfl] at q1 ⊢
    exact ha.run F1 H1 σ δ1 D S1 q1
  | false =>
    rw [if_neg Bool.false_ne_true] at q1 ⊢
    exact hb.run F1 H1 σ δ1 D S1 q1
def dNever : TSD := fun _ _ => False
theorem ds_never : DS X W st dNever := ⟨fun _ _ _ _ _ _ h => h.elim⟩
theorem dss_never : DSs X W rest dNever := ⟨fun _ _ _ _ _ _ h => h.elim⟩
def dSet (i : Nat) (te : TD) : TSD := fun D δ => te δ fun b δ1 => D.nx (δ1.set i (some b))
theorem ds_set {i : Nat} {x : Str} {pos' : Pos} (hN : X.N.Nodup) (hi : X.N[i]? = some x) (hx : Loc X.env.scope x) (h : DE X W e te) (hs : swapsWith e (some (.Name x pos')) pos.line X.env = pure false := by rfl)
    (hf : X.fn x = true ∨ X.env.scope.names.lookup x = some .local := by first | exact .inl rfl | exact .inr rfl | assumption) : DS X W (.Assign [.Name x pos'] e pos) (dSet i te) := .of (ps_set (X := X) hN hi hx cE_pe hs hf) fun F H σ δ D S q => by
  refine (h.run F H σ δ _ S q).imp fun v H1 h1 => ?_
  obtain ⟨F1, b, δ1, e1, S1, r1, s1, q1⟩ := h1
  exact ⟨F1, δ1.set i (some b), S1.put r1 fun hb j c h1 h2 _ => s1 hb j c h1 h2, q1⟩

/-! ### targets -/
abbrev TGD := D → Env' → (Env' → Prop) → Prop
abbrev TGDs := List D → Env' → (Env' → Prop) → Prop
structure DG (X : Cx) (W : Fix) (tg : Expr) (g : TGD) : Prop where
  run : ∀ (F H : Hp) (σ : L2.St) (δ : Env') (d : D) (v : V) (Q : Env' → Prop), SD X.K W F H σ δ → Rp X.K F d v → g d δ Q →
    ∀ (pins : List (Addr × Obj)) (s : Shared) (u : Value), Inv X pins σ H s → RelV v u → wpAny (model X.prog X.w) X.A (assign tg X.env u) (fun _ s' => ∃ σ' H', Inv X pins σ' H' s' ∧ NQ X.K W F Q σ' H') X.xe s
structure DGs (X : Cx) (W : Fix) (tgs : List Expr) (g : TGDs) : Prop where
  run : ∀ (F H : Hp) (σ : L2.St) (δ : Env') (ds : List D) (vs : List V) (Q : Env' → Prop), SD X.K W F H σ δ → RpL X.K F ds vs → g ds δ Q →
    ∀ (pins : List (Addr × Obj)) (s : Shared) (us : List Value), Inv X pins σ H s → Vals vs us →
      wpAny (model X.prog X.w) X.A (assignInOrder ((assignEach tgs X.env).map (·.2)) us) (fun _ s' => ∃ σ' H', Inv X pins σ' H' s' ∧ NQ X.K W F Q σ' H') X.xe s
def cG (X : Cx) (tg : Expr) : TG := fun v σ H Q => ∀ (pins : List (Addr × Obj)) (s : Shared) (u : Value), Inv X pins σ H s → RelV v u → wpAny (model X.prog X.w) X.A (assign tg X.env u) (fun _ s' => ∃ σ' H', Inv X pins σ' H' s' ∧ Q σ' H') X.xe s
def cGs (X : Cx) (tgs : List Expr) : TGs := fun vs σ H Q => ∀ (pins : List (Addr × Obj)) (s : Shared) (us : List Value), Inv X pins σ H s → Vals vs us →
  wpAny (model X.prog X.w) X.A (assignInOrder ((assignEach tgs X.env).map (·.2)) us) (fun _ s' => ∃ σ' H', Inv X pins σ' H' s' ∧ Q σ' H') X.xe s
theorem cG_pg {tg : Expr} : PG X tg (cG X tg) := ⟨fun pins s _ _ _ u _ I r h => h pins s u I r⟩
theorem cGs_pgs {tgs : List Expr} : PGs X tgs (cGs X tgs) := ⟨fun pins s _ _ _ u _ I r h => h pins s u I r⟩
def gN (i : Nat) : TGD := fun d δ Q => Q (δ.set i (some (.p d)))
theorem dg_name {i : Nat} {x : Str} (hN : X.N.Nodup) (hi : X.N[i]? = some x) (hx : Loc X.env.scope x) (hf : X.fn x = true ∨ X.env.scope.names.lookup x = some .local := by first | exact .inl rfl | exact .inr rfl | assumption) : DG X W (.Name x pos) (gN i) :=
  ⟨fun F H σ δ d v Q S r q pins s u I ru => (pg_name (X := X) hN hi hx hf).run pins s σ H v u _ I ru ⟨F, δ.set i (some (.p d)), Same.refl F, S.put (b := .p d) r (fun z => by cases z), q⟩⟩
def gsNil : TGDs := fun ds δ Q => ds = [] ∧ Q δ
def gsCons (g : TGD) (gs : TGDs) : TGDs := fun ds δ Q => ∃ d r, ds = d :: r ∧ g d δ fun δ1 => gs r δ1 Q
theorem dgs_nil : DGs X W [] gsNil := ⟨fun F H σ δ ds vs Q S r q pins s us I ru => by
  obtain ⟨rfl, q⟩ := q
  unfold RpL at r
  exact (pgs_nil (X := X)).run pins s σ H vs us _ I ru ⟨r, F, δ, Same.refl F, S, q⟩⟩
theorem dgs_cons {tg : Expr} {tgs : List Expr} {g : TGD} {gs : TGDs} (h : DG X W tg g) (k : DGs X W tgs gs) (hs : (assignEach (tg :: tgs) X.env).map (·.2) = assign tg X.env :: (assignEach tgs X.env).map (·.2) := by rfl) : DGs X W (tg :: tgs) (gsCons g gs) :=
  ⟨fun F H σ δ ds vs Q S r q pins s us I ru => by
    obtain ⟨d, dr, rfl, q⟩ := q
    unfold RpL at r
    obtain ⟨x, xr, rfl, r1, r2⟩ := r
    refine (pgs_cons (X := X) cG_pg cGs_pgs hs).run pins s σ H _ us _ I ru ⟨x, xr, rfl, fun pins s u I ru => ?_⟩
    refine thn (h.run F H σ δ d x _ S r1 q pins s u I ru) fun _ s' h1 => ?_
    obtain ⟨σ', H', I', F1, δ1, e1, S1, q1⟩ := h1
    exact ⟨σ', H', I', fun pins s us I ru => thn (k.run F1 H' σ' δ1 dr xr Q S1 (RpL.mono e1 _ _ r2) q1 pins s us I ru) fun _ s2 ⟨σ2, H2, I2, h2⟩ => ⟨σ2, H2, I2, h2.back e1⟩⟩⟩
def gT (n : Nat) (gs : TGDs) : TGD := fun d δ Q => ∃ ds, d = .tup ds ∧ ds.length = n ∧ gs ds δ Q
theorem dg_tup {es : List Expr} {k n : Nat} {gs : TGDs} (hc : X.calm = true) (h : DGs X W es gs) (hn : (assignEach es X.env).length = n := by rfl) (hst : (assignEach es X.env).findIdx? (·.1) = none := by rfl) : DG X W (.Tuple es k pos) (gT n gs) :=
  ⟨fun F H σ δ d v Q S r q pins s u I ru => by
    obtain ⟨ds, rfl, hl, q⟩ := q
    unfold Rp at r
    obtain ⟨a, xs, rfl, h1, h2⟩ := r
    refine (pg_tup (X := X) hc cGs_pgs hn hst).run pins s σ H _ u _ I ru ⟨a, xs, rfl, sqT_mono S.fh h1, by rw [h2.length, hl], ?_⟩
    exact fun pins s us I ru => h.run F H σ δ ds xs Q S h2 q pins s us I ru⟩
/-- target = value; the value is shared -/
def dAsg (te : TD) (g : TGD) : TSD := fun D δ => dp te δ fun d δ1 => g d δ1 D.nx
theorem ds_asg {tg : Expr} {g : TGD} (h : DE X W e te) (hg : DG X W tg g) (hs : swapsWithSole [tg] e pos.line X.env = pure false := by rfl) (hw : swappedStores [tg] e X.env = pure none := by rfl)
    (h1 : (assignEach [tg] X.env).map (·.2) = [assign tg X.env] := by rfl) : DS X W (.Assign [tg] e pos) (dAsg te g) := .of (ps_asg (X := X) cE_pe cG_pg hs hw h1) fun F H σ δ D S q => by
  refine (h.plain S q).imp fun v H1 h1 => ?_
  obtain ⟨F1, d, δ1, e1, S1, r1, q1⟩ := h1
  exact fun pins s u I ru => thn (hg.run F1 H1 σ δ1 d v _ S1 r1 q1 pins s u I ru) fun _ s2 ⟨σ2, H2, I2, F2, δ2, _, S2, q2⟩ => ⟨σ2, H2, I2, F2, δ2, S2, q2⟩
end

/-! ### what a loop walks -/
/-- the iterator yields just these data, one after another, whatever new things come into being -/
def Yields (K : PySem.W.Frag) (F1 : Hp) (J : It) (ds : List D) : Prop :=
  ∀ (W : Fix) (F' H' : Hp) (σ : L2.St) (δ : Env') (i : Nat), SD K W F' H' σ δ → Same F1 F' →
    (∀ d, ds[i]? = some d → J.go i H' ∧ ∀ x H'', J.yld i H' x H'' → ∃ F'', Same F' F'' ∧ SD K W F'' H'' σ δ ∧ Rp K F'' d x ∧ ∀ b o, H' b = some o → H'' b = some o) ∧ (ds[i]? = none → J.stop i H')
abbrev TDI := Env' → (List D → Env' → Prop) → Prop
def cI (X : Cx) (tg iter : Expr) : TI := fun σ H R => ∀ (pins : List (Addr × Obj)) (s : Shared), Inv X pins σ H s →
  wpAny (model X.prog X.w) X.A (eval iter X.env) (fun v s1 => wpAny (model X.prog X.w) X.A (pyIter v) (PIE X pins σ tg R) X.xe s1) X.xe s
theorem cI_pi {X : Cx} {tg iter : Expr} : PI X tg iter (cI X tg iter) := ⟨fun pins s _ _ _ I h => h pins s I⟩
def IQ (K : PySem.W.Frag) (W : Fix) (F : Hp) (σ : L2.St) (Q : List D → Env' → Prop) : It → Hp → Prop := fun J H1 =>
  ∃ (F1 : Hp) (ds : List D) (δ1 : Env'), Same F F1 ∧ SD K W F1 H1 σ δ1 ∧ Yields K F1 J ds ∧ Q ds δ1
structure DI (X : Cx) (W : Fix) (tg iter : Expr) (wi : TDI) : Prop where
  run : ∀ (F H : Hp) (σ : L2.St) (δ : Env') (Q : List D → Env' → Prop), SD X.K W F H σ δ → wi δ Q → cI X tg iter σ H (IQ X.K W F σ Q)
/-- .. where it needs nothing frozen -/
def IQ0 (K : PySem.W.Frag) (W : Fix) (F : Hp) (σ : L2.St) (Q : List D → Env' → Prop) : It → Hp → Prop := fun J H1 =>
  ∃ (F1 : Hp) (ds : List D) (δ1 : Env'), Same F F1 ∧ SD K W F1 H1 σ δ1 ∧ Yields K (fun _ => none) J ds ∧ Q ds δ1
structure DI0 (X : Cx) (W : Fix) (tg iter : Expr) (wi : TDI) : Prop where
  run : ∀ (F H : Hp) (σ : L2.St) (δ : Env') (Q : List D → Env' → Prop), SD X.K W F H σ δ → wi δ Q → cI X tg iter σ H (IQ0 X.K W F σ Q)
theorem DI0.di {X : Cx} {W : Fix} {tg iter : Expr} {wi : TDI} (h : DI0 X W tg iter wi) : DI X W tg iter wi := by
  refine ⟨fun F H σ δ Q S q pins s I => thn (h.run F H σ δ Q S q pins s I) fun v s1 h1 => thn h1 fun itv s2 h2 => ?_⟩
  obtain ⟨it, fp, tn, J, H1, e1, I1, T1, n1, f1, F1, ds, δ1, eF, S1, Y, q1⟩ := h2
  exact ⟨it, fp, tn, J, H1, e1, I1, T1, n1, f1, F1, ds, δ1, eF, S1, fun W' F' H' σ' δ' i S' _ => Y W' F' H' σ' δ' i S' (fun _ _ z => by cases z), q1⟩
theorem PI.or {X : Cx} {tg iter : Expr} {w1 w2 : TI} (h1 : PI X tg iter w1) (h2 : PI X tg iter w2) : PI X tg iter (fun σ H R => w1 σ H R ∨ w2 σ H R) :=
  ⟨fun pins s σ H R I h => h.elim (h1.run pins s σ H R I) (h2.run pins s σ H R I)⟩
def signs (x : Str) : List D := x.cps.toList.map fun c => .str ⟨#[c]⟩
/-- what data are walked as -/
def walked : D → Option (List D)
  | .lst ds => some ds
  | .tup ds => some ds
  | .str x => some (signs x)
  | _ => none
def iAny (te : TD) : TDI := fun δ Q => dp te δ fun d δ1 => ∃ ds, walked d = some ds ∧ Q ds δ1
theorem yields_lst {K : PySem.W.Frag} {F : Hp} {a : Addr} {xs : List V} {ds : List D} (h : F a = some (.lst xs)) (r : RpL K F ds xs) : Yields K F (Itl K a) ds := by
  intro W F' H' σ δ i S e
  have h1 : SqL K H' a xs := SqL.of (S.fh _ _ (e _ _ h))
  refine ⟨fun d hd => ?_, fun hn => ?_⟩
  · obtain ⟨x, hx, rx⟩ := r.get hd
    refine ⟨⟨xs, x, h1, hx⟩, fun y H'' hy => ?_⟩
    obtain ⟨rfl, hy⟩ := hy
    have := hy xs h1
    rw [hx] at this
    cases this
    exact ⟨F', Same.refl F', S, Rp.mono e d x rx, fun _ _ h => h⟩
  · refine ⟨xs, h1, ?_⟩
    rw [r.length]
    exact List.getElem?_eq_none_iff.mp hn
theorem yields_tup {K : PySem.W.Frag} {F : Hp} {a : Addr} {xs : List V} {ds : List D} (h : SqT K F a xs) (r : RpL K F ds xs) : Yields K F (Itt K a) ds := by
  intro W F' H' σ δ i S e
  have h1 : SqT K H' a xs := sqT_mono (e.trans S.fh) h
  refine ⟨fun d hd => ?_, fun hn => ?_⟩
  · obtain ⟨x, hx, rx⟩ := r.get hd
    refine ⟨⟨xs, x, h1, hx⟩, fun y H'' hy => ?_⟩
    obtain ⟨rfl, hy⟩ := hy
    have := hy xs h1
    rw [hx] at this
    cases this
    exact ⟨F', Same.refl F', S, Rp.mono e d x rx, fun _ _ h => h⟩
  · refine ⟨xs, h1, ?_⟩
    rw [r.length]
    exact List.getElem?_eq_none_iff.mp hn
theorem yields_str {K : PySem.W.Frag} {F : Hp} {x : Str} : Yields K F (Its x) (signs x) := by
  intro W F' H' σ δ i S e
  refine ⟨fun d hd => ?_, fun hn => ?_⟩
  · unfold signs at hd
    rw [List.getElem?_map] at hd
    cases hc : x.cps.toList[i]? with
    | none =>
      rw [hc] at hd
      cases hd
    | some c =>
      rw [hc] at hd
      cases hd
      have hi : i < x.cps.size := by
        have := (List.getElem?_eq_some_iff.mp hc).1
        rw [Array.length_toList] at this
        exact this
      refine ⟨hi, fun y H'' hy => ?_⟩
      obtain ⟨rfl, c', hc', rfl⟩ := hy
      rw [← Array.getElem?_toList, hc] at hc'
      cases hc'
      exact ⟨F', Same.refl F', S, by unfold Rp; rfl, fun _ _ h => h⟩
  · unfold signs at hn
    have := List.getElem?_eq_none_iff.mp hn
    rw [List.length_map, Array.length_toList] at this
    exact this
/-- a fresh iterator is one's own -/
theorem fpNew {X : Cx} {pins : List (Addr × Obj)} {σ : L2.St} {H : Hp} {s : Shared} (I : Inv X pins σ H s) : ∀ b ∈ [s.heap.objs.size], FpOk X pins H b := fun b hb => by
  have e : b = s.heap.objs.size := by simpa using hb
  rw [e]
  exact I.fpOk (Nat.le_refl _) (I.hok.fresh (Nat.le_refl _))
theorem di_any {X : Cx} {W : Fix} {tg iter : Expr} {te : TD} (h : DE X W iter te) : DI X W tg iter (iAny te) := by
  refine ⟨fun F H σ δ Q S q pins s I => ?_⟩
  refine thn (h.plain S q pins s I) fun v s1 h1 => ?_
  obtain ⟨x, H1, I1, r1, F1, d, δ1, e1, S1, rp, ds, hw, q1⟩ := h1
  cases d <;> first | (cases hw; done) | skip
  all_goals cases hw
  · rename_i z
    unfold Rp at rp
    subst rp
    obtain ⟨t, rfl⟩ := r1
    have fin : IQ X.K W F σ Q (Its z) H1 := ⟨F1, _, δ1, e1, S1, yields_str, q1⟩
    by_cases ha : z.cps.all (· < 128) = true
    · exact wpAny_pyIter_ascii ha (pi_one (tk := s1.toks) I1 _ (turn_str _ z t "str_ascii_iterator" (.inl rfl)) ⟨_, Heap.get?_push_size _ rfl, rfl, rfl⟩ fin)
    · exact wpAny_pyIter_wide (Bool.eq_false_iff.mpr ha) (pi_one (tk := s1.toks) I1 _ (turn_str _ z t "str_iterator" (.inr rfl)) ⟨_, Heap.get?_push_size _ rfl, rfl, rfl⟩ fin)
  · unfold Rp at rp
    obtain ⟨a, xs, rfl, h2, h3⟩ := rp
    cases r1
    obtain ⟨its, rv, p, hz⟩ := I1.list (SqL.of (S1.fh _ _ h2))
    refine wpAny_pyIter_list p.isList ?_
    exact ⟨s1.heap.objs.size, [s1.heap.objs.size], _, _, H1, rfl, I1.kept (t' := s1.toks) (fun b o e => Heap.get?_push_of_some _ e), turn_list a _,
      ⟨_, Heap.get?_push_size _ rfl, rfl, rfl⟩, fpNew I1, F1, _, δ1, e1, S1, yields_lst h2 h3, q1⟩
  · unfold Rp at rp
    obtain ⟨a, xs, rfl, h2, h3⟩ := rp
    cases r1
    obtain ⟨its, rv, p, hz⟩ := I1.tuple (sqT_mono S1.fh h2)
    refine wpAny_pyIter_tuple (show s1.heap.IsTuple a its.toArray from p) ?_
    exact ⟨s1.heap.objs.size, [s1.heap.objs.size], _, _, H1, rfl, I1.kept (t' := s1.toks) (fun b o e => Heap.get?_push_of_some _ e), turn_tuple a _,
      ⟨_, Heap.get?_push_size _ rfl, rfl, rfl⟩, fpNew I1, F1, _, δ1, e1, S1, yields_tup h2 h3, q1⟩
/-- range(n) -/
def upto (lo : Int) (n : Nat) : List D := (List.range n).map fun i => .int (lo + (i : Nat))
theorem yields_rng {K : PySem.W.Frag} {F : Hp} {lo : Int} {n : Nat} : Yields K F (Itr lo n) (upto lo n) := by
  intro W F' H' σ δ i S e
  refine ⟨fun d hd => ?_, fun hn => ?_⟩
  · unfold upto at hd
    rw [List.getElem?_map] at hd
    by_cases hi : i < n
    · rw [List.getElem?_range hi] at hd
      cases hd
      refine ⟨hi, fun y H'' hy => ?_⟩
      obtain ⟨rfl, rfl⟩ := hy
      exact ⟨F', Same.refl F', S, by unfold Rp; rfl, fun _ _ h => h⟩
    · rw [List.getElem?_eq_none (by rw [List.length_range]; omega)] at hd
      cases hd
  · unfold upto at hn
    have := List.getElem?_eq_none_iff.mp hn
    rw [List.length_map, List.length_range] at this
    exact this
def iR1 (t : TDA) : TDI := fun δ Q => t δ fun ds δ1 => ∃ j : Int, ds = [.int j] ∧ -(2 ^ 62) ≤ j ∧ j < 2 ^ 62 ∧ Q (upto 0 j.toNat) δ1
def iR2 (t : TDA) : TDI := fun δ Q => t δ fun ds δ1 => ∃ i j : Int, ds = [.int i, .int j] ∧ (-(2 ^ 62) ≤ i ∧ i < 2 ^ 62 ∧ -(2 ^ 62) ≤ j ∧ j < 2 ^ 62) ∧ Q (upto i (j - i).toNat) δ1
theorem rpInt {K : PySem.W.Frag} {F : Hp} {i : Int} {v : V} (h : Rp K F (.int i) v) : v = .int i := by
  unfold Rp at h
  exact h
theorem rpL1 {K : PySem.W.Frag} {F : Hp} {d : D} {vs : List V} (h : RpL K F [d] vs) : ∃ v, vs = [v] ∧ Rp K F d v := by
  unfold RpL at h
  obtain ⟨x, r, rfl, h1, h2⟩ := h
  unfold RpL at h2
  rw [h2]
  exact ⟨x, rfl, h1⟩
theorem rpL2 {K : PySem.W.Frag} {F : Hp} {d e : D} {vs : List V} (h : RpL K F [d, e] vs) : ∃ v u, vs = [v, u] ∧ Rp K F d v ∧ Rp K F e u := by
  unfold RpL at h
  obtain ⟨x, r, rfl, h1, h2⟩ := h
  obtain ⟨u, rfl, h3⟩ := rpL1 h2
  exact ⟨x, u, rfl, h1, h3⟩
theorem di_range1 {X : Cx} {W : Fix} {tg a : Expr} {t : TDA} {p pos : Pos} (hg : Gl X "range") (hm : X.mg "range" = none) (h : DA X W [a] t) (hs : starEach [a] X.env = [(false, eval a X.env)] := by rfl) : DI0 X W tg (.Call (.Name "range" p) [a] [] pos) (iR1 t) := by
  refine ⟨fun F H σ δ Q S q pins s I => (pi_range1 (X := X) (ta := cA X [a]) hg hm cA_pa hs).run pins s σ H _ I ?_⟩
  refine (h.run F H σ δ _ S q).imp fun vs H1 h1 => ?_
  obtain ⟨F1, ds, δ1, e1, S1, r1, j, rfl, h2, h3, q1⟩ := h1
  obtain ⟨v, rfl, rv⟩ := rpL1 r1
  exact ⟨j, by rw [rpInt rv], h2, h3, F1, _, δ1, e1, S1, yields_rng, q1⟩
theorem di_range2 {X : Cx} {W : Fix} {tg a b : Expr} {t : TDA} {p pos : Pos} (hg : Gl X "range") (hm : X.mg "range" = none) (h : DA X W [a, b] t) (hs : starEach [a, b] X.env = [(false, eval a X.env), (false, eval b X.env)] := by rfl) (hs2 : starEach [b] X.env = [(false, eval b X.env)] := by rfl) :
    DI0 X W tg (.Call (.Name "range" p) [a, b] [] pos) (iR2 t) := by
  refine ⟨fun F H σ δ Q S q pins s I => (pi_range2 (X := X) (ta := cA X [a, b]) hg hm cA_pa hs hs2).run pins s σ H _ I ?_⟩
  refine (h.run F H σ δ _ S q).imp fun vs H1 h1 => ?_
  obtain ⟨F1, ds, δ1, e1, S1, r1, i, j, rfl, h2, q1⟩ := h1
  obtain ⟨v, u, rfl, rv, ru⟩ := rpL2 r1
  exact ⟨i, j, by rw [rpInt rv, rpInt ru], h2, F1, _, δ1, e1, S1, yields_rng, q1⟩

/-! ### another ground for the same state -/
section
variable {K : PySem.W.Frag} {W : Fix} {F F' H H' : Hp} {σ σ' : L2.St} {δ δ' : Env'}
theorem RB.re {W' : Fix} {b : B} {v : V} (h : RB K W F H b v) (e1 : W'.H0 = W.H0) (e2 : W'.P = W.P) : RB K W' F H b v := by
  cases b with
  | p d => exact h
  | n ds =>
    obtain ⟨t, xs, h1, h2, h3, h4⟩ := h
    exact ⟨t, xs, h1, h2, h3, fun a ha => ⟨(h4 a ha).1, by rw [e1]; exact (h4 a ha).2⟩⟩
  | o d =>
    obtain ⟨a, h1, h2, h3, h4⟩ := h
    exact ⟨a, h1, h2, by rw [e1]; exact h3, h4⟩
  | u w n =>
    obtain ⟨p, x, y, z, h1, h2, h3, h4⟩ := h
    refine ⟨p, x, y, z, h1, h2, ?_, h4⟩
    rw [e1, e2]
    exact h3
  | s d =>
    obtain ⟨a, h1, h2, h3, h4⟩ := h
    exact ⟨a, h1, h2, by rw [e2]; exact h3, h4⟩
def Fix.at (W : Fix) (F : Hp) (E : Addr → List D → Env' → Prop) : Fix := { F0 := F, H0 := W.H0, P := W.P, E := E }
theorem SD.into (S : SD K W F H σ δ) (E : Addr → List D → Env' → Prop) : SD K (W.at F E) F H σ δ where
  f0 := Same.refl F
  h0 := S.h0
  fh := S.fh
  fr := fun _ _ h => .inl h
  fp := S.fp
  len := S.len
  get := fun i b h => by
    obtain ⟨v, h1, h2⟩ := S.get i b h
    exact ⟨v, h1, h2.re rfl rfl⟩
  sep := S.sep
theorem SD.outof {E : Addr → List D → Env' → Prop} (S : SD K W F H σ δ) (T : SD K (W.at F E) F' H' σ' δ') : SD K W F' H' σ' δ' where
  f0 := S.f0.trans T.f0
  h0 := T.h0
  fh := T.fh
  fr := fun a o h => by
    rcases T.fr a o h with z | z
    · exact S.fr a o z
    · exact .inr z
  fp := T.fp
  len := T.len
  get := fun i b h => by
    obtain ⟨v, h1, h2⟩ := T.get i b h
    exact ⟨v, h1, h2.re rfl rfl⟩
  sep := T.sep
theorem MQ.outof {E : Addr → List D → Env' → Prop} {N : Env' → Prop} (S : SD K W F H σ δ) (h : MQ K (W.at F E) N σ' H') : MQ K W N σ' H' := by
  obtain ⟨F', δ', T, q⟩ := h
  exact ⟨F', δ', S.outof T, q⟩
theorem UQ.outof {E : Addr → List D → Env' → Prop} {R : B → Env' → Prop} {v : V} (S : SD K W F H σ δ) (h : UQ K (W.at F E) R v H') : UQ K W R v H' := by
  obtain ⟨F0, σ', F', b, δ', e, T, r, sp, q⟩ := h
  exact ⟨F0, σ', F', b, δ', e, S.outof T, r.re rfl rfl, sp, q⟩
end

/-- an exception's class and what it holds -/
def ExcRep (K : PySem.W.Frag) (F : Hp) (C : Addr) (ds : List D) (cls : Value) (d : Option Addr) : Prop :=
  cls = .ref C ∧ ((ds = [] ∧ d = none) ∨ ∃ dd x dv, ds = [dv] ∧ d = some dd ∧ F dd = some (.xd [("value", x)]) ∧ Rp K F dv x)
theorem ExcRep.mono {K : PySem.W.Frag} {F F' : Hp} {C : Addr} {ds : List D} {cls : Value} {d : Option Addr} (e : Same F F') (h : ExcRep K F C ds cls d) : ExcRep K F' C ds cls d := by
  obtain ⟨h1, h⟩ := h
  refine ⟨h1, ?_⟩
  rcases h with h | ⟨dd, x, dv, h2, h3, h4, h5⟩
  · exact .inl h
  · exact .inr ⟨dd, x, dv, h2, h3, e _ _ h4, Rp.mono e _ _ h5⟩
def WXd (K : PySem.W.Frag) (W : Fix) : WX := fun cls d σ H => ∃ (F : Hp) (δ : Env') (C : Addr) (ds : List D), SD K W F H σ δ ∧ ExcRep K F C ds cls d ∧ W.E C ds δ

/-- what is wished of an exception, and that it is kept -/
structure TkE (X : Cx) (W : Fix) (E : Addr → List D → Env' → Prop) : Prop where
  eq : W.E = E
  tk : Takes X (WXd X.K W)
theorem TkE.at {X : Cx} {W : Fix} {E : Addr → List D → Env' → Prop} {F H : Hp} {σ : L2.St} {δ : Env'} (h : TkE X W E) (S : SD X.K W F H σ δ) : TkE X (W.at F W.E) E :=
  ⟨h.eq, h.tk.imp fun _ _ _ _ z => by
    obtain ⟨F', δ', C, ds, T, er, q⟩ := z
    exact ⟨F', δ', C, ds, S.outof T, er, q⟩⟩

/-! ### for, while -/
section
variable {X : Cx} {W : Fix} {E0 : Addr → List D → Env' → Prop} {tg iter c : Expr} {body : List Stmt} {wi : TDI} {g : TGD} {tb : TSD} {tc : TDT} {pos : Pos}
def forL (g : TGD) (tb : TSD) (Z : EndsD) : List D → Env' → Prop
  | [], δ => Z.nx δ
  | d :: ds, δ => g d δ fun δ1 => tb { Z with nx := forL g tb Z ds, ct := forL g tb Z ds, bk := Z.nx } δ1
def dFor (wi : TDI) (g : TGD) (tb : TSD) : TSD := fun Z δ => wi δ fun ds δ1 => forL g tb Z ds δ1
theorem ds_for (te : TkE X W E0) (hp : PassesOwn (model X.prog X.w) X.A X.env X.xe) (hc : X.calm = true) (hi : DI X W tg iter wi) (hg : ∀ W', DG X W' tg g) (hb : ∀ W', TkE X W' E0 → DSs X W' body tb)
    (hs : ∀ x, foldedSetIterable iter X.env x = pure x := by intro _; rfl) : DS X W (.For tg iter body [] pos) (dFor wi g tb) := by
  refine .of (ps_for (X := X) hp hc cI_pi cG_pg cSs_pss hs) fun F H σ δ D S q pins s I => ?_
  refine thn (hi.run F H σ δ _ S q pins s I) fun v s1 h1 => thn h1 fun itv s2 h2 => ?_
  obtain ⟨it, fp, tn, J, H1, e1, I1, T1, n1, f1, F1, ds, δ1, eF, S1, Y, q1⟩ := h2
  have te1 := te.at S1
  have St := S1.into W.E
  generalize hW : W.at F1 W.E = W1 at te1 St
  have hF : W1.F0 = F1 := by rw [← hW] <;> rfl
  have out : ∀ {F2 H2 : Hp} {σ2 : L2.St} {δ2 : Env'}, SD X.K W1 F2 H2 σ2 δ2 → SD X.K W F2 H2 σ2 δ2 := fun {F2 H2 σ2 δ2} T => S1.outof (E := W.E) (by rw [hW]; exact T)
  refine ⟨it, fp, tn, J, H1, e1, I1, T1, n1, f1, ?_⟩
  refine ⟨fun i m σ' H' => m = ds.length - i ∧ i ≤ ds.length ∧ ∃ F' δ', SD X.K W1 F' H' σ' δ' ∧ forL g tb D (ds.drop i) δ', ⟨_, rfl, Nat.zero_le _, F1, δ1, St, q1⟩, ?_⟩
  rintro i m σ' H' ⟨rfl, hi, F', δ', S', q'⟩
  have e' : Same F1 F' := by
    have := S'.f0
    rw [hF] at this
    exact this
  obtain ⟨y1, y2⟩ := Y W1 F' H' σ' δ' i S' e'
  by_cases hl : i < ds.length
  · have hd : ds[i]? = some ds[i] := List.getElem?_eq_getElem hl
    rw [List.drop_eq_getElem_cons hl] at q'
    obtain ⟨hgo, hy⟩ := y1 _ hd
    refine .inr ⟨hgo, MQ X.K W1 (forL g tb D (ds.drop (i + 1))), fun σ2 H2 h2 => ?_, fun x H2 hyl => ?_⟩
    · obtain ⟨F2, δ2, S2, q2⟩ := h2
      exact ⟨ds.length - (i + 1), by omega, rfl, hl, F2, δ2, S2, q2⟩
    · obtain ⟨F2, e2, S2, rx, _⟩ := hy x H2 hyl
      intro pins s u I ru
      refine thn ((hg W1).run F2 H2 σ' δ' _ x _ S2 rx q' pins s u I ru) fun _ s' h3 => ?_
      obtain ⟨σ3, H3, I3, F3, δ3, e3, S3, q3⟩ := h3
      refine ⟨σ3, H3, I3, ((hb W1 te1).run F3 H3 σ3 δ3 _ S3 q3).imp (fun _ _ h => h) (fun _ _ h => ?_) (fun _ _ h => ?_) fun _ _ h => h⟩
      · exact UQ.outof (E := W.E) S1 (by rw [hW]; exact h)
      · exact MQ.outof (E := W.E) S1 (by rw [hW]; exact h)
  · have e0 : i = ds.length := by omega
    subst e0
    rw [List.drop_length] at q'
    exact .inl ⟨y2 (List.getElem?_eq_none (Nat.le_refl _)), F', δ', out S', q'⟩
/-- for over a range: nothing frozen need stay -/
theorem ds_forR (hp : PassesOwn (model X.prog X.w) X.A X.env X.xe) (hc : X.calm = true) (hi : DI0 X W tg iter wi) (hg : DG X W tg g) (hb : DSs X W body tb)
    (hs : ∀ x, foldedSetIterable iter X.env x = pure x := by intro _; rfl) : DS X W (.For tg iter body [] pos) (dFor wi g tb) := by
  refine .of (ps_for (X := X) hp hc cI_pi cG_pg cSs_pss hs) fun F H σ δ D S q pins s I => ?_
  refine thn (hi.run F H σ δ _ S q pins s I) fun v s1 h1 => thn h1 fun itv s2 h2 => ?_
  obtain ⟨it, fp, tn, J, H1, e1, I1, T1, n1, f1, F1, ds, δ1, eF, S1, Y, q1⟩ := h2
  refine ⟨it, fp, tn, J, H1, e1, I1, T1, n1, f1, ?_⟩
  refine ⟨fun i m σ' H' => m = ds.length - i ∧ i ≤ ds.length ∧ ∃ F' δ', SD X.K W F' H' σ' δ' ∧ forL g tb D (ds.drop i) δ', ⟨_, rfl, Nat.zero_le _, F1, δ1, S1, q1⟩, ?_⟩
  rintro i m σ' H' ⟨rfl, hi, F', δ', S', q'⟩
  obtain ⟨y1, y2⟩ := Y W F' H' σ' δ' i S' (fun _ _ z => by cases z)
  by_cases hl : i < ds.length
  · have hd : ds[i]? = some ds[i] := List.getElem?_eq_getElem hl
    rw [List.drop_eq_getElem_cons hl] at q'
    obtain ⟨hgo, hy⟩ := y1 _ hd
    refine .inr ⟨hgo, MQ X.K W (forL g tb D (ds.drop (i + 1))), fun σ2 H2 h2 => ?_, fun x H2 hyl => ?_⟩
    · obtain ⟨F2, δ2, S2, q2⟩ := h2
      exact ⟨ds.length - (i + 1), by omega, rfl, hl, F2, δ2, S2, q2⟩
    · obtain ⟨F2, e2, S2, rx, _⟩ := hy x H2 hyl
      intro pins s u I ru
      refine thn (hg.run F2 H2 σ' δ' _ x _ S2 rx q' pins s u I ru) fun _ s' h3 => ?_
      obtain ⟨σ3, H3, I3, F3, δ3, e3, S3, q3⟩ := h3
      exact ⟨σ3, H3, I3, hb.run F3 H3 σ3 δ3 _ S3 q3⟩
  · have e0 : i = ds.length := by omega
    subst e0
    rw [List.drop_length] at q'
    exact .inl ⟨y2 (List.getElem?_eq_none (Nat.le_refl _)), F', δ', S', q'⟩
def whileN (tc : TDT) (tb : TSD) (Z : EndsD) : Nat → Env' → Prop
  | 0, _ => False
  | n + 1, δ => tc δ fun k δ1 => if k = true then tb { Z with nx := whileN tc tb Z n, ct := whileN tc tb Z n, bk := Z.nx } δ1 else Z.nx δ1
def dWhile (tc : TDT) (tb : TSD) : TSD := fun Z δ => ∃ n, whileN tc tb Z n δ
theorem ds_while (hp : PassesOwn (model X.prog X.w) X.A X.env X.xe) (hc : DT X W c tc) (hb : DSs X W body tb) : DS X W (.While c body [] pos) (dWhile tc tb) := by
  refine .of (ps_while (X := X) hp cT_pt cSs_pss) fun F H σ δ D S q => ?_
  obtain ⟨n, q⟩ := q
  refine ⟨fun m σ' H' => ∃ F' δ', SD X.K W F' H' σ' δ' ∧ whileN tc tb D m δ', ⟨n, F, δ, S, q⟩, ?_⟩
  rintro m σ' H' ⟨F', δ', S', q'⟩
  cases m with
  | zero => exact q'.elim
  | succ m =>
    refine (hc.run F' H' σ' δ' _ S' q').imp fun k H1 h1 => ?_
    obtain ⟨F1, δ1, e1, S1, q1⟩ := h1
    cases k with
    | true =>
      rw [if_pos rfl] at q1 ⊢
      refine ⟨MQ X.K W (whileN tc tb D m), fun σ2 H2 h2 => ?_, ?_⟩
      · obtain ⟨F2, δ2, S2, q2⟩ := h2
        exact ⟨m, Nat.lt_succ_self m, F2, δ2, S2, q2⟩
      · exact hb.run F1 H1 σ' δ1 _ S1 q1
    | false =>
      rw [if_neg Bool.false_ne_true] at q1 ⊢
      exact ⟨F1, δ1, S1, q1⟩
end
end DD

set_option Elab.async false
set_option linter.all false
set_option maxRecDepth 100000
set_option maxHeartbeats 4000000
/-! DD4: list comprehensions over data. -/
namespace DD
open PySem PySem.Spec PyProof.Rows L2

def wipeE (δ : Env') : List Nat → Env'
  | [] => δ
  | v :: vs => (wipeE δ vs).set v none
theorem wipeE_length (δ : Env') : ∀ vs : List Nat, (wipeE δ vs).length = δ.length
  | [] => rfl
  | v :: vs => by
    unfold wipeE
    rw [List.length_set, wipeE_length δ vs]
theorem wipeE_some {δ : Env'} {i : Nat} {b : B} : ∀ {vs : List Nat}, (wipeE δ vs)[i]? = some (some b) → δ[i]? = some (some b) ∧ i ∉ vs
  | [], h => ⟨h, by simp⟩
  | v :: vs, h => by
    unfold wipeE at h
    by_cases hi : v = i
    · subst hi
      by_cases hv : v < (wipeE δ vs).length
      · rw [List.getElem?_set_self hv] at h
        cases h
      · rw [List.getElem?_eq_none (by simpa using hv)] at h
        cases h
    · rw [List.getElem?_set_ne hi] at h
      obtain ⟨h1, h2⟩ := wipeE_some h
      refine ⟨h1, fun z => ?_⟩
      rcases List.mem_cons.mp z with z | z
      · exact hi z.symm
      · exact h2 z
theorem wipe_off {σ : L2.St} {i : Nat} : ∀ {vs : List Nat}, i ∉ vs → (wipe σ vs)[i]? = σ[i]?
  | [], _ => rfl
  | v :: vs, h => by
    unfold wipe
    have h1 : v ≠ i := fun z => h (by rw [z]; exact List.mem_cons_self)
    rw [List.getElem?_set_ne h1]
    exact wipe_off fun z => h (List.mem_cons_of_mem _ z)
theorem wipe_set {x : V} {i : Nat} : ∀ {vs : List Nat} {σ : L2.St}, i ∈ vs → wipe (σ.set i (some x)) vs = wipe σ vs
  | v :: vs, σ, h => by
    unfold wipe
    by_cases e : i ∈ vs
    · rw [wipe_set e]
    · rcases List.mem_cons.mp h with rfl | h
      · apply List.ext_getElem?
        intro j
        by_cases ej : j = i
        · subst ej
          by_cases hl : j < σ.length
          · rw [List.getElem?_set_self (by rw [wipe_length, List.length_set]; exact hl), List.getElem?_set_self (by rw [wipe_length]; exact hl)]
          · rw [List.getElem?_eq_none (by rw [List.length_set, wipe_length, List.length_set]; omega), List.getElem?_eq_none (by rw [List.length_set, wipe_length]; omega)]
        · rw [List.getElem?_set_ne (Ne.symm ej), List.getElem?_set_ne (Ne.symm ej)]
          by_cases em : j ∈ vs
          · -- both none or out of range
            have aux : ∀ τ : L2.St, τ.length = σ.length → (wipe τ vs)[j]? = (wipe σ vs)[j]? := fun τ ht => by
              have n1 : ∀ (ρ : L2.St) (x : V), (wipe ρ vs)[j]? ≠ some (some x) := fun ρ x z => (wipe_some z).2 em
              by_cases hl : j < σ.length
              · have h1 : j < (wipe τ vs).length := by rw [wipe_length, ht]; exact hl
                have h2 : j < (wipe σ vs).length := by rw [wipe_length]; exact hl
                rw [List.getElem?_eq_getElem h1, List.getElem?_eq_getElem h2]
                cases q1 : (wipe τ vs)[j] with
                | some x => exact absurd (by rw [List.getElem?_eq_getElem h1, q1]) (n1 τ x)
                | none =>
                  cases q2 : (wipe σ vs)[j] with
                  | some x => exact absurd (by rw [List.getElem?_eq_getElem h2, q2]) (n1 σ x)
                  | none => rfl
              · rw [List.getElem?_eq_none (by rw [wipe_length, ht]; omega), List.getElem?_eq_none (by rw [wipe_length]; omega)]
            exact aux _ (List.length_set)
          · rw [wipe_off em, wipe_off em, List.getElem?_set_ne (Ne.symm ej)]
      · exact absurd h e
section
variable {K : PySem.W.Frag} {W : Fix} {F H : Hp} {σ τ : L2.St} {δ : Env'} {vs : List Nat}
/-- the slots may be others where nothing is told of them -/
theorem SD.slots (S : SD K W F H σ δ) (hl : τ.length = σ.length) (h : ∀ (i : Nat) (b : B), δ[i]? = some (some b) → τ[i]? = σ[i]?) : SD K W F H τ δ where
  f0 := S.f0
  h0 := S.h0
  fh := S.fh
  fr := S.fr
  fp := S.fp
  len := by rw [hl, S.len]
  get := fun i b e => by
    rw [h i b e]
    exact S.get i b e
  sep := fun i j b c v ne h1 h2 h3 h4 h5 => by
    rw [h i b h1] at h5
    rw [h j c h3]
    exact S.sep i j b c v ne h1 h2 h3 h4 h5
theorem SD.wipeE (S : SD K W F H σ δ) : ∀ vs : List Nat, SD K W F H σ (wipeE δ vs)
  | [] => S
  | v :: vs => by
    unfold DD.wipeE
    exact (SD.wipeE S vs).drop
theorem SD.wiped (S : SD K W F H σ δ) : SD K W F H (wipe σ vs) (DD.wipeE δ vs) :=
  (S.wipeE vs).slots (wipe_length σ vs) fun i b e => wipe_off (wipeE_some e).2
/-- the ground with one more object that must stay -/
def Fix.hold (W : Fix) (a : Addr) (o : HO) : Fix := { W with H0 := upd W.H0 a o }
theorem SD.held {a : Addr} {o : HO} (S : SD K W F H σ δ) (ha : H a = some o) (h0 : W.H0 a = none) (hF : F a = none) (hP : W.P ≠ some a) (hn : ∀ (j : Nat) (c : B), δ[j]? = some (some c) → c.own = true → σ[j]? ≠ some (some (.ref a))) : SD K (W.hold a o) F H σ δ where
  f0 := S.f0
  h0 := fun b u e n => by
    by_cases q : b = a
    · subst q
      have e : upd W.H0 b o b = some u := e
      rw [upd_same] at e
      cases e
      exact ha
    · have e : upd W.H0 a o b = some u := e
      rw [upd_ne q] at e
      exact S.h0 b u e n
  fh := S.fh
  fr := fun b u e => by
    rcases S.fr b u e with h | h
    · exact .inl h
    · refine .inr ?_
      have q : b ≠ a := fun z => by
        rw [z, hF] at e
        cases e
      show upd W.H0 a o b = none
      rw [upd_ne q]
      exact h
  fp := fun b h => by
    obtain ⟨h1, h2, u, h3⟩ := S.fp b h
    refine ⟨h1, h2, u, ?_⟩
    have q : b ≠ a := fun z => by
      rw [z, h0] at h3
      cases h3
    show upd W.H0 a o b = some u
    rw [upd_ne q]
    exact h3
  len := S.len
  get := fun i b e => by
    obtain ⟨v, h1, h2⟩ := S.get i b e
    refine ⟨v, h1, ?_⟩
    cases b with
    | p d => exact h2
    | n ds =>
      obtain ⟨t, xs, rfl, h3, h4, h5⟩ := h2
      refine ⟨t, xs, rfl, h3, h4, fun c hc => ?_⟩
      obtain ⟨⟨ys, h6⟩, h7⟩ := h5 c hc
      have q : c ≠ a := fun z => by
        rw [z, hF] at h6
        cases h6
      exact ⟨⟨ys, h6⟩, by show upd W.H0 a o c = none; rw [upd_ne q]; exact h7⟩
    | o d =>
      obtain ⟨c, rfl, h3, h4, h5⟩ := h2
      have q : c ≠ a := fun z => hn i _ e rfl (by rw [h1, z])
      exact ⟨c, rfl, h3, by show upd W.H0 a o c = none; rw [upd_ne q]; exact h4, h5⟩
    | u w n =>
      obtain ⟨c, x, y, z, rfl, h3, h4, h5⟩ := h2
      have q : c ≠ a := fun z => hn i _ e rfl (by rw [h1, z])
      exact ⟨c, x, y, z, rfl, h3, by show if w = true then _ else upd W.H0 a o c = none; rw [upd_ne q]; exact h4, h5⟩
    | s d => exact h2
  sep := S.sep
theorem SD.unheld {a : Addr} {o : HO} (S : SD K (W.hold a o) F H σ δ) (h0 : W.H0 a = none) (hF : W.F0 a = none) (hP : W.P ≠ some a) :
    SD K W F H σ δ ∧ H a = some o ∧ F a = none ∧ ∀ (j : Nat) (c : B), δ[j]? = some (some c) → c.own = true → σ[j]? ≠ some (some (.ref a)) := by
  have e0 : (W.hold a o).H0 a = some o := upd_same
  have ge : ∀ b, b ≠ a → (W.hold a o).H0 b = W.H0 b := fun b q => upd_ne q
  have back : ∀ b, (W.hold a o).H0 b = none → b ≠ a ∧ W.H0 b = none := fun b h => by
    have q : b ≠ a := fun z => by
      rw [z, e0] at h
      cases h
    rw [ge b q] at h
    exact ⟨q, h⟩
  have hFa : F a = none := by
    cases q : F a with
    | none => rfl
    | some u =>
      rcases S.fr a u q with h | h
      · have h : W.F0 a = some u := h
        rw [hF] at h
        cases h
      · exact absurd rfl (back a h).1
  refine ⟨⟨S.f0, fun b u e n => ?_, S.fh, fun b u e => ?_, fun b h => ?_, S.len, fun i b e => ?_, S.sep⟩, S.h0 a o e0 hP, hFa, fun j c e1 e2 e3 => ?_⟩
  · have q : b ≠ a := fun z => by
      rw [z, h0] at e
      cases e
    exact S.h0 b u (by rw [ge b q]; exact e) n
  · rcases S.fr b u e with h | h
    · exact .inl h
    · exact .inr (back b h).2
  · obtain ⟨h1, h2, u, h3⟩ := S.fp b h
    have q : b ≠ a := fun z => by
      subst z
      exact hP h
    rw [ge b q] at h3
    exact ⟨h1, h2, u, h3⟩
  · obtain ⟨v, h1, h2⟩ := S.get i b e
    refine ⟨v, h1, ?_⟩
    cases b with
    | p d => exact h2
    | n ds =>
      obtain ⟨t, xs, rfl, h3, h4, h5⟩ := h2
      exact ⟨t, xs, rfl, h3, h4, fun c hc => ⟨(h5 c hc).1, (back c (h5 c hc).2).2⟩⟩
    | o d =>
      obtain ⟨c, rfl, h3, h4, h5⟩ := h2
      exact ⟨c, rfl, h3, (back c h4).2, h5⟩
    | u w n =>
      obtain ⟨c, x, y, z, rfl, h3, h4, h5⟩ := h2
      refine ⟨c, x, y, z, rfl, h3, ?_, h5⟩
      cases w with
      | true => exact h4
      | false =>
        simp only [Bool.false_eq_true, if_false] at h4 ⊢
        exact (back c h4).2
    | s d => exact h2
  · obtain ⟨v, h1, h2⟩ := S.get j c e1
    rw [e3] at h1
    cases h1
    cases c with
    | p d => cases e2
    | n ds => cases e2
    | o d =>
      obtain ⟨c, e, h3, h4, h5⟩ := h2
      cases e
      exact (back a h4).1 rfl
    | u w n =>
      obtain ⟨c, x, y, z, e, h3, h4, h5⟩ := h2
      cases e
      cases w with
      | true => exact hP h4
      | false =>
        simp only [Bool.false_eq_true, if_false] at h4
        exact (back a h4).1 rfl
    | s d =>
      obtain ⟨c, e, h3, h4, h5⟩ := h2
      cases e
      exact hP h4
end

section
/-- an object that no slot owns may turn -/
theorem SD.turn {K : PySem.W.Frag} {W : Fix} {F H : Hp} {σ : L2.St} {δ : Env'} {a : Addr} {o : HO} (S : SD K W F H σ δ) (h0 : W.H0 a = none) (hF : F a = none) (hn : ∀ (j : Nat) (c : B), δ[j]? = some (some c) → c.own = true → σ[j]? ≠ some (some (.ref a))) :
    SD K W F (upd H a o) σ δ where
  f0 := S.f0
  h0 := fun b u e n => by
    have q : b ≠ a := fun z => by
      rw [z, h0] at e
      cases e
    rw [upd_ne q]
    exact S.h0 b u e n
  fh := fun b u e => by
    have q : b ≠ a := fun z => by
      rw [z, hF] at e
      cases e
    rw [upd_ne q]
    exact S.fh b u e
  fr := S.fr
  fp := fun b h => by
    obtain ⟨h1, ⟨u, h2⟩, v, h3⟩ := S.fp b h
    have q : b ≠ a := fun z => by
      rw [z, h0] at h3
      cases h3
    rw [upd_ne q]
    exact ⟨h1, ⟨u, h2⟩, v, h3⟩
  len := S.len
  get := fun i b e => by
    obtain ⟨v, h1, h2⟩ := S.get i b e
    refine ⟨v, h1, h2.keep (Same.refl F) (fun c u hv hb h3 => ?_) (fun _ _ _ h => h)⟩
    have q : c ≠ a := fun z => hn i b e hb (by rw [h1, hv, z])
    rw [upd_ne q]
    exact h3
  sep := S.sep
end
/-- a comprehension's target: only its own slots change -/
structure DGc (X : Cx) (W : Fix) (tg : Expr) (vs : List Nat) (g : TGD) : Prop where
  run : ∀ (F H : Hp) (σ : L2.St) (δ : Env') (d : D) (v : V) (Q : Env' → Prop), SD X.K W F H σ δ → Rp X.K F d v → g d δ Q →
    ∀ (pins : List (Addr × Obj)) (s : Shared) (u : Value), Inv X pins σ H s → RelV v u → wpAny (model X.prog X.w) X.A (assign tg X.env u) (fun _ s' => ∃ σ' H', Inv X pins σ' H' s' ∧ wipe σ' vs = wipe σ vs ∧ NQ X.K W F Q σ' H') X.xe s
structure DGcs (X : Cx) (W : Fix) (tgs : List Expr) (vs : List Nat) (g : TGDs) : Prop where
  run : ∀ (F H : Hp) (σ : L2.St) (δ : Env') (ds : List D) (xs : List V) (Q : Env' → Prop), SD X.K W F H σ δ → RpL X.K F ds xs → g ds δ Q →
    ∀ (pins : List (Addr × Obj)) (s : Shared) (us : List Value), Inv X pins σ H s → Vals xs us →
      wpAny (model X.prog X.w) X.A (assignInOrder ((assignEach tgs X.env).map (·.2)) us) (fun _ s' => ∃ σ' H', Inv X pins σ' H' s' ∧ wipe σ' vs = wipe σ vs ∧ NQ X.K W F Q σ' H') X.xe s
section
variable {X : Cx} {W : Fix} {vs : List Nat} {pos : Pos}
theorem dgc_name {i : Nat} {x : Str} (hv : i ∈ vs) (hN : X.N.Nodup) (hi : X.N[i]? = some x) (hx : Loc X.env.scope x) (hf : X.fn x = true ∨ X.env.scope.names.lookup x = some .local := by first | exact .inl rfl | exact .inr rfl | assumption) : DGc X W (.Name x pos) vs (gN i) :=
  ⟨fun F H σ δ d v Q S r q pins s u I ru => (pg_name (X := X) hN hi hx hf).run pins s σ H v u (fun σ' H' => wipe σ' vs = wipe σ vs ∧ NQ X.K W F Q σ' H') I ru ⟨wipe_set hv, F, δ.set i (some (.p d)), Same.refl F, S.put (b := .p d) r (fun z => by cases z), q⟩⟩
theorem dgcs_nil : DGcs X W [] vs gsNil := ⟨fun F H σ δ ds xs Q S r q pins s us I ru => by
  obtain ⟨rfl, q⟩ := q
  unfold RpL at r
  exact (pgs_nil (X := X)).run pins s σ H xs us (fun σ' H' => wipe σ' vs = wipe σ vs ∧ NQ X.K W F Q σ' H') I ru ⟨r, rfl, F, δ, Same.refl F, S, q⟩⟩
theorem dgcs_cons {tg : Expr} {tgs : List Expr} {g : TGD} {gs : TGDs} (h : DGc X W tg vs g) (k : DGcs X W tgs vs gs) (hs : (assignEach (tg :: tgs) X.env).map (·.2) = assign tg X.env :: (assignEach tgs X.env).map (·.2) := by rfl) : DGcs X W (tg :: tgs) vs (gsCons g gs) :=
  ⟨fun F H σ δ ds xs Q S r q pins s us I ru => by
    obtain ⟨d, dr, rfl, q⟩ := q
    unfold RpL at r
    obtain ⟨x, xr, rfl, r1, r2⟩ := r
    refine (pgs_cons (X := X) cG_pg cGs_pgs hs).run pins s σ H _ us (fun σ' H' => wipe σ' vs = wipe σ vs ∧ NQ X.K W F Q σ' H') I ru ⟨x, xr, rfl, fun pins s u I ru => ?_⟩
    refine thn (h.run F H σ δ d x _ S r1 q pins s u I ru) fun _ s' h1 => ?_
    obtain ⟨σ', H', I', w1, F1, δ1, e1, S1, q1⟩ := h1
    exact ⟨σ', H', I', fun pins s us I ru => thn (k.run F1 H' σ' δ1 dr xr Q S1 (RpL.mono e1 _ _ r2) q1 pins s us I ru) fun _ s2 ⟨σ2, H2, I2, w2, h2⟩ => ⟨σ2, H2, I2, w2.trans w1, h2.back e1⟩⟩⟩
theorem dgc_tup {es : List Expr} {k n : Nat} {gs : TGDs} (hc : X.calm = true) (h : DGcs X W es vs gs) (hn : (assignEach es X.env).length = n := by rfl) (hst : (assignEach es X.env).findIdx? (·.1) = none := by rfl) : DGc X W (.Tuple es k pos) vs (gT n gs) :=
  ⟨fun F H σ δ d v Q S r q pins s u I ru => by
    obtain ⟨ds, rfl, hl, q⟩ := q
    unfold Rp at r
    obtain ⟨a, xs, rfl, h1, h2⟩ := r
    refine (pg_tup (X := X) hc cGs_pgs hn hst).run pins s σ H _ u (fun σ' H' => wipe σ' vs = wipe σ vs ∧ NQ X.K W F Q σ' H') I ru ⟨a, xs, rfl, sqT_mono S.fh h1, by rw [h2.length, hl], ?_⟩
    exact fun pins s us I ru => h.run F H σ δ ds xs Q S h2 q pins s us I ru⟩

/-- a clause's tests -/
structure DTs (X : Cx) (W : Fix) (ifs : List Expr) (t : TDT) : Prop where
  run : ∀ (F H : Hp) (σ : L2.St) (δ : Env') (Q : Bool → Env' → Prop), SD X.K W F H σ δ → t δ Q → ∀ (pins : List (Addr × Obj)) (s : Shared), Inv X pins σ H s →
    wpAny (model X.prog X.w) X.A (forIn ifs true fun c r => if r = true then do let ok ← isTrue c X.env (eval c X.env); pure (ForInStep.yield ok) else pure (ForInStep.yield r)) (TP X pins σ (TQ X.K W F σ Q)) X.xe s
def dYes : TDT := fun δ Q => Q true δ
theorem dts_nil : DTs X W [] dYes := ⟨fun F H σ δ Q S q pins s I => (pts_nil (X := X)).run pins s σ H _ I ⟨F, δ, Same.refl F, S, q⟩⟩
theorem dts_one {c : Expr} {t : TDT} (h : DT X W c t) : DTs X W [c] t := ⟨fun F H σ δ Q S q pins s I => (pts_one (X := X) cT_pt).run pins s σ H _ I (h.run F H σ δ Q S q)⟩
end

def lcL (g : TGD) (tt : TDT) (te : TD) (vs : List Nat) (Q : List D → Env' → Prop) : List D → List D → Env' → Prop
  | [], acc, δ => Q acc δ
  | d :: ds, acc, δ => g d δ fun δ1 => tt δ1 fun k δ2 => if k = true then dp te δ2 fun y δ3 => acc.length < sizeLine ∧ lcL g tt te vs Q ds (acc ++ [y]) (wipeE δ3 vs) else lcL g tt te vs Q ds acc (wipeE δ2 vs)
def dLc (wi : TDI) (g : TGD) (tt : TDT) (te : TD) (vs : List Nat) : TD := fun δ Q => wi δ fun ds δ1 => lcL g tt te vs (fun acc δ2 => Q (.o (.lst acc)) δ2) ds [] (wipeE δ1 vs)

section
variable {X : Cx} {W : Fix} {elt tg iter : Expr} {ifs : List Expr} {scope : Scope} {own : List (Str × Nat)} {pos : Pos} {wi : TDI} {g : TGD} {tt : TDT} {te : TD} {σ : L2.St} {F H : Hp} {δ : Env'} {Q : B → Env' → Prop}
abbrev blkX (X : Cx) (scope : Scope) (s : Shared) (H : Hp) (C : Addr) (cl : List (Str × Addr)) (fp : List Addr) : Cx := X.blk s H scope (compEnvC scope cl C X.env) fp
/-- the canonical readings of a block -/
def bE (X : Cx) (scope : Scope) (e : Expr) : TE := fun σ H Q => ∀ (s0 : Shared) (H0 : Hp) (C : Addr) (cl : List (Str × Addr)) (fp : List Addr), cE (blkX X scope s0 H0 C cl fp) e σ H Q
def bG (X : Cx) (scope : Scope) (tg : Expr) : TG := fun v σ H Q => ∀ (s0 : Shared) (H0 : Hp) (C : Addr) (cl : List (Str × Addr)) (fp : List Addr), cG (blkX X scope s0 H0 C cl fp) tg v σ H Q
def bTs (X : Cx) (scope : Scope) (ifs : List Expr) : TT := fun σ H Q => ∀ (s0 : Shared) (H0 : Hp) (C : Addr) (cl : List (Str × Addr)) (fp : List Addr) (pins : List (Addr × Obj)) (s : Shared), Inv (blkX X scope s0 H0 C cl fp) pins σ H s →
  wpAny (model X.prog X.w) X.A (forIn ifs true fun c r => if r = true then do let ok ← isTrue c (blkX X scope s0 H0 C cl fp).env (eval c (blkX X scope s0 H0 C cl fp).env); pure (ForInStep.yield ok) else pure (ForInStep.yield r)) (TP (blkX X scope s0 H0 C cl fp) pins σ Q) (blkX X scope s0 H0 C cl fp).xe s
theorem lc_run (hg : ∀ (s : Shared) (H : Hp) (C : Addr) (cl : List (Str × Addr)) (fp : List Addr) (W' : Fix), DGc (blkX X scope s H C cl fp) W' tg (own.map (·.2)) g)
    (ht : ∀ (s : Shared) (H : Hp) (C : Addr) (cl : List (Str × Addr)) (fp : List Addr) (W' : Fix), DTs (blkX X scope s H C cl fp) W' ifs tt)
    (he : ∀ (s : Shared) (H : Hp) (C : Addr) (cl : List (Str × Addr)) (fp : List Addr) (W' : Fix), DE (blkX X scope s H C cl fp) W' elt te)
    (hi : DI X W tg iter wi) (S : SD X.K W F H σ δ) (q : dLc wi g tt te (own.map (·.2)) δ Q) {Z : VK} (hZ : ∀ v H', DQ X.K W F σ Q v H' → Z v H') :
    tLc (cI X tg iter) (bG X scope tg) (bTs X scope ifs) (bE X scope elt) (own.map (·.2)) σ H Z := by
  intro pins s I
  refine thn (hi.run F H σ δ _ S q pins s I) fun v s1 h1 => thn h1 fun itv s2 h2 => ?_
  obtain ⟨it, fp, tn, J, H1, e1, I1, T1, n1, f1, F1, ds, δ1, eF, S1, Y, q1⟩ := h2
  refine ⟨it, fp, tn, J, H1, e1, I1, T1, n1, f1, fun Dl hD => ?_⟩
  have hF1 : F1 Dl = none := S1.freshF hD
  have h0D : W.H0 Dl = none := S1.fresh0 hD
  have hF0 : W.F0 Dl = none := S1.f0.free hF1
  have hPD : W.P ≠ some Dl := fun z => by
    obtain ⟨_, ⟨o, ho⟩, _⟩ := S1.fp Dl z
    rw [hD] at ho
    cases ho
  refine ⟨fun i m H' => m = ds.length - i ∧ i ≤ ds.length ∧ ∃ F' δ' acc xs, Same F1 F' ∧ SD X.K (W.hold Dl (.lst xs)) F' H' (wipe σ (own.map (·.2))) δ' ∧ RpL X.K F' acc xs ∧ (∀ (j : Nat) (b : B), δ'[j]? = some (some b) → j ∉ own.map (·.2)) ∧
      lcL g tt te (own.map (·.2)) (fun acc δ2 => Q (.o (.lst acc)) δ2) (ds.drop i) acc δ', ⟨_, rfl, Nat.zero_le _, F1, wipeE δ1 (own.map (·.2)), [], [], Same.refl F1, ?_, .nil, fun j b h => (wipeE_some h).2, q1⟩, ?_⟩
  · refine (SD.newO (S1.wiped (vs := own.map (·.2))) hD).held upd_same h0D hF1 hPD fun j c e1 e2 e3 => ?_
    obtain ⟨v, h1, h2⟩ := (S1.wiped (vs := own.map (·.2))).get j c e1
    rw [e3] at h1
    cases h1
    obtain ⟨a, o, e, h4, _⟩ := h2.there e2
    cases e
    rw [hD] at h4
    cases h4
  rintro i m H' ⟨rfl, hil, F', δ', acc, xs, e', S', ra, hv, q'⟩
  obtain ⟨y1, y2⟩ := Y _ F' H' _ δ' i S' e'
  by_cases hl : i < ds.length
  · have hd : ds[i]? = some ds[i] := List.getElem?_eq_getElem hl
    rw [List.drop_eq_getElem_cons hl] at q'
    obtain ⟨hgo, hy⟩ := y1 _ hd
    refine .inr ⟨hgo, fun H2 => ∃ F' δ' acc xs, Same F1 F' ∧ SD X.K (W.hold Dl (.lst xs)) F' H2 (wipe σ (own.map (·.2))) δ' ∧ RpL X.K F' acc xs ∧ (∀ (j : Nat) (b : B), δ'[j]? = some (some b) → j ∉ own.map (·.2)) ∧
      lcL g tt te (own.map (·.2)) (fun acc δ2 => Q (.o (.lst acc)) δ2) (ds.drop (i + 1)) acc δ', fun H2 h2 => ⟨_, by omega, rfl, hl, h2⟩, fun x H2 hyl => ?_⟩
    obtain ⟨F2, e2, S2, rx, _⟩ := hy x H2 hyl
    intro s0 H0 C cl fp pins s u I ru
    refine thn ((hg s0 H0 C cl fp _).run F2 H2 _ δ' _ x _ S2 rx q' pins s u I ru) fun _ s' h3 => ?_
    obtain ⟨σ3, H3, I3, w3, F3, δ3, e3, S3, q3⟩ := h3
    refine ⟨σ3, H3, I3, ?_, fun s0 H0 C cl fp pins s I => ?_⟩
    · rw [w3]
      apply List.ext_getElem?
      intro j
      by_cases em : j ∈ own.map (·.2)
      · have n1 : ∀ (ρ : L2.St) (x : V), (wipe ρ (own.map (·.2)))[j]? ≠ some (some x) := fun ρ x z => (wipe_some z).2 em
        have l1 : (wipe (wipe σ (own.map (·.2))) (own.map (·.2))).length = (wipe σ (own.map (·.2))).length := wipe_length _ _
        by_cases hj : j < (wipe σ (own.map (·.2))).length
        · rw [List.getElem?_eq_getElem hj, List.getElem?_eq_getElem (by rw [l1]; exact hj)]
          cases z1 : (wipe (wipe σ (own.map (·.2))) (own.map (·.2)))[j]'(by rw [l1]; exact hj) with
          | some x => exact absurd (by rw [List.getElem?_eq_getElem (by rw [l1]; exact hj), z1]) (n1 _ x)
          | none =>
            cases z2 : (wipe σ (own.map (·.2)))[j]'hj with
            | some x => exact absurd (by rw [List.getElem?_eq_getElem hj, z2]) (n1 _ x)
            | none => rfl
        · rw [List.getElem?_eq_none (by omega), List.getElem?_eq_none (by omega)]
      · rw [wipe_off em]
    refine thn ((ht s0 H0 C cl fp _).run F3 H3 σ3 δ3 _ S3 q3 pins s I) fun b s4 h4 => ?_
    obtain ⟨H4, I4, F4, δ4, e4, S4, q4⟩ := h4
    refine ⟨H4, I4, ?_⟩
    have back : ∀ {F5 H5 : Hp} {δ5 : Env'} {o : HO}, SD X.K (W.hold Dl o) F5 H5 σ3 δ5 → SD X.K (W.hold Dl o) F5 H5 (wipe σ (own.map (·.2))) (wipeE δ5 (own.map (·.2))) := fun {F5 H5 δ5 o} S5 => by
      have z := S5.wiped (vs := own.map (·.2))
      rw [w3] at z
      refine z.slots ?_ fun j b h => ?_
      · rw [wipe_length, wipe_length, wipe_length]
      · rw [wipe_off (wipeE_some h).2, wipe_off (wipeE_some h).2, wipe_off (wipeE_some h).2]
    cases b with
    | false =>
      simp only [Bool.false_eq_true, if_false] at q4 ⊢
      exact ⟨F4, _, acc, xs, ((e'.trans e2).trans e3).trans e4, back S4, RpL.mono ((e2.trans e3).trans e4) _ _ ra, fun j b h => (wipeE_some h).2, q4⟩
    | true =>
      simp only [if_true] at q4 ⊢
      intro s0 H0 C cl fp pins s I
      refine thn ((he s0 H0 C cl fp _).plain S4 q4 pins s I) fun u s5 h5 => ?_
      obtain ⟨y, H5, I5, ry, F5, d5, δ5, e5, S5, r5, hz, q5⟩ := h5
      obtain ⟨S6, hD5, hF5, hn5⟩ := S5.unheld h0D hF0 hPD
      have S7 : SD X.K (W.hold Dl (.lst (xs ++ [y]))) F5 (upd H5 Dl (.lst (xs ++ [y]))) σ3 δ5 := (S6.turn h0D hF5 hn5).held upd_same h0D hF5 hPD hn5
      exact ⟨y, H5, I5, ry, xs, hD5, by rw [ra.length]; exact hz, F5, _, acc ++ [d5], xs ++ [y], (((e'.trans e2).trans e3).trans e4).trans e5, back S7, .append (RpL.mono (((e2.trans e3).trans e4).trans e5) _ _ ra) (.cons r5 .nil), fun j b h => (wipeE_some h).2, q5⟩
  · have e0 : i = ds.length := by omega
    subst e0
    rw [List.drop_length] at q'
    refine .inl ⟨y2 (List.getElem?_eq_none (Nat.le_refl _)), hZ _ _ ?_⟩
    obtain ⟨S6, hD6, hF6, hn6⟩ := S'.unheld h0D hF0 hPD
    have S7 : SD X.K W F' H' σ δ' := S6.slots (wipe_length σ _).symm fun j b h => (wipe_off (hv j b h)).symm
    refine ⟨F', .o (.lst acc), δ', eF.trans e', S7, ⟨Dl, rfl, hF6, h0D, xs, hD6, ra⟩, fun _ j c h1 h2 => ?_, q'⟩
    rw [← wipe_off (σ := σ) (hv j c h1)]
    exact hn6 j c h1 h2
theorem de_lc (hc : X.calm = true) (hN : X.N.Nodup) (hi : DI X W tg iter wi) (ok : BlkOk X.N X.env.scope scope own)
    (hg : ∀ (s : Shared) (H : Hp) (C : Addr) (cl : List (Str × Addr)) (fp : List Addr) (W' : Fix), DGc (blkX X scope s H C cl fp) W' tg (own.map (·.2)) g)
    (ht : ∀ (s : Shared) (H : Hp) (C : Addr) (cl : List (Str × Addr)) (fp : List Addr) (W' : Fix), DTs (blkX X scope s H C cl fp) W' ifs tt)
    (he : ∀ (s : Shared) (H : Hp) (C : Addr) (cl : List (Str × Addr)) (fp : List Addr) (W' : Fix), DE (blkX X scope s H C cl fp) W' elt te) (hs : ∀ x, foldedSetIterable iter X.env x = pure x := by intro _; rfl) :
    DE X W (.ListComp elt [⟨tg, iter, ifs, 0⟩] scope pos) (dLc wi g tt te (own.map (·.2))) :=
  .of (pe_lc (X := X) hc hN cI_pi ok (fun s H C cl fp => ⟨fun pins s' _ _ _ u _ I r h => h s H C cl fp pins s' u I r⟩) (fun s H C cl fp => ⟨fun pins s' _ _ _ I h => h s H C cl fp pins s' I⟩) (fun s H C cl fp => ⟨fun pins s' _ _ _ I h => h s H C cl fp pins s' I⟩) hs)
    fun F H σ δ Q S q => lc_run hg ht he hi S q fun _ _ h => h
/-- name = [..] on one line, the name a local -/
theorem ds_setLc {i : Nat} {y : Str} {py spos : Pos} (hc : X.calm = true) (hN : X.N.Nodup) (hy : X.N[i]? = some y) (hyl : X.env.scope.names.lookup y = some .local)
    (hsw : swapsWith (.ListComp elt [⟨tg, iter, ifs, 0⟩] scope pos) (some (.Name y py)) spos.line X.env = pure true) (hi : DI X W tg iter wi) (ok : BlkOk X.N X.env.scope scope own)
    (hg : ∀ (s : Shared) (H : Hp) (C : Addr) (cl : List (Str × Addr)) (fp : List Addr) (W' : Fix), DGc (blkX X scope s H C cl fp) W' tg (own.map (·.2)) g)
    (ht : ∀ (s : Shared) (H : Hp) (C : Addr) (cl : List (Str × Addr)) (fp : List Addr) (W' : Fix), DTs (blkX X scope s H C cl fp) W' ifs tt)
    (he : ∀ (s : Shared) (H : Hp) (C : Addr) (cl : List (Str × Addr)) (fp : List Addr) (W' : Fix), DE (blkX X scope s H C cl fp) W' elt te) (hs : ∀ x, foldedSetIterable iter X.env x = pure x := by intro _; rfl) :
    DS X W (.Assign [.Name y py] (.ListComp elt [⟨tg, iter, ifs, 0⟩] scope pos) spos) (dSet i (dLc wi g tt te (own.map (·.2)))) :=
  .of (ps_setLc (X := X) hc hN hy hyl hsw cI_pi ok (fun s H C cl fp => ⟨fun pins s' _ _ _ u _ I r h => h s H C cl fp pins s' u I r⟩) (fun s H C cl fp => ⟨fun pins s' _ _ _ I h => h s H C cl fp pins s' I⟩) (fun s H C cl fp => ⟨fun pins s' _ _ _ I h => h s H C cl fp pins s' I⟩) hs)
    fun F H σ δ D S q => lc_run (Q := fun b δ1 => D.nx (δ1.set i (some b))) hg ht he hi S q fun v H' h => by
      obtain ⟨F1, b, δ1, e1, S1, r1, s1, q1⟩ := h
      exact ⟨F1, δ1.set i (some b), S1.put r1 (fun hb j c h1 h2 _ => s1 hb j c h1 h2), q1⟩
end
end DD

set_option Elab.async false
set_option linter.all false
set_option maxRecDepth 100000
set_option maxHeartbeats 4000000
/-! DD5: what a def promises over data; calls. -/
namespace DD
open PySem PySem.Spec PyProof.Rows L2

/-- a promise: the arguments, the wish for the answer and the purse, the wish for an exception -/
abbrev Spd := List B → (B → Nat → Prop) → (Addr → List D → Nat → Prop) → Prop
structure Aft (F H : Hp) (P : Option Addr) (m : Nat) (F' H' : Hp) : Prop where
  ff : Same F F'
  fh : Same F' H'
  keep : ∀ a o, H a = some o → P ≠ some a → H' a = some o
  new : ∀ a o, F' a = some o → F a = some o ∨ H a = none
  pur : ∀ p, P = some p → F' p = none ∧ ∃ x y z, H' p = some (.lst [.int x, .int y, .int z]) ∧ PWF m x y z
def Res (K : PySem.W.Frag) (H F' H' : Hp) : B → V → Prop
  | .p d, v => Rp K F' d v
  | .o d, v => ∃ a, v = .ref a ∧ F' a = none ∧ H a = none ∧ Own K F' H' d a
  | .u _ _, _ => False
  | .s _, _ => False
  | .n ds, v => ∃ t xs, v = .ref t ∧ SqT K F' t xs ∧ RpL K F' ds xs ∧ ∀ a, V.ref a ∈ xs → (∃ ys, F' a = some (.lst ys)) ∧ H a = none
def Arg (K : PySem.W.Frag) (F H : Hp) (P : Option Addr) : B → V → Prop
  | .p d, v => Rp K F d v
  | .o _, _ => False
  | .u w n, v => w = true ∧ ∃ p x y z, v = .ref p ∧ P = some p ∧ F p = none ∧ H p = some (.lst [.int x, .int y, .int z]) ∧ PWF n x y z
  | .n _, _ => False
  | .s d, v => ∃ a, v = .ref a ∧ F a = none ∧ P = some a ∧ Own K F H d a
/-- at most one purse, and where it stands -/
def PurK (i : Option Nat) (bs : List B) : Prop := ∀ (j : Nat) (b : B), bs[j]? = some b → b.own = true → i = some j
def toSp (K : PySem.W.Frag) (spd : Spd) : Sp := fun vs H Q E => ∃ (F : Hp) (P : Option Addr) (bs : List B) (R : B → Nat → Prop) (ED : Addr → List D → Nat → Prop),
  Same F H ∧ Paired (Arg K F H P) bs vs ∧ (∀ p, P = some p → (F p = none ∧ ∃ o, H p = some o) ∧ ∃ b ∈ bs, b.own = true) ∧ spd bs R ED ∧
  (∀ v H' F' b m, Aft F H P m F' H' → Res K H F' H' b v → R b m → Q v H') ∧
  (∀ cls d H' F' C ds m, Aft F H P m F' H' → ExcRep K F' C ds cls d → ED C ds m → E cls d H')

def startD (N : List Str) (bs : List B) : Env' := bs.map some ++ List.replicate (N.length - bs.length) none
/-- the purse's turns at the end -/
def PC (i : Option Nat) (δ : Env') (m : Nat) : Prop := match i with
  | none => True
  | some j => δ[j]? = some (some (.u true m))
section
variable {K : PySem.W.Frag} {F H : Hp} {P : Option Addr}
theorem paired_get {α β : Type} {G : α → β → Prop} : ∀ {l : List α} {m : List β} {i : Nat} {a : α}, Paired G l m → l[i]? = some a → ∃ b, m[i]? = some b ∧ G a b
  | _, _, _, _, .nil, e => by simp at e
  | _, _, 0, _, .cons r _, e => by
    simp at e
    subst e
    exact ⟨_, rfl, r⟩
  | _, _, i + 1, a, .cons _ t, e => by
    obtain ⟨b, h1, h2⟩ := paired_get (i := i) t (by simpa using e)
    exact ⟨b, by simpa using h1, h2⟩
theorem startD_get {N : List Str} {bs : List B} {i : Nat} {b : B} (h : (startD N bs)[i]? = some (some b)) : bs[i]? = some b := by
  unfold startD at h
  by_cases hi : i < bs.length
  · rw [List.getElem?_append_left (by simpa using hi), List.getElem?_map] at h
    cases e : bs[i]? with
    | none =>
      rw [e] at h
      cases h
    | some c =>
      rw [e] at h
      cases h
      rfl
  · rw [List.getElem?_append_right (by simpa using hi), List.getElem?_replicate] at h
    split at h <;> cases h
theorem start_get {N : List Str} {vs : List V} {i : Nat} {v : V} (h : vs[i]? = some v) : (L2.start N vs)[i]? = some (some v) := by
  have hi : i < vs.length := (List.getElem?_eq_some_iff.mp h).1
  unfold L2.start
  rw [List.getElem?_append_left (by simpa using hi), List.getElem?_map, h]
  rfl
theorem SD.start {N : List Str} {bs : List B} {vs : List V} {E : Addr → List D → Env' → Prop} {pi : Option Nat} (fh : Same F H) (ra : Paired (Arg K F H P) bs vs) (hP : ∀ p, P = some p → F p = none ∧ ∃ o, H p = some o) (hk : PurK pi bs) :
    SD K ⟨F, H, P, E⟩ F H (L2.start N vs) (startD N bs) where
  f0 := Same.refl F
  h0 := fun _ _ h _ => h
  fh := fh
  fr := fun _ _ h => .inl h
  fp := fun p h => ⟨(hP p h).1, (hP p h).2, (hP p h).2⟩
  len := by
    have := Paired.length ra
    unfold L2.start startD
    rw [List.length_append, List.length_append, List.length_map, List.length_map, List.length_replicate, List.length_replicate, this]
  get := fun i b h => by
    obtain ⟨v, h1, h2⟩ := paired_get ra (startD_get h)
    refine ⟨v, start_get h1, ?_⟩
    cases b with
    | p d => exact h2
    | n ds => exact h2.elim
    | o d => exact h2.elim
    | u w n =>
      obtain ⟨rfl, p, x, y, z, rfl, h3, h4, h5, h6⟩ := h2
      exact ⟨p, x, y, z, rfl, h4, by rw [if_pos rfl]; exact h3, h5, h6⟩
    | s d => exact h2
  sep := fun i j b c v ne h1 h2 h3 h4 _ => by
    have e1 := hk i b (startD_get h1) h2
    have e2 := hk j c (startD_get h3) h4
    rw [e1] at e2
    exact absurd (Option.some.inj e2) ne
theorem SD.aft {E : Addr → List D → Env' → Prop} {F' H' : Hp} {σ : L2.St} {δ : Env'} {pi : Option Nat} {m : Nat} (S : SD K ⟨F, H, P, E⟩ F' H' σ δ) (hp : P = none ∨ pi ≠ none) (hm : PC pi δ m) : Aft F H P m F' H' where
  ff := S.f0
  fh := S.fh
  keep := S.h0
  new := S.fr
  pur := fun p e => by
    refine ⟨(S.fp p e).1, ?_⟩
    cases pi with
    | none =>
      rcases hp with h | h
      · rw [h] at e
        cases e
      · exact absurd rfl h
    | some j =>
      obtain ⟨v, h1, q, x, y, z, rfl, h2, h3, h4, h5⟩ := S.get j _ hm
      have h3 : P = some q := by
        rw [if_pos rfl] at h3
        exact h3
      rw [e] at h3
      cases h3
      exact ⟨x, y, z, h4, h5⟩
end

/-- THE RULE: a def of the text keeps its promise over data -/
theorem gd_of {P : Program} {w : World} {K : PySem.W.Frag} {mg : Str → Option Value} {base : Heap} {x qual : Str} {st : Stmt} {f : Addr} {fd : FuncData} {N ps : List Str} {k : Nat} {spd : Spd} (pi : Option Nat)
    (F : Fun K x qual st f fd) (S : FnScope N ps (defScope st)) (len : ∀ bs R E, spd bs R E → bs.length = ps.length) (hpk : ∀ bs R E, spd bs R E → PurK pi bs ∧ (pi = none → ∀ b ∈ bs, b.own = false))
    (hbody : ∀ (cdv : Value) (A : Around) (outer : List Env) (s : Shared) (H : Hp) (E : XK) (W : Fix) (bs : List B) (R : B → Nat → Prop) (ED : Addr → List D → Nat → Prop), A.guards = some [] →
      Room k (A.deeper (envOfC qual (defScope st) s.heap.objs.size f cdv)) → TkE (cxOf (L2.CX P w) P w K mg base N qual (defScope st) f cdv A outer s H E) W (fun C ds δ => ∃ m, PC pi δ m ∧ ED C ds m) → spd bs R ED → Same W.F0 W.H0 →
      ∃ t, DSs (cxOf (L2.CX P w) P w K mg base N qual (defScope st) f cdv A outer s H E) W (defBody st) t ∧
        t { nx := fun δ => ∃ m, PC pi δ m ∧ R (.p .non) m, rt := fun b δ => b.isU = false ∧ ∃ m, PC pi δ m ∧ R b m } (startD N bs)) :
    GnOk P w K mg base (k + 1) f fd ps (toSp K spd) := by
  refine gn_of F S (fun vs H Q E h => ?_) fun cdv A outer s H vs Q E hg hr h => ?_
  · obtain ⟨F0, P0, bs, R, ED, _, ra, _, h, _⟩ := h
    rw [← Paired.length ra, len bs R ED h]
  · obtain ⟨F0, P0, bs, R, ED, fh, ra, hP, h, hQ, hE⟩ := h
    obtain ⟨h1, h2⟩ := hpk bs R ED h
    have hnp : P0 = none ∨ pi ≠ none := by
      cases e : P0 with
      | none => exact .inl rfl
      | some p =>
        refine .inr fun z => ?_
        obtain ⟨_, b, hb, ho⟩ := hP p e
        rw [h2 z b hb] at ho
        cases ho
    have S0 : SD K ⟨F0, H, P0, fun C ds δ => ∃ m, PC pi δ m ∧ ED C ds m⟩ F0 H (L2.start N vs) (startD N bs) := .start fh ra (fun p e => (hP p e).1) h1
    have tk : Takes (cxOf (L2.CX P w) P w K mg base N qual (defScope st) f cdv A outer s H E) (WXd K ⟨F0, H, P0, fun C ds δ => ∃ m, PC pi δ m ∧ ED C ds m⟩) := by
      refine (takes_of rfl rfl rfl rfl).imp fun cls d σ H' z => ?_
      obtain ⟨F', δ', C, ds, S', er, m, hm, he⟩ := z
      exact hE cls d H' F' C ds m (S'.aft hnp hm) er he
    obtain ⟨t, ht, q⟩ := hbody cdv A outer s H E _ bs R ED hg hr ⟨rfl, tk⟩ h fh
    refine ⟨_, cSs_pss, (fun pins s I => thn (ht.run F0 H _ _ _ S0 q pins s I) fun fl s' q => SP.imp q (fun σ' H' z => ?_) (fun v H' z => ?_) (fun σ' H' z => ?_) fun σ' H' z => ?_)⟩
    · obtain ⟨F', δ', S', m, hm, r⟩ := z
      exact hQ .non H' F' (.p .non) m (S'.aft hnp hm) (by unfold Res Rp; rfl) r
    · obtain ⟨_, σ', F', b, δ', e', S', rb, _, hu, m, hm, r⟩ := z
      refine hQ v H' F' b m (S'.aft hnp hm) ?_ r
      cases b with
      | p d => exact rb
      | n ds => exact rb
      | o d => exact rb
      | u w n => cases hu
      | s d => cases hu
    · obtain ⟨F', δ', S', z⟩ := z
      exact z.elim
    · obtain ⟨F', δ', S', z⟩ := z
      exact z.elim

/-! ### the call of a def -/
section
variable {X : Cx} {W : Fix} {k : Nat} {f : Addr} {fd : FuncData} {ps : List Str} {spd : Spd} {sp : Sp} {dvs : List V} {dfs : List Value} {dds : List D} {E : XK} {x : Str} {p pos : Pos} {e : Expr} {es : List Expr} {t : TDA}
theorem run_g {pins : List (Addr × Obj)} {σ : L2.St} {H : Hp} {s : Shared} {Q : VK} {us : List Value} {vs : List V} (G : GnOk X.prog X.w X.K X.mg X.base k f fd ps sp) (gu : X.A.guards = some []) (hr : Room k X.A)
    (hb : Binds X.K fd ps dfs) (hd : Vals dvs dfs) (hx : ∀ (e : Value) (s' : Shared), L2.CX X.prog X.w X.stack H s E e s' → X.xe e s') (I : Inv X pins σ H s) (r : Vals vs us) (h : sp (vs ++ dvs) H Q E) :
    wpAny (model X.prog X.w) X.A (call (.ref f) us) (EP X pins σ Q) X.xe s := by
  have r2 : Vals (vs ++ dvs) (us ++ dfs) := r.append hd
  have hl : (us ++ dfs).length = ps.length := by
    rw [← r2.length]
    exact G.len _ _ _ _ h
  refine wpAny_call (codeAny_mono (G.run X.A X.stack s H ⟨us, []⟩ _ _ Q E gu hr I.env0 (hb s us I.kIn hl) r2 h) ?_)
  intro r s' hq
  cases r with
  | error e => exact hx e s' hq
  | ok fl =>
    cases fl with
    | ret u => exact I.after hq
    | next => exact hq.elim
    | brk => exact hq.elim
    | cont => exact hq.elim
/-- f(e, ..): the reading knows the slots -/
def tCallG (sp : Sp) (dvs : List V) (E : L2.St → XK) (t : TA) : TE := fun σ H Q => t σ H fun vs H1 => sp (vs ++ dvs) H1 Q (E σ)
theorem pe_callG {ta : TA} {Es : L2.St → XK} (G : GnOk X.prog X.w X.K X.mg X.base k f fd ps sp) (gu : X.A.guards = some []) (hr : Room k X.A) (hg : Gl X x) (hm : X.mg x = some (.ref f)) (hk : PySem.W.keepIn X.K (.ref f) = true)
    (hb : Binds X.K fd ps dfs) (hd : Vals dvs dfs) (hx : ∀ σ, PassesAt (L2.CX X.prog X.w) X σ (Es σ)) (ha : PA X (e :: es) ta) (hdb : (x == ("__debug__" : Str)) = false := by decide)
    (he : starEach (e :: es) X.env = (false, eval e X.env) :: starEach es X.env := by rfl) (hpl : (backTo pos (starEach es X.env)).any (·.1) = false := by rfl) :
    PE X (.Call (.Name x p) (e :: es) [] pos) (tCallG sp dvs Es ta) := by
  refine ⟨fun pins s σ H Q I h => wpAny_Call_Name_kw (ld_glob I hg hm ?_ hdb)⟩
  refine PySem.W.callWith_K (h₀ := X.base) I.ok.mod.kin hk (thn (ha.run pos pins s σ H _ I h) ?_) he hpl
  rintro us s1 ⟨vs, H1, I1, r, q⟩
  exact ⟨I1.kIn, run_g G gu hr hb hd (fun e s' c => hx σ pins H1 s1 e s' I1 c) I1 r q⟩
theorem pe_callG0 {Es : L2.St → XK} (G : GnOk X.prog X.w X.K X.mg X.base k f fd ps sp) (gu : X.A.guards = some []) (hr : Room k X.A) (hg : Gl X x) (hm : X.mg x = some (.ref f)) (hk : PySem.W.keepIn X.K (.ref f) = true)
    (hb : Binds X.K fd ps dfs) (hd : Vals dvs dfs) (hx : ∀ σ, PassesAt (L2.CX X.prog X.w) X σ (Es σ)) (hdb : (x == ("__debug__" : Str)) = false := by decide) :
    PE X (.Call (.Name x p) [] [] pos) (tCallG sp dvs Es tNil) := by
  refine ⟨fun pins s σ H Q I h => wpAny_Call_Name_kw (ld_glob I hg hm ?_ hdb)⟩
  exact PySem.W.callWith_K0 I.kIn hk (run_g (us := []) G gu hr hb hd (fun e s' c => hx σ pins H s e s' I c) I .nil h)
/-- no exception is wished for -/
theorem pass_none {X : Cx} {σ : L2.St} : PassesAt (L2.CX X.prog X.w) X σ (fun _ _ _ => False) := fun _ _ _ _ _ _ c => by
  obtain ⟨_, _, _, _, _, _, _, _, _, _, _, _, z⟩ := c
  exact z.elim

/-- behind a call, the caller's state -/
theorem SD.after {K : PySem.W.Frag} {F H F' H' : Hp} {σ : L2.St} {δ : Env'} {m : Nat} (S : SD K W F H σ δ) (a : Aft F H none m F' H') : SD K W F' H' σ δ where
  f0 := S.f0.trans a.ff
  h0 := fun b o h n => a.keep b o (S.h0 b o h n) (fun z => by cases z)
  fh := a.fh
  fr := fun b o h => by
    rcases a.new b o h with h1 | h1
    · exact S.fr b o h1
    · exact .inr (S.fresh0 h1)
  fp := fun b h => by
    obtain ⟨h1, ⟨o, h2⟩, h3⟩ := S.fp b h
    refine ⟨?_, ⟨o, a.keep b o h2 (fun z => by cases z)⟩, h3⟩
    cases q : F' b with
    | none => rfl
    | some u =>
      rcases a.new b u q with h4 | h4
      · rw [h1] at h4
        cases h4
      · rw [h2] at h4
        cases h4
  len := S.len
  get := fun i b h => by
    obtain ⟨v, h1, h2⟩ := S.get i b h
    refine ⟨v, h1, h2.keep a.ff (fun c o _ _ h3 => a.keep c o h3 (fun z => by cases z)) fun c hv hb h3 => ?_⟩
    obtain ⟨c', o, e1, h4, _⟩ := h2.there hb
    rw [hv] at e1
    cases e1
    cases q : F' c with
    | none => rfl
    | some u =>
      rcases a.new c u q with h5 | h5
      · rw [h3] at h5
        cases h5
      · rw [h4] at h5
        cases h5
  sep := S.sep
/-- .. the purse in slot i has turned -/
theorem SD.afterP {K : PySem.W.Frag} {F H F' H' : Hp} {σ : L2.St} {δ : Env'} {i : Nat} {w : Bool} {n m : Nat} {q : Addr} (S : SD K W F H σ δ) (hi : δ[i]? = some (some (.u w n))) (hq : σ[i]? = some (some (.ref q))) (a : Aft F H (some q) m F' H') :
    SD K W F' H' σ (δ.set i (some (.u w m))) := by
  obtain ⟨v, e1, q', x, y, z, rfl, hF, hw, hH, hp⟩ := S.get i _ hi
  rw [hq] at e1
  cases e1
  have hli : i < δ.length := (List.getElem?_eq_some_iff.mp hi).1
  have nF : ∀ b o, H b = some o → F b = none → F' b = none := fun b o h1 h2 => by
    cases z : F' b with
    | none => rfl
    | some u =>
      rcases a.new b u z with h5 | h5
      · rw [h2] at h5
        cases h5
      · rw [h1] at h5
        cases h5
  have hneP : ∀ b o, W.H0 b = some o → W.P ≠ some b → b ≠ q := fun b o h1 h2 z => by
    subst z
    cases w with
    | true =>
      rw [if_pos rfl] at hw
      exact h2 hw
    | false =>
      rw [if_neg Bool.false_ne_true] at hw
      rw [h1] at hw
      cases hw
  have aux : ∀ (j : Nat) (c : B), (δ.set i (some (.u w m)))[j]? = some (some c) → (j = i ∧ c = .u w m) ∨ (j ≠ i ∧ δ[j]? = some (some c)) := fun j c h => by
    by_cases e : j = i
    · subst e
      rw [List.getElem?_set_self hli] at h
      cases h
      exact .inl ⟨rfl, rfl⟩
    · rw [List.getElem?_set_ne (Ne.symm e)] at h
      exact .inr ⟨e, h⟩
  refine ⟨S.f0.trans a.ff, fun b o h n => a.keep b o (S.h0 b o h n) fun z => hneP b o h n (Option.some.inj z).symm, a.fh, fun b o h => ?_, fun b h => ?_, by rw [List.length_set]; exact S.len, fun j c h => ?_, fun j k c d v ne h1 h2 h3 h4 h5 => ?_⟩
  · rcases a.new b o h with h1 | h1
    · exact S.fr b o h1
    · exact .inr (S.fresh0 h1)
  · obtain ⟨h1, ⟨o, h2⟩, h3⟩ := S.fp b h
    refine ⟨nF b o h2 h1, ?_, h3⟩
    by_cases e : b = q
    · subst e
      obtain ⟨_, x', y', z', h5, _⟩ := a.pur b rfl
      exact ⟨_, h5⟩
    · exact ⟨o, a.keep b o h2 fun z => e (Option.some.inj z).symm⟩
  · rcases aux j c h with ⟨rfl, rfl⟩ | ⟨hj, h⟩
    · obtain ⟨h4, x', y', z', h5, h6⟩ := a.pur q rfl
      exact ⟨.ref q, hq, q, x', y', z', rfl, h4, hw, h5, h6⟩
    · obtain ⟨v, h1, h2⟩ := S.get j c h
      refine ⟨v, h1, h2.keep a.ff (fun b o hv hb h3 => a.keep b o h3 fun z => ?_) fun b hv hb h3 => ?_⟩
      · have e := Option.some.inj z
        subst e
        rw [hv] at h1
        exact S.sep i j _ c (.ref q) (Ne.symm hj) hi rfl h hb hq h1
      · obtain ⟨b', o, e1, h4, _⟩ := h2.there hb
        rw [hv] at e1
        cases e1
        exact nF b o h4 h3
  · have g1 : ∃ c', δ[j]? = some (some c') ∧ c'.own = true := by
      rcases aux j c h1 with ⟨rfl, rfl⟩ | ⟨_, h⟩
      · exact ⟨_, hi, rfl⟩
      · exact ⟨c, h, h2⟩
    have g2 : ∃ c', δ[k]? = some (some c') ∧ c'.own = true := by
      rcases aux k d h3 with ⟨rfl, rfl⟩ | ⟨_, h⟩
      · exact ⟨_, hi, rfl⟩
      · exact ⟨d, h, h4⟩
    obtain ⟨c', g1, g1'⟩ := g1
    obtain ⟨d', g2, g2'⟩ := g2
    exact S.sep j k c' d' v ne g1 g1' g2 g2' h5

def dCall (spd : Spd) (dds : List D) (Ew : Addr → List D → Env' → Prop) (t : TDA) : TD := fun δ Q => t δ fun ds δ1 => spd ((ds ++ dds).map .p) (fun b _ => b.isU = false ∧ Q b δ1) fun C es _ => Ew C es δ1
def dCallP (i : Nat) (spd : Spd) (dds : List D) (Ew : Addr → List D → Env' → Prop) (t : TDA) : TD := fun δ Q => (∃ w n, δ[i]? = some (some (.u w n))) ∧ t δ fun ds δ1 => ∃ w n, δ1[i]? = some (some (.u w n)) ∧
  spd (.u true n :: (ds ++ dds).map .p) (fun b m => b.isU = false ∧ Q b (δ1.set i (some (.u w m)))) fun C es m => Ew C es (δ1.set i (some (.u w m)))
theorem paired_p {K : PySem.W.Frag} {F H : Hp} {P : Option Addr} : ∀ {ds : List D} {vs : List V}, RpL K F ds vs → Paired (Arg K F H P) (ds.map B.p) vs
  | [], _, h => by
    unfold RpL at h
    rw [h]
    exact .nil
  | d :: ds, vs, h => by
    unfold RpL at h
    obtain ⟨x, r, rfl, h1, h2⟩ := h
    exact .cons h1 (paired_p h2)
theorem RB.of_res {K : PySem.W.Frag} {F H F' H' : Hp} {σ : L2.St} {δ : Env'} {b : B} {v : V} (S : SD K W F H σ δ) (r : Res K H F' H' b v) : RB K W F' H' b v ∧ (b.own = true → ∀ (j : Nat) (c : B), δ[j]? = some (some c) → c.own = true → σ[j]? ≠ some (some v)) := by
  cases b with
  | p d => exact ⟨r, fun h => by cases h⟩
  | n ds =>
    obtain ⟨t, xs, e, h1, h2, h3⟩ := r
    exact ⟨⟨t, xs, e, h1, h2, fun c hc => ⟨(h3 c hc).1, S.fresh0 (h3 c hc).2⟩⟩, fun h => by cases h⟩
  | u w n => exact r.elim
  | s d => exact r.elim
  | o d =>
    obtain ⟨a, rfl, h1, h2, h3⟩ := r
    refine ⟨⟨a, rfl, h1, S.fresh0 h2, h3⟩, fun _ j c e1 e2 e3 => ?_⟩
    obtain ⟨u, h4, h5⟩ := S.get j c e1
    rw [e3] at h4
    cases h4
    obtain ⟨a', o, e, h6, _⟩ := h5.there e2
    cases e
    rw [h2] at h6
    cases h6
/-- f(e, ..) that raises nothing -/
theorem de_call (G : GnOk X.prog X.w X.K X.mg X.base k f fd ps (toSp X.K spd)) (gu : X.A.guards = some []) (hr : Room k X.A) (hg : Gl X x) (hm : X.mg x = some (.ref f)) (hk : PySem.W.keepIn X.K (.ref f) = true)
    (hb : Binds X.K fd ps dfs) (hd : Vals dvs dfs) (hdd : ∀ F, RpL X.K F dds dvs) (h : DA X W (e :: es) t) (hdb : (x == ("__debug__" : Str)) = false := by decide)
    (he : starEach (e :: es) X.env = (false, eval e X.env) :: starEach es X.env := by rfl) (hpl : (backTo pos (starEach es X.env)).any (·.1) = false := by rfl) :
    DE X W (.Call (.Name x p) (e :: es) [] pos) (dCall spd dds (fun _ _ _ => False) t) :=
  .of (pe_callG (Es := fun _ _ _ _ => False) G gu hr hg hm hk hb hd (fun σ => pass_none) cA_pa hdb he hpl) fun F H σ δ Q S q => by
    refine (h.run F H σ δ _ S q).imp fun vs H1 h1 => ?_
    obtain ⟨F1, ds, δ1, e1, S1, r1, q1⟩ := h1
    refine ⟨F1, none, _, _, _, S1.fh, paired_p (r1.append (hdd F1)), (fun p e => by cases e), q1, fun v H' F' b m a r z => ?_, fun cls d H' F' C ds m a er z => z.elim⟩
    obtain ⟨r2, r3⟩ := RB.of_res S1 r
    exact ⟨F', b, δ1, e1.trans a.ff, S1.after a, r2, r3, z.2⟩
/-- f(e, ..) that may raise -/
theorem de_callX {E0 : Addr → List D → Env' → Prop} (te : TkE X W E0) (G : GnOk X.prog X.w X.K X.mg X.base k f fd ps (toSp X.K spd)) (gu : X.A.guards = some []) (hr : Room k X.A) (hg : Gl X x) (hm : X.mg x = some (.ref f)) (hk : PySem.W.keepIn X.K (.ref f) = true)
    (hb : Binds X.K fd ps dfs) (hd : Vals dvs dfs) (hdd : ∀ F, RpL X.K F dds dvs) (h : DA X W (e :: es) t) (hdb : (x == ("__debug__" : Str)) = false := by decide)
    (he : starEach (e :: es) X.env = (false, eval e X.env) :: starEach es X.env := by rfl) (hpl : (backTo pos (starEach es X.env)).any (·.1) = false := by rfl) :
    DE X W (.Call (.Name x p) (e :: es) [] pos) (dCall spd dds E0 t) :=
  .of (pe_callG (Es := WE (WXd X.K W)) G gu hr hg hm hk hb hd (fun σ => passAt te.tk σ) cA_pa hdb he hpl) fun F H σ δ Q S q => by
    refine (h.run F H σ δ _ S q).imp fun vs H1 h1 => ?_
    obtain ⟨F1, ds, δ1, e1, S1, r1, q1⟩ := h1
    refine ⟨F1, none, _, _, _, S1.fh, paired_p (r1.append (hdd F1)), (fun p e => by cases e), q1, fun v H' F' b m a r z => ?_, fun cls d H' F' C ds m a er z => ?_⟩
    · obtain ⟨r2, r3⟩ := RB.of_res S1 r
      exact ⟨F', b, δ1, e1.trans a.ff, S1.after a, r2, r3, z.2⟩
    · exact ⟨F', δ1, C, ds, S1.after a, er, by rw [te.eq]; exact z⟩
/-- f(purse, e, ..), the purse in slot i -/
theorem de_callP {i : Nat} {xp : Str} {pp : Pos} (G : GnOk X.prog X.w X.K X.mg X.base k f fd ps (toSp X.K spd)) (gu : X.A.guards = some []) (hr : Room k X.A) (hg : Gl X x) (hm : X.mg x = some (.ref f)) (hk : PySem.W.keepIn X.K (.ref f) = true)
    (hN : X.N[i]? = some xp) (hv : Vis X.env.scope xp)
    (hb : Binds X.K fd ps dfs) (hd : Vals dvs dfs) (hdd : ∀ F, RpL X.K F dds dvs) (h : DA X W es t) (hdb : (x == ("__debug__" : Str)) = false := by decide) (hd1 : (xp == ("__debug__" : Str)) = false := by decide) (hcd : (xp == ("__classdict__" : Str)) = false := by decide)
    (he : starEach (.Name xp pp :: es) X.env = (false, eval (.Name xp pp) X.env) :: starEach es X.env := by rfl) (hpl : (backTo pos (starEach es X.env)).any (·.1) = false := by rfl) :
    DE X W (.Call (.Name x p) (.Name xp pp :: es) [] pos) (dCallP i spd dds (fun _ _ _ => False) t) :=
  .of (pe_callG (Es := fun _ _ _ _ => False) (e := .Name xp pp) G gu hr hg hm hk hb hd (fun σ => pass_none) (pa_cons (pe_var (X := X) hN hv hd1 hcd) cA_pa he) hdb he hpl) fun F H σ δ Q S q => by
    obtain ⟨⟨w0, n0, h0⟩, q⟩ := q
    obtain ⟨v0, hv0, q0, _, _, _, rfl, _⟩ := S.get i _ h0
    refine ⟨.ref q0, hv0, ?_⟩
    refine (h.run F H σ δ _ S q).imp fun vs H1 h1 => ?_
    obtain ⟨F1, ds, δ1, e1, S1, r1, w, n, hi, q1⟩ := h1
    obtain ⟨v1, hv1, q2, x, y, z, rfl, hF, hw, hH, hp⟩ := S1.get i _ hi
    rw [hv0] at hv1
    cases hv1
    refine ⟨F1, some q0, _, _, _, S1.fh, .cons (show Arg X.K F1 H1 (some q0) (.u true n) (.ref q0) from ⟨rfl, q0, x, y, z, rfl, rfl, hF, hH, hp⟩) (paired_p (r1.append (hdd F1))), (fun p e => by cases e; exact ⟨⟨hF, _, hH⟩, _, List.mem_cons_self, rfl⟩), q1, fun v H' F' b m a r z => ?_, fun cls d H' F' C ds m a er z => z.elim⟩
    have S2 := S1.afterP hi hv0 a
    refine ⟨F', b, _, e1.trans a.ff, S2, ?_⟩
    cases b with
    | p d => exact ⟨r, (fun h => by cases h), z.2⟩
    | n ds =>
      obtain ⟨t, xs, e, h1, h2, h3⟩ := r
      exact ⟨⟨t, xs, e, h1, h2, fun c hc => ⟨(h3 c hc).1, S1.fresh0 (h3 c hc).2⟩⟩, (fun h => by cases h), z.2⟩
    | u w n => exact r.elim
    | s d => exact r.elim
    | o d =>
      obtain ⟨c, rfl, h1, h2, h3⟩ := r
      refine ⟨⟨c, rfl, h1, S1.fresh0 h2, h3⟩, fun _ j b' e1 e2 e3 => ?_, z.2⟩
      have hb' : ∃ b'', δ1[j]? = some (some b'') ∧ b''.own = true := by
        by_cases ej : j = i
        · subst ej
          exact ⟨_, hi, rfl⟩
        · rw [List.getElem?_set_ne (Ne.symm ej)] at e1
          exact ⟨b', e1, e2⟩
      obtain ⟨b'', e1, e2⟩ := hb'
      obtain ⟨u, h4, h5⟩ := S1.get j b'' e1
      rw [e3] at h4
      cases h4
      obtain ⟨a', o, e, h6, _⟩ := h5.there e2
      cases e
      rw [h2] at h6
      cases h6
end
end DD

set_option Elab.async false
set_option linter.all false
set_option maxRecDepth 100000
set_option maxHeartbeats 4000000
/-! DD6: operators over data. -/
namespace DD
open PySem PySem.Spec PyProof.Rows L2

mutual
def toPy : D → Option PyData
  | .non => some .none
  | .bl b => some (.bool b)
  | .int i => some (.int i)
  | .str s => some (.str s)
  | .lst ds => (toPyL ds).map .list
  | .tup ds => (toPyL ds).map .tuple
  | _ => none
def toPyL : List D → Option (List PyData)
  | [] => some []
  | d :: ds => (toPy d).bind fun x => (toPyL ds).map fun xs => x :: xs
end
section
variable {K : PySem.W.Frag} {F H : Hp}
theorem rpNon {v : V} (h : Rp K F .non v) : v = .non := by
  unfold Rp at h
  exact h
theorem rpBl {b : Bool} {v : V} (h : Rp K F (.bl b) v) : v = .bl b := by
  unfold Rp at h
  exact h
theorem rpStr {x : Str} {v : V} (h : Rp K F (.str x) v) : v = .str x := by
  unfold Rp at h
  exact h
theorem rpTy {x : String} {v : V} (h : Rp K F (.ty x) v) : v = .ty x := by
  unfold Rp at h
  exact h
theorem rpLst {ds : List D} {v : V} (h : Rp K F (.lst ds) v) : ∃ a xs, v = .ref a ∧ F a = some (.lst xs) ∧ RpL K F ds xs := by
  unfold Rp at h
  exact h
theorem rpTup {ds : List D} {v : V} (h : Rp K F (.tup ds) v) : ∃ a xs, v = .ref a ∧ SqT K F a xs ∧ RpL K F ds xs := by
  unfold Rp at h
  exact h
mutual
theorem Rp.dp (e : Same F H) : ∀ (d : D) (v : V) (c : PyData), Rp K F d v → toPy d = some c → Dp K H v c
  | .non, v, c, h, t => by
    rw [rpNon h]
    cases t
    exact .non
  | .bl b, v, c, h, t => by
    rw [rpBl h]
    cases t
    exact .bl b
  | .int i, v, c, h, t => by
    rw [rpInt h]
    cases t
    exact .int i
  | .str x, v, c, h, t => by
    rw [rpStr h]
    cases t
    exact .str x
  | .lst ds, v, c, h, t => by
    obtain ⟨a, xs, rfl, h1, h2⟩ := rpLst h
    unfold toPy at t
    cases q : toPyL ds with
    | none =>
      rw [q] at t
      cases t
    | some cs =>
      rw [q] at t
      cases t
      exact .lst (SqL.of (e _ _ h1)) (RpL.dp e ds xs cs h2 q)
  | .tup ds, v, c, h, t => by
    obtain ⟨a, xs, rfl, h1, h2⟩ := rpTup h
    unfold toPy at t
    cases q : toPyL ds with
    | none =>
      rw [q] at t
      cases t
    | some cs =>
      rw [q] at t
      cases t
      exact .tup (sqT_mono e h1) (RpL.dp e ds xs cs h2 q)
  | .ty _, _, _, _, t => by cases t
  | .ref _, _, _, _, t => by cases t
  | .dct _ _, _, _, _, t => by cases t
  | .ins _ _ _, _, _, _, t => by cases t
  | .iset _ _, _, _, _, t => by cases t
  | .exc _ _, _, _, _, t => by cases t
  | .scr _, _, _, _, t => by cases t
theorem RpL.dp (e : Same F H) : ∀ (ds : List D) (vs : List V) (cs : List PyData), RpL K F ds vs → toPyL ds = some cs → DpAll K H vs cs
  | [], vs, cs, h, t => by
    unfold RpL at h
    rw [h]
    cases t
    exact .nil
  | d :: ds, vs, cs, h, t => by
    unfold RpL at h
    obtain ⟨x, r, rfl, h1, h2⟩ := h
    unfold toPyL at t
    cases q1 : toPy d with
    | none =>
      rw [q1] at t
      cases t
    | some c =>
      cases q2 : toPyL ds with
      | none =>
        rw [q1, q2] at t
        cases t
      | some cs' =>
        rw [q1, q2] at t
        cases t
        exact .cons (Rp.dp e d x c h1 q1) (RpL.dp e ds r cs' h2 q2)
end
end

/-! ### + -/
def rAddI : R2 := rI0 fun i j => .int (i + j)
def rAddS' : R2 := fun x y H Q => ∃ i j, x = .str i ∧ y = .str j ∧ i.length + j.length ≤ sizeLine ∧ Q (.str (i ++ j)) H
def rAddAll (K : PySem.W.Frag) : R2 := fun x y H Q => rAddI x y H Q ∨ rAddS' x y H Q ∨ rCat x y H Q ∨ rCatT K x y H Q
theorem op_addAll {X : Cx} : OpR X (binaryOp .Add) (rAddAll X.K) := by
  intro pins s σ H x y v u Q I rx ry h
  rcases h with h | h | h | h
  · exact op_add pins s σ H x y v u Q I rx ry h
  · exact op_add_str pins s σ H x y v u Q I rx ry h
  · exact op_cat pins s σ H x y v u Q I rx ry h
  · exact op_catT pins s σ H x y v u Q I rx ry h
def addG : D → D → (B → Prop) → Prop
  | .int i, .int j, Q => Q (.p (.int (i + j)))
  | .str a, .str b, Q => a.length + b.length ≤ sizeLine ∧ Q (.p (.str (a ++ b)))
  | .lst a, .lst b, Q => a.length + b.length ≤ sizeLine ∧ Q (.o (.lst (a ++ b)))
  | .tup a, .tup b, Q => a ≠ [] ∧ a.length + b.length ≤ sizeLine ∧ Q (.p (.tup (a ++ b)))
  | _, _, _ => False
theorem mkP {K : PySem.W.Frag} {W : Fix} {F H : Hp} {σ : L2.St} {δ : Env'} {Q : B → Prop} {d : D} {v : V} (S : SD K W F H σ δ) (r : Rp K F d v) (q : Q (.p d)) : DQ K W F σ (fun b δ' => δ' = δ ∧ Q b) v H := .mk S r ⟨rfl, q⟩
theorem rp_int {K : PySem.W.Frag} {F : Hp} {i : Int} : Rp K F (.int i) (.int i) := by
  unfold Rp
  rfl
theorem rp_bl {K : PySem.W.Frag} {F : Hp} {i : Bool} : Rp K F (.bl i) (.bl i) := by
  unfold Rp
  rfl
theorem rp_str {K : PySem.W.Frag} {F : Hp} {i : Str} : Rp K F (.str i) (.str i) := by
  unfold Rp
  rfl
theorem rp_non {K : PySem.W.Frag} {F : Hp} : Rp K F .non .non := by
  unfold Rp
  rfl
theorem rp_tupN {K : PySem.W.Frag} {F : Hp} {p : Addr} {xs : List V} {ds : List D} (r : RpL K F ds xs) (hp : F p = none) : Rp K (upd F p (.tup xs)) (.tup ds) (.ref p) := by
  unfold Rp
  exact ⟨p, xs, rfl, .inl (.inl upd_same), RpL.mono (same_upd hp) _ _ r⟩
theorem rd_add {K : PySem.W.Frag} : RD K (rAddAll K) addG := by
  intro W F H σ δ x y c d Q Z S rc rd g hZ
  cases c with
  | int i =>
    cases d <;> first | exact g.elim | skip
    rename_i j
    exact .inl ⟨i, j, rpInt rc, rpInt rd, hZ _ _ (mkP S rp_int g)⟩
  | str a =>
    cases d <;> first | exact g.elim | skip
    rename_i b
    exact .inr (.inl ⟨a, b, rpStr rc, rpStr rd, g.1, hZ _ _ (mkP S rp_str g.2)⟩)
  | lst a =>
    cases d <;> first | exact g.elim | skip
    rename_i b
    obtain ⟨p, xs, rfl, h1, h2⟩ := rpLst rc
    obtain ⟨q, ys, rfl, h3, h4⟩ := rpLst rd
    refine .inr (.inr (.inl ⟨p, q, xs, ys, rfl, rfl, S.fh _ _ h1, S.fh _ _ h3, by rw [h2.length, h4.length]; exact g.1, fun r hr => hZ _ _ ?_⟩))
    exact DQ.mkO (Q := fun b δ' => δ' = δ ∧ Q b) (d := .lst (a ++ b)) S hr ⟨_, upd_same, h2.append h4⟩ ⟨rfl, g.2⟩
  | tup a =>
    cases d <;> first | exact g.elim | skip
    rename_i b
    obtain ⟨p, xs, rfl, h1, h2⟩ := rpTup rc
    obtain ⟨q, ys, rfl, h3, h4⟩ := rpTup rd
    obtain ⟨g1, g2, g3⟩ := g
    have n1 : xs ≠ [] := fun z => g1 (List.length_eq_zero_iff.mp (by rw [← h2.length, z]; rfl))
    refine .inr (.inr (.inr ⟨p, q, xs, ys, rfl, rfl, sqT_mono S.fh h1, sqT_mono S.fh h3, n1, by rw [h2.length, h4.length]; exact g2, fun z => hZ _ _ ?_, fun z r hr => hZ _ _ ?_⟩))
    · have e : b = [] := List.length_eq_zero_iff.mp (by rw [← h4.length, z]; rfl)
      subst e
      rw [List.append_nil] at g3
      exact mkP S rc g3
    · exact DQ.mkN (Q := fun b δ' => δ' = δ ∧ Q b) S hr (rp_tupN (h2.append h4) (S.freshF hr)) ⟨rfl, g3⟩
  | _ => exact g.elim

/-! ### -, *, //, %, ** of ints -/
def intG (C : Int → Int → Prop) (f : Int → Int → D) : D → D → (B → Prop) → Prop
  | .int i, .int j, Q => C i j ∧ Q (.p (f i j))
  | _, _, _ => False
theorem rd_intI {K : PySem.W.Frag} {C : Int → Int → Prop} {f : Int → Int → Int} : RD K (rI C fun i j => .int (f i j)) (intG C fun i j => .int (f i j)) := by
  intro W F H σ δ x y c d Q Z S rc rd g hZ
  cases c <;> first | exact g.elim | skip
  cases d <;> first | exact g.elim | skip
  rename_i i j
  exact ⟨i, j, rpInt rc, rpInt rd, g.1, hZ _ _ (mkP S rp_int g.2)⟩
def intG0 (f : Int → Int → D) : D → D → (B → Prop) → Prop
  | .int i, .int j, Q => Q (.p (f i j))
  | _, _, _ => False
theorem rd_intI0 {K : PySem.W.Frag} {f : Int → Int → Int} : RD K (rI0 fun i j => .int (f i j)) (intG0 fun i j => .int (f i j)) := by
  intro W F H σ δ x y c d Q Z S rc rd g hZ
  cases c <;> first | exact g.elim | skip
  cases d <;> first | exact g.elim | skip
  rename_i i j
  exact ⟨i, j, rpInt rc, rpInt rd, hZ _ _ (mkP S rp_int g)⟩
theorem rd_intB0 {K : PySem.W.Frag} {f : Int → Int → Bool} : RD K (rI0 fun i j => .bl (f i j)) (intG0 fun i j => .bl (f i j)) := by
  intro W F H σ δ x y c d Q Z S rc rd g hZ
  cases c <;> first | exact g.elim | skip
  cases d <;> first | exact g.elim | skip
  rename_i i j
  exact ⟨i, j, rpInt rc, rpInt rd, hZ _ _ (mkP S rp_bl g)⟩
abbrev subG := intG0 fun i j => .int (i - j)
abbrev fdivG := intG CDivW fun i j => .int (i / j)
abbrev modG := intG (fun _ j => 0 < j) fun i j => .int (i % j)
def CPowW (i j : Int) : Prop := 0 ≤ j ∧ (Builtin.Int.intBits i : Int) * j ≤ 2 ^ 27
theorem op_powW {X : Cx} : OpR X (binaryOp .Pow) (rI CPowW fun i j => .int (i ^ j.toNat)) := opI fun i j t u s Q E hc q => PyProof.Rows.pow_int hc.1 hc.2 q
abbrev powG := intG CPowW fun i j => .int (i ^ j.toNat)
abbrev ltG := intG0 fun i j => .bl (decide (i < j))
abbrev leG := intG0 fun i j => .bl (decide (i ≤ j))
abbrev gtG := intG0 fun i j => .bl (decide (j < i))
abbrev geG := intG0 fun i j => .bl (decide (j ≤ i))
/-- * : ints, a text or a list so many times -/
def rMulS : R2 := fun x y H Q => ∃ (a : Str) (n : Int), x = .str a ∧ y = .int n ∧ MulOk a n ∧ Q (.str (Txt.mul a n)) H
theorem op_mulS {X : Cx} : OpR X (binaryOp .Mult) rMulS := by
  intro pins s σ H x y v u Q I rx ry h
  obtain ⟨a, n, rfl, rfl, hok, q⟩ := h
  obtain ⟨t, rfl⟩ := rx
  obtain ⟨t', rfl⟩ := ry
  exact SB.mul hok fun t2 k => ⟨.str _, H, I.tok k, ⟨t2, rfl⟩, q⟩
def rMulAll : R2 := fun x y H Q => rI CMulW (fun i j => .int (i * j)) x y H Q ∨ rMulS x y H Q ∨ rRep x y H Q
theorem op_mulAll {X : Cx} : OpR X (binaryOp .Mult) rMulAll := by
  intro pins s σ H x y v u Q I rx ry h
  rcases h with h | h | h
  · exact op_mulW pins s σ H x y v u Q I rx ry h
  · exact op_mulS pins s σ H x y v u Q I rx ry h
  · exact op_rep pins s σ H x y v u Q I rx ry h
def repeatL (k : Nat) (ds : List D) : List D := (List.replicate k ds).flatten
def mulG : D → D → (B → Prop) → Prop
  | .int i, .int j, Q => CMulW i j ∧ Q (.p (.int (i * j)))
  | .str a, .int n, Q => MulOk a n ∧ Q (.p (.str (Txt.mul a n)))
  | .lst a, .int n, Q => (-(2 ^ 63) ≤ n ∧ n < 2 ^ 63 ∧ a.length * n.toNat ≤ sizeLine) ∧ Q (.o (.lst (repeatL n.toNat a)))
  | _, _, _ => False
theorem RpL.rep {K : PySem.W.Frag} {F : Hp} {ds : List D} {xs : List V} (h : RpL K F ds xs) : ∀ n : Nat, RpL K F (repeatL n ds) (List.replicate n xs).flatten
  | 0 => by
    unfold repeatL
    exact .nil
  | n + 1 => by
    unfold repeatL
    rw [List.replicate_succ, List.replicate_succ, List.flatten_cons, List.flatten_cons]
    exact h.append (RpL.rep h n)
theorem rd_mul {K : PySem.W.Frag} : RD K rMulAll mulG := by
  intro W F H σ δ x y c d Q Z S rc rd g hZ
  cases c with
  | int i =>
    cases d <;> first | exact g.elim | skip
    rename_i j
    exact .inl ⟨i, j, rpInt rc, rpInt rd, g.1, hZ _ _ (mkP S rp_int g.2)⟩
  | str a =>
    cases d <;> first | exact g.elim | skip
    rename_i n
    exact .inr (.inl ⟨a, n, rpStr rc, rpInt rd, g.1, hZ _ _ (mkP S rp_str g.2)⟩)
  | lst a =>
    cases d <;> first | exact g.elim | skip
    rename_i n
    obtain ⟨p, xs, rfl, h1, h2⟩ := rpLst rc
    obtain ⟨⟨g1, g2, g3⟩, g4⟩ := g
    refine .inr (.inr ⟨p, n, xs, rfl, rpInt rd, S.fh _ _ h1, g1, g2, by rw [h2.length]; exact g3, fun r hr => hZ _ _ ?_⟩)
    exact DQ.mkO (Q := fun b δ' => δ' = δ ∧ Q b) (d := .lst (repeatL n.toNat a)) S hr ⟨_, upd_same, h2.rep _⟩ ⟨rfl, g4⟩
  | _ => exact g.elim

/-! ### ==, != -/
/-- flat data -/
def flatD : D → Bool
  | .non => true
  | .bl _ => true
  | .int _ => true
  | .str _ => true
  | _ => false
def flatV' : D → V
  | .non => .non
  | .bl b => .bl b
  | .int i => .int i
  | .str s => .str s
  | _ => .non
theorem rpFlat {K : PySem.W.Frag} {F : Hp} {d : D} {v : V} (h : Rp K F d v) (f : flatD d = true) : v = flatV' d ∧ flatV v = true := by
  cases d <;> first | cases f | skip
  · rw [rpNon h]
    exact ⟨rfl, rfl⟩
  · rw [rpBl h]
    exact ⟨rfl, rfl⟩
  · rw [rpInt h]
    exact ⟨rfl, rfl⟩
  · rw [rpStr h]
    exact ⟨rfl, rfl⟩
/-- == of data: none where it isn't told -/
def eqD (x y : D) : Option Bool := if (flatD x && flatD y && scal (flatV' x) (flatV' y)) = true then some (decide (flatV' x = flatV' y)) else
  (toPy x).bind fun c => (toPy y).bind fun d => if (SeqAt.shaped c && SeqAt.shaped d) = true then some (PyData.eqv c d) else none
def rEqAll (K : PySem.W.Frag) : R2 := fun x y H Q => rEq x y H Q ∨ rEqD K x y H Q
def rNeAll (K : PySem.W.Frag) : R2 := fun x y H Q => rNe x y H Q ∨ rNeD K x y H Q
theorem op_eqAll {X : Cx} (hu : X.A.units + 64 < cLine) : OpR X (compareOp .Eq) (rEqAll X.K) := by
  intro pins s σ H x y v u Q I rx ry h
  rcases h with h | h
  · exact op_eq pins s σ H x y v u Q I rx ry h
  · exact op_eqD hu pins s σ H x y v u Q I rx ry h
theorem op_neAll {X : Cx} (hu : X.A.units + 64 < cLine) : OpR X (compareOp .NotEq) (rNeAll X.K) := by
  intro pins s σ H x y v u Q I rx ry h
  rcases h with h | h
  · exact op_ne pins s σ H x y v u Q I rx ry h
  · exact op_neD hu pins s σ H x y v u Q I rx ry h
def eqG : D → D → (B → Prop) → Prop := fun x y Q => ∃ b, eqD x y = some b ∧ Q (.p (.bl b))
def neG : D → D → (B → Prop) → Prop := fun x y Q => ∃ b, eqD x y = some b ∧ Q (.p (.bl (!b)))
theorem eqD_cases {x y : D} {b : Bool} (h : eqD x y = some b) : (flatD x = true ∧ flatD y = true ∧ scal (flatV' x) (flatV' y) = true ∧ b = decide (flatV' x = flatV' y)) ∨
    ∃ c d, toPy x = some c ∧ toPy y = some d ∧ SeqAt.shaped c = true ∧ SeqAt.shaped d = true ∧ b = PyData.eqv c d := by
  unfold eqD at h
  split at h
  · rename_i z
    rw [Bool.and_eq_true, Bool.and_eq_true] at z
    exact .inl ⟨z.1.1, z.1.2, z.2, (Option.some.inj h).symm⟩
  · cases q1 : toPy x with
    | none =>
      rw [q1] at h
      cases h
    | some c =>
      cases q2 : toPy y with
      | none =>
        rw [q1, q2] at h
        cases h
      | some d =>
        rw [q1, q2] at h
        simp only [Option.bind_some] at h
        split at h
        · rename_i z
          rw [Bool.and_eq_true] at z
          exact .inr ⟨c, d, rfl, rfl, z.1, z.2, (Option.some.inj h).symm⟩
        · cases h
theorem rd_eq {K : PySem.W.Frag} : RD K (rEqAll K) eqG := by
  intro W F H σ δ x y c d Q Z S rc rd g hZ
  obtain ⟨b, hb, q⟩ := g
  rcases eqD_cases hb with ⟨f1, f2, sc, rfl⟩ | ⟨c', d', t1, t2, s1, s2, rfl⟩
  · obtain ⟨e1, _⟩ := rpFlat rc f1
    obtain ⟨e2, _⟩ := rpFlat rd f2
    rw [e1, e2]
    exact .inl ⟨sc, hZ _ _ (mkP S rp_bl q)⟩
  · exact .inr ⟨c', d', Rp.dp S.fh c x c' rc t1, Rp.dp S.fh d y d' rd t2, s1, s2, hZ _ _ (mkP S rp_bl q)⟩
theorem rd_ne {K : PySem.W.Frag} : RD K (rNeAll K) neG := by
  intro W F H σ δ x y c d Q Z S rc rd g hZ
  obtain ⟨b, hb, q⟩ := g
  rcases eqD_cases hb with ⟨f1, f2, sc, rfl⟩ | ⟨c', d', t1, t2, s1, s2, rfl⟩
  · obtain ⟨e1, _⟩ := rpFlat rc f1
    obtain ⟨e2, _⟩ := rpFlat rd f2
    rw [e1, e2]
    exact .inl ⟨sc, hZ _ _ (mkP S rp_bl q)⟩
  · exact .inr ⟨c', d', Rp.dp S.fh c x c' rc t1, Rp.dp S.fh d y d' rd t2, s1, s2, hZ _ _ (mkP S rp_bl q)⟩

/-! ### is None, is not None -/
def isNon : D → Bool
  | .non => true
  | _ => false
theorem rp_isNon {K : PySem.W.Frag} {F : Hp} {d : D} {v : V} (h : Rp K F d v) : decide (v = .non) = isNon d := by
  cases d with
  | non => rw [rpNon h]; rfl
  | bl b => rw [rpBl h]; rfl
  | int b => rw [rpInt h]; rfl
  | str b => rw [rpStr h]; rfl
  | ty b => rw [rpTy h]; rfl
  | ref b =>
    unfold Rp at h
    rw [h]
    rfl
  | lst ds => obtain ⟨a, _, rfl, _⟩ := rpLst h; rfl
  | tup ds => obtain ⟨a, _, rfl, _⟩ := rpTup h; rfl
  | dct ks ds =>
    unfold Rp at h
    obtain ⟨a, _, rfl, _⟩ := h
    rfl
  | ins C ns ds =>
    unfold Rp at h
    obtain ⟨a, _, _, rfl, _⟩ := h
    rfl
  | iset S n =>
    unfold Rp at h
    obtain ⟨a, rfl, _⟩ := h
    rfl
  | exc C ds =>
    unfold Rp at h
    obtain ⟨a, _, _, _, rfl, _⟩ := h
    rfl
  | scr ns =>
    unfold Rp at h
    obtain ⟨a, rfl, _⟩ := h
    rfl
def isNG : D → D → (B → Prop) → Prop
  | x, .non, Q => Q (.p (.bl (isNon x)))
  | _, _, _ => False
def notNG : D → D → (B → Prop) → Prop
  | x, .non, Q => Q (.p (.bl (!isNon x)))
  | _, _, _ => False
theorem rd_isN {K : PySem.W.Frag} : RD K (fun x y H Q => y = .non ∧ Q (.bl (decide (x = .non))) H) isNG := by
  intro W F H σ δ x y c d Q Z S rc rd g hZ
  cases d <;> first | exact g.elim | skip
  rw [rp_isNon rc]
  exact ⟨rpNon rd, hZ _ _ (mkP S rp_bl g)⟩
theorem rd_notN {K : PySem.W.Frag} : RD K (fun x y H Q => y = .non ∧ Q (.bl (!decide (x = .non))) H) notNG := by
  intro W F H σ δ x y c d Q Z S rc rd g hZ
  cases d <;> first | exact g.elim | skip
  rw [rp_isNon rc]
  exact ⟨rpNon rd, hZ _ _ (mkP S rp_bl g)⟩

/-! ### in, not in -/
def inD (x : D) (ds : List D) : Bool := inV (flatV' x) (ds.map flatV')
/-- a sign in a text -/
def signOf : D → Option Nat
  | .str s => if s.cps.size = 1 then s.cps[0]? else none
  | _ => none
def isIn (x : D) : D → Option Bool
  | .lst ds => if (flatD x && ds.all flatD) = true then some (inD x ds) else none
  | .tup ds => if (flatD x && ds.all flatD) = true then some (inD x ds) else none
  | .str z => (signOf x).map fun c => decide (c ∈ z.cps.toList)
  | .iset S _ => match x with
    | .int i => some (S i)
    | _ => none
  | _ => none
def rInSg (neg : Bool) : R2 := fun x y H Q => ∃ (c : Nat) (z : Str), x = .str ⟨#[c]⟩ ∧ y = .str z ∧ Q (.bl (if neg then !decide (c ∈ z.cps.toList) else decide (c ∈ z.cps.toList))) H
def rInSet (neg : Bool) : R2 := fun x y H Q => ∃ (i : Int) (a : Addr) (S : Int → Bool) (n : Nat), x = .int i ∧ y = .ref a ∧ H a = some (.set S n) ∧ Q (.bl (if neg then !S i else S i)) H
def rInAll (K : PySem.W.Frag) (neg : Bool) : R2 := fun x y H Q => rIn K neg x y H Q ∨ rInSg neg x y H Q ∨ rInSet neg x y H Q
def inG (neg : Bool) : D → D → (B → Prop) → Prop := fun x y Q => ∃ b, isIn x y = some b ∧ Q (.p (.bl (if neg then !b else b)))
theorem rpL_flat {K : PySem.W.Frag} {F : Hp} : ∀ {ds : List D} {xs : List V}, RpL K F ds xs → ds.all flatD = true → xs = ds.map flatV' ∧ xs.all flatV = true
  | [], xs, h, _ => by
    unfold RpL at h
    rw [h]
    exact ⟨rfl, rfl⟩
  | d :: ds, xs, h, f => by
    unfold RpL at h
    obtain ⟨x, r, rfl, h1, h2⟩ := h
    rw [List.all_cons, Bool.and_eq_true] at f
    obtain ⟨e1, e2⟩ := rpFlat h1 f.1
    obtain ⟨e3, e4⟩ := rpL_flat h2 f.2
    rw [List.map_cons, ← e1, ← e3, List.all_cons, e2, e4]
    exact ⟨rfl, rfl⟩
theorem sign_of {d : D} {c : Nat} (h : signOf d = some c) : d = .str ⟨#[c]⟩ := by
  cases d <;> first | (cases h; done) | skip
  rename_i s
  change (if s.cps.size = 1 then s.cps[0]? else none) = some c at h
  by_cases h1 : s.cps.size = 1
  · rw [if_pos h1] at h
    cases s with
    | mk cps =>
      have h1 : cps.size = 1 := h1
      have h : cps[0]? = some c := h
      have e : cps = #[c] := by
        apply Array.ext
        · rw [h1]; rfl
        · intro i i1 i2
          have : i = 0 := by omega
          subst this
          rw [Array.getElem?_eq_getElem i1] at h
          exact Option.some.inj h
      rw [e]
  · rw [if_neg h1] at h
    cases h
theorem rd_in {K : PySem.W.Frag} {neg : Bool} : RD K (rInAll K neg) (inG neg) := by
  intro W F H σ δ x y c d Q Z S rc rd g hZ
  obtain ⟨b, hb, q⟩ := g
  cases d <;> first | (cases hb; done) | skip
  · rename_i z
    change (signOf c).map (fun c => decide (c ∈ z.cps.toList)) = some b at hb
    cases hs : signOf c with
    | none =>
      rw [hs] at hb
      cases hb
    | some n =>
      rw [hs] at hb
      cases hb
      have rc' := rpStr (sign_of hs ▸ rc)
      exact .inr (.inl ⟨n, z, rc', rpStr rd, hZ _ _ (mkP S rp_bl q)⟩)
  · rename_i ds
    change (if (flatD c && ds.all flatD) = true then some (inD c ds) else none) = some b at hb
    by_cases h1 : (flatD c && ds.all flatD) = true
    · rw [if_pos h1] at hb
      cases hb
      rw [Bool.and_eq_true] at h1
      obtain ⟨p, xs, rfl, h2, h3⟩ := rpLst rd
      obtain ⟨e1, e2⟩ := rpFlat rc h1.1
      obtain ⟨e3, e4⟩ := rpL_flat h3 h1.2
      refine .inl ⟨p, xs, rfl, .inl (SqL.of (S.fh _ _ h2)), e2, e4, hZ _ _ (mkP (d := .bl _) S rp_bl ?_)⟩
      rw [e1, e3]
      exact q
    · rw [if_neg h1] at hb
      cases hb
  · rename_i ds
    change (if (flatD c && ds.all flatD) = true then some (inD c ds) else none) = some b at hb
    by_cases h1 : (flatD c && ds.all flatD) = true
    · rw [if_pos h1] at hb
      cases hb
      rw [Bool.and_eq_true] at h1
      obtain ⟨p, xs, rfl, h2, h3⟩ := rpTup rd
      obtain ⟨e1, e2⟩ := rpFlat rc h1.1
      obtain ⟨e3, e4⟩ := rpL_flat h3 h1.2
      refine .inl ⟨p, xs, rfl, .inr (sqT_mono S.fh h2), e2, e4, hZ _ _ (mkP (d := .bl _) S rp_bl ?_)⟩
      rw [e1, e3]
      exact q
    · rw [if_neg h1] at hb
      cases hb
  · rename_i Sx n
    cases c <;> first | (cases hb; done) | skip
    cases hb
    unfold Rp at rd
    obtain ⟨a, rfl, h1⟩ := rd
    exact .inr (.inr ⟨_, a, _, _, rpInt rc, rfl, S.fh _ _ h1, hZ _ _ (mkP S rp_bl q)⟩)
theorem op_inAll {X : Cx} : OpR X (compareOp .In) (rInAll X.K false) := by
  intro pins s σ H x y v u Q I rx ry h
  rcases h with h | h | h
  · exact op_in_seq pins s σ H x y v u Q I rx ry h
  · exact op_in_sign pins s σ H x y v u Q I rx ry h
  · obtain ⟨i, a, S, n, rfl, rfl, h1, q⟩ := h
    obtain ⟨t, rfl⟩ := rx
    cases ry
    exact wpAny_inSet_of (intKind_is _ _ _ _) rfl (show s.heap.SetOf (intKind X.prog X.w) a S n from I.hok a _ h1) ⟨.bl (S i), H, I.tok _, rfl, q⟩
theorem op_notInAll {X : Cx} : OpR X (compareOp .NotIn) (rInAll X.K true) := by
  intro pins s σ H x y v u Q I rx ry h
  rcases h with h | h | h
  · exact op_notIn_seq pins s σ H x y v u Q I rx ry h
  · exact op_notIn_sign pins s σ H x y v u Q I rx ry h
  · obtain ⟨i, a, S, n, rfl, rfl, h1, q⟩ := h
    obtain ⟨t, rfl⟩ := rx
    cases ry
    exact wpAny_notInSet_of (intKind_is _ _ _ _) rfl (show s.heap.SetOf (intKind X.prog X.w) a S n from I.hok a _ h1) ⟨.bl (!S i), H, I.tok _, rfl, q⟩
end DD

set_option Elab.async false
set_option linter.all false
set_option maxRecDepth 100000
set_option maxHeartbeats 4000000
/-! DD7: built-in functions, subscripts, slices, methods of texts and lists, over data. -/
namespace DD
open PySem PySem.Spec PyProof.Rows L2

/-! ### calls of built-ins -/
def RC (K : PySem.W.Frag) (r : List V → Hp → VK → Prop) (g : List D → (B → Prop) → Prop) : Prop :=
  ∀ (W : Fix) (F H : Hp) (σ : L2.St) (δ : Env') (xs : List V) (ds : List D) (Q : B → Prop) (Z : VK), SD K W F H σ δ → RpL K F ds xs → g ds Q →
    (∀ v H', DQ K W F σ (fun b δ' => δ' = δ ∧ Q b) v H' → Z v H') → r xs H Z
def dCB (g : List D → (B → Prop) → Prop) (t : TDA) : TD := fun δ Q => t δ fun ds δ1 => g ds fun b => Q b δ1
section
variable {X : Cx} {W : Fix} {x : Str} {p pos : Pos} {e : Expr} {es : List Expr} {t : TDA} {id T : String} {r : List V → Hp → VK → Prop} {g : List D → (B → Prop) → Prop}
theorem de_callB (hc : CallR X (.builtin id) r) (hr : RC X.K r g) (hg : Gl X x) (hm : X.mg x = none) (hv : bootBuiltins x = some (.builtin id)) (h : DA X W (e :: es) t) (hn : x ≠ "__name__" := by decide) (hdb : (x == ("__debug__" : Str)) = false := by decide)
    (he : starEach (e :: es) X.env = (false, eval e X.env) :: starEach es X.env := by rfl) (hpl : (backTo pos (starEach es X.env)).any (·.1) = false := by rfl) : DE X W (.Call (.Name x p) (e :: es) [] pos) (dCB g t) :=
  .of (pe_callB (X := X) hc hg hm hv cA_pa hn hdb he hpl) fun F H σ δ Q S q => by
    refine (h.run F H σ δ _ S q).imp fun vs H1 h1 => ?_
    obtain ⟨F1, ds, δ1, e1, S1, r1, q1⟩ := h1
    exact hr W F1 H1 σ δ1 vs ds _ _ S1 r1 q1 fun v H' h => h.fix e1
theorem de_callTy (hc : CallR X (.type T) r) (hr : RC X.K r g) (hg : Gl X x) (hm : X.mg x = none) (hv : bootBuiltins x = some (.type T)) (h : DA X W (e :: es) t) (hn : x ≠ "__name__" := by decide) (hdb : (x == ("__debug__" : Str)) = false := by decide)
    (he : starEach (e :: es) X.env = (false, eval e X.env) :: starEach es X.env := by rfl) (hpl : (backTo pos (starEach es X.env)).any (·.1) = false := by rfl) : DE X W (.Call (.Name x p) (e :: es) [] pos) (dCB g t) :=
  .of (pe_callTy (X := X) hc hg hm hv cA_pa hn hdb he hpl) fun F H σ δ Q S q => by
    refine (h.run F H σ δ _ S q).imp fun vs H1 h1 => ?_
    obtain ⟨F1, ds, δ1, e1, S1, r1, q1⟩ := h1
    exact hr W F1 H1 σ δ1 vs ds _ _ S1 r1 q1 fun v H' h => h.fix e1
end

/-! ### len -/
def lenD : D → Option Nat
  | .lst ds => some ds.length
  | .tup ds => some ds.length
  | .str s => if s.length ≤ sizeLine then some s.length else none
  | .scr ns => some ns.length
  | _ => none
def rLenAll (K : PySem.W.Frag) : List V → Hp → VK → Prop := fun xs H Q => (∃ p ys, xs = [.ref p] ∧ (SqL K H p ys ∨ SqT K H p ys) ∧ Q (.int ys.length) H) ∨ ∃ z, xs = [.str z] ∧ z.length ≤ sizeLine ∧ Q (.int z.length) H
theorem cr_lenAll {X : Cx} : CallR X (.builtin "len") (rLenAll X.K) := by
  intro pins s σ H xs us Q I r h
  rcases h with h | h
  · exact call_len_seq pins s σ H xs us Q I r h
  · exact call_len_str pins s σ H xs us Q I r h
def lenG : List D → (B → Prop) → Prop := fun ds Q => ∃ d n, ds = [d] ∧ lenD d = some n ∧ Q (.p (.int (n : Nat)))
theorem rc_len {K : PySem.W.Frag} : RC K (rLenAll K) lenG := by
  intro W F H σ δ xs ds Q Z S r g hZ
  obtain ⟨d, n, rfl, hn, q⟩ := g
  obtain ⟨v, rfl, rv⟩ := rpL1 r
  cases d <;> first | (cases hn; done) | skip
  · rename_i s
    change (if s.length ≤ sizeLine then some s.length else none) = some n at hn
    by_cases hz : s.length ≤ sizeLine
    · rw [if_pos hz] at hn
      cases hn
      exact .inr ⟨s, by rw [rpStr rv], hz, hZ _ _ (mkP S rp_int q)⟩
    · rw [if_neg hz] at hn
      cases hn
  · cases hn
    obtain ⟨a, ys, rfl, h1, h2⟩ := rpLst rv
    refine .inl ⟨a, ys, rfl, .inl (SqL.of (S.fh _ _ h1)), hZ _ _ (mkP (d := .int _) S rp_int ?_)⟩
    rw [h2.length]
    exact q
  · cases hn
    obtain ⟨a, ys, rfl, h1, h2⟩ := rpTup rv
    refine .inl ⟨a, ys, rfl, .inr (sqT_mono S.fh h1), hZ _ _ (mkP (d := .int _) S rp_int ?_)⟩
    rw [h2.length]
    exact q
  · cases hn
    unfold Rp at rv
    obtain ⟨a, rfl, h1⟩ := rv
    refine .inl ⟨a, _, rfl, .inl (S.fh.seq h1.seq), hZ _ _ (mkP (d := .int _) S rp_int ?_)⟩
    rw [List.length_map]
    exact q

/-! ### isinstance(x, T), T one class -/
def tyD : D → Option String
  | .non => some "NoneType"
  | .bl _ => some "bool"
  | .int _ => some "int"
  | .str _ => some "str"
  | .lst _ => some "list"
  | .tup _ => some "tuple"
  | .dct _ _ => some "dict"
  | .iset _ _ => some "set"
  | _ => none
def clsD : D → Option Value
  | .ty n => some (.type n)
  | .ref a => some (.ref a)
  | _ => none
def isiG (K : PySem.W.Frag) : List D → (B → Prop) → Prop := fun ds Q => ∃ x c t u b, ds = [x, c] ∧ tyD x = some t ∧ clsD c = some u ∧ PySem.W.kitOne K (.type t) u = some b ∧ Q (.p (.bl b))
theorem rp_tyX {K : PySem.W.Frag} {F H : Hp} (e : Same F H) {d : D} {v : V} {t : String} (r : Rp K F d v) (h : tyD d = some t) : TyX K H v (.type t) := by
  cases d <;> first | (cases h; done) | skip
  · cases h
    rw [rpNon r]
    exact .base .non
  · cases h
    rw [rpBl r]
    exact .base (.bl _)
  · cases h
    rw [rpInt r]
    exact .base (.int _)
  · cases h
    rw [rpStr r]
    exact .base (.str _)
  · cases h
    obtain ⟨a, xs, rfl, h1, _⟩ := rpLst r
    exact .base (.lst (e _ _ h1))
  · cases h
    obtain ⟨a, xs, rfl, h1, _⟩ := rpTup r
    rcases sqT_mono e h1 with (h2 | ⟨o, h2⟩) | ⟨o, its, n, h2, h3, _⟩
    · exact .base (.tup h2)
    · exact .fTuple h2
    · exact .kTuple h2 h3
  · cases h
    unfold Rp at r
    obtain ⟨a, xs, rfl, h1, _⟩ := r
    exact .base (.dK (e _ _ h1))
  · cases h
    unfold Rp at r
    obtain ⟨a, rfl, h1⟩ := r
    exact .set (e _ _ h1)
theorem rc_isi {K : PySem.W.Frag} : RC K (rIsi K) (isiG K) := by
  intro W F H σ δ xs ds Q Z S r g hZ
  obtain ⟨x, c, t, u, b, rfl, h1, h2, h3, q⟩ := g
  obtain ⟨v, w, rfl, rv, rw'⟩ := rpL2 r
  have hc : ClsV w u := by
    cases c <;> first | (cases h2; done) | skip
    · cases h2
      rw [rpTy rw']
      exact .ty _
    · cases h2
      unfold Rp at rw'
      rw [rw']
      exact .own _
  exact ⟨v, w, _, u, b, rfl, hc, rp_tyX S.fh rv h1, h3, hZ _ _ (mkP S rp_bl q)⟩

/-! ### int(x), max(a, b), str(text), list(x), tuple(x) -/
def intOf : D → Option Int
  | .int i => some i
  | .bl k => some (if k then 1 else 0)
  | _ => none
def intCG : List D → (B → Prop) → Prop := fun ds Q => ∃ d i, ds = [d] ∧ intOf d = some i ∧ Q (.p (.int i))
theorem rc_int {K : PySem.W.Frag} : RC K (fun xs H Q => (∃ i, xs = [.int i] ∧ Q (.int i) H) ∨ ∃ k, xs = [.bl k] ∧ Q (.int (if k then 1 else 0)) H) intCG := by
  intro W F H σ δ xs ds Q Z S r g hZ
  obtain ⟨d, i, rfl, h1, q⟩ := g
  obtain ⟨v, rfl, rv⟩ := rpL1 r
  cases d <;> first | (cases h1; done) | skip
  · cases h1
    exact .inr ⟨_, by rw [rpBl rv], hZ _ _ (mkP S rp_int q)⟩
  · cases h1
    exact .inl ⟨_, by rw [rpInt rv], hZ _ _ (mkP S rp_int q)⟩
def maxG : List D → (B → Prop) → Prop := fun ds Q => ∃ i j : Int, ds = [.int i, .int j] ∧ Q (.p (.int (if j > i then j else i)))
theorem rc_max {K : PySem.W.Frag} : RC K (fun xs H Q => ∃ i j, xs = [.int i, .int j] ∧ Q (.int (if j > i then j else i)) H) maxG := by
  intro W F H σ δ xs ds Q Z S r g hZ
  obtain ⟨i, j, rfl, q⟩ := g
  obtain ⟨v, w, rfl, rv, rw'⟩ := rpL2 r
  exact ⟨i, j, by rw [rpInt rv, rpInt rw'], hZ _ _ (mkP S rp_int q)⟩
def strG : List D → (B → Prop) → Prop := fun ds Q => ∃ s : Str, ds = [.str s] ∧ Q (.p (.str s))
theorem rc_str {K : PySem.W.Frag} : RC K (fun xs H Q => ∃ a, xs = [.str a] ∧ Q (.str a) H) strG := by
  intro W F H σ δ xs ds Q Z S r g hZ
  obtain ⟨s, rfl, q⟩ := g
  obtain ⟨v, rfl, rv⟩ := rpL1 r
  exact ⟨s, by rw [rpStr rv], hZ _ _ (mkP S rp_str q)⟩
def seqD : D → Option (List D)
  | .lst ds => some ds
  | .tup ds => some ds
  | _ => none
theorem rp_seq {K : PySem.W.Frag} {F H : Hp} (e : Same F H) {d : D} {ds : List D} {v : V} (r : Rp K F d v) (h : seqD d = some ds) : ∃ a xs, v = .ref a ∧ (SqL K H a xs ∨ SqT K H a xs) ∧ RpL K F ds xs := by
  cases d <;> first | (cases h; done) | skip
  · cases h
    obtain ⟨a, xs, rfl, h1, h2⟩ := rpLst r
    exact ⟨a, xs, rfl, .inl (SqL.of (e _ _ h1)), h2⟩
  · cases h
    obtain ⟨a, xs, rfl, h1, h2⟩ := rpTup r
    exact ⟨a, xs, rfl, .inr (sqT_mono e h1), h2⟩
def listG : List D → (B → Prop) → Prop := fun ds Q => ∃ d es, ds = [d] ∧ seqD d = some es ∧ Q (.o (.lst es))
theorem rc_list {K : PySem.W.Frag} : RC K (fun xs H Q => ∃ p ys, xs = [.ref p] ∧ (SqL K H p ys ∨ SqT K H p ys) ∧ ∀ l, H l = none → Q (.ref l) (upd H l (.lst ys))) listG := by
  intro W F H σ δ xs ds Q Z S r g hZ
  obtain ⟨d, es, rfl, h1, q⟩ := g
  obtain ⟨v, rfl, rv⟩ := rpL1 r
  obtain ⟨a, ys, rfl, h2, h3⟩ := rp_seq S.fh rv h1
  exact ⟨a, ys, rfl, h2, fun l hl => hZ _ _ (DQ.mkO (Q := fun b δ' => δ' = δ ∧ Q b) (d := .lst es) S hl ⟨ys, upd_same, h3⟩ ⟨rfl, q⟩)⟩
def tupleG : List D → (B → Prop) → Prop := fun ds Q => ∃ d es, ds = [d] ∧ seqD d = some es ∧ Q (.p (.tup es))
theorem rc_tuple {K : PySem.W.Frag} : RC K (fun xs H Q => ∃ p ys, xs = [.ref p] ∧ ((SqL K H p ys ∧ ∀ l, H l = none → Q (.ref l) (upd H l (.tup ys))) ∨ (SqT K H p ys ∧ Q (.ref p) H))) tupleG := by
  intro W F H σ δ xs ds Q Z S r g hZ
  obtain ⟨d, es, rfl, h1, q⟩ := g
  obtain ⟨v, rfl, rv⟩ := rpL1 r
  cases d <;> first | (cases h1; done) | skip
  · cases h1
    obtain ⟨a, ys, rfl, h2, h3⟩ := rpLst rv
    exact ⟨a, ys, rfl, .inl ⟨SqL.of (S.fh _ _ h2), fun l hl => hZ _ _ (DQ.mkN (Q := fun b δ' => δ' = δ ∧ Q b) S hl (rp_tupN h3 (S.freshF hl)) ⟨rfl, q⟩)⟩⟩
  · cases h1
    obtain ⟨a, ys, rfl, h2, h3⟩ := rpTup rv
    exact ⟨a, ys, rfl, .inr ⟨sqT_mono S.fh h2, hZ _ _ (mkP S rv q)⟩⟩

/-! ### set(xs), xs a list of ints -/
def metIn (ns : List Int) (k : Int) : Bool := ns.any (· == k)
def rSetL (K : PySem.W.Frag) : List V → Hp → VK → Prop := fun xs H Q => ∃ a, ∃ ns : List Int, xs = [.ref a] ∧ SqL K H a (ns.map V.int) ∧ ns.length < 4000 ∧ ∀ p n, H p = none → Q (.ref p) (upd H p (.set (metIn ns) n))
theorem cr_setL {X : Cx} (hc : X.calm = true) : CallR X (.type "set") (rSetL X.K) := by
  intro pins s σ H xs us Q I r h
  obtain ⟨a, ns, rfl, hs, hl, q⟩ := h
  obtain rfl := Vals.ref1 r
  obtain ⟨its, rv, pl, hz⟩ := I.list hs
  have hi := intsAre_of rv
  have hlen : its.length = ns.length := by
    have := rv.length
    rw [List.length_map] at this
    exact this.symm
  refine PySem.call_set_list (items := its.toArray) (ns := ns) (I.ok.hd hc) pl.isList (by simpa using hi) (by simp only [List.size_toArray, hlen]; unfold scanBound; omega) fun h' tk hS hk => ?_
  have hp : H s.heap.objs.size = none := I.hok.fresh (Nat.le_refl _)
  have e : ∀ k, (firstMet (fun i => ns.getD i 0) its.toArray.size).any (· == k) = metIn ns k := fun k => by
    rw [firstMet_any]
    unfold metIn
    congr 1
    rw [List.size_toArray, hlen]
    apply List.ext_getElem
    · simp
    · intro i h1 h2
      simp [h2]
  refine ⟨.ref s.heap.objs.size, upd H s.heap.objs.size (.set (metIn ns) (firstMet (fun i => ns.getD i 0) its.toArray.size).length), I.laid (t' := tk) (fun b o eo => hk b o (Heap.lt_size eo) eo) (Nat.le_refl _) ?_, rfl, q _ _ hp⟩
  exact SetOf_congr hS (fun k => e k) rfl
def setG : List D → (B → Prop) → Prop := fun ds Q => ∃ ns : List Int, ds = [.lst (ns.map D.int)] ∧ ns.length < 4000 ∧ ∀ n, Q (.p (.iset (metIn ns) n))
theorem rc_setL {K : PySem.W.Frag} : RC K (rSetL K) setG := by
  intro W F H σ δ xs ds Q Z S r g hZ
  obtain ⟨ns, rfl, hl, q⟩ := g
  obtain ⟨v, rfl, rv⟩ := rpL1 r
  obtain ⟨a, ys, rfl, h2, h3⟩ := rpLst rv
  rw [RpL.int h3] at h2
  refine ⟨a, ns, rfl, SqL.of (S.fh _ _ h2), hl, fun p n hp => hZ _ _ (DQ.mkN (Q := fun b δ' => δ' = δ ∧ Q b) (d := .iset (metIn ns) n) S hp ?_ ⟨rfl, q n⟩)⟩
  unfold Rp
  exact ⟨p, rfl, upd_same⟩

/-! ### sorted(xs, reverse=b), xs a list of ints -/
structure DK (X : Cx) (W : Fix) (kws : List Keyword) (t : TDA) : Prop where
  run : ∀ (F H : Hp) (σ : L2.St) (δ : Env') (Q : List D → Env' → Prop), SD X.K W F H σ δ → t δ Q → ∀ (pos : Pos) (pins : List (Addr × Obj)) (s : Shared), Inv X pins σ H s →
    wpAny (model X.prog X.w) X.A (evalAll ((backToKw pos (keywordEach kws X.env)).map (·.2))) (AP X pins σ (AQ X.K W F σ Q)) X.xe s
def cK (X : Cx) (kws : List Keyword) : TA := fun σ H Q => ∀ (pos : Pos) (pins : List (Addr × Obj)) (s : Shared), Inv X pins σ H s → wpAny (model X.prog X.w) X.A (evalAll ((backToKw pos (keywordEach kws X.env)).map (·.2))) (AP X pins σ Q) X.xe s
theorem cK_pk {X : Cx} {kws : List Keyword} : PK X kws (cK X kws) := ⟨fun pos pins s _ _ _ I h => h pos pins s I⟩
theorem cK.imp {X : Cx} {kws : List Keyword} {σ : L2.St} {H : Hp} {Q Q' : List V → Hp → Prop} (h : cK X kws σ H Q) (i : ∀ v H', Q v H' → Q' v H') : cK X kws σ H Q' := fun pos pins s I => thn (h pos pins s I) fun u s' q => by
  obtain ⟨v, H', I', r, q⟩ := q
  exact ⟨v, H', I', r, i v H' q⟩
section
variable {X : Cx} {W : Fix} {x : Str} {p pos kpos : Pos} {e : Expr} {es : List Expr} {kws : List Keyword} {te : TD} {t tk : TDA} {id : String} {nm : Option Str} {ks : List Str}
theorem dk_nil : DK X W [] dNil := ⟨fun F H σ δ Q S q pos pins s I => (pk_nil (X := X)).run pos pins s σ H _ I ⟨F, [], δ, Same.refl F, S, .nil, q⟩⟩
theorem dk_cons (h : DE X W e te) (g : DK X W kws t) : DK X W (⟨nm, e, kpos⟩ :: kws) (dCons te t) := by
  refine ⟨fun F H σ δ Q S q pos pins s I => (pk_cons (X := X) cE_pe cK_pk).run pos pins s σ H _ I ?_⟩
  refine (h.plain S q).imp fun x H1 h1 => ?_
  obtain ⟨F1, d, δ1, e1, S1, r1, q1⟩ := h1
  intro pos pins s I
  refine thn (g.run F1 H1 σ δ1 _ S1 q1 pos pins s I) fun us s2 h2 => ?_
  obtain ⟨xs, H2, I2, rv, F2, ds, δ2, e2, S2, r2, q2⟩ := h2
  exact ⟨xs, H2, I2, rv, F2, d :: ds, δ2, e1.trans e2, S2, .cons (Rp.mono e2 d x r1) r2, q2⟩
def RCK (K : PySem.W.Frag) (r : List V → List V → Hp → VK → Prop) (g : List D → List D → (B → Prop) → Prop) : Prop :=
  ∀ (W : Fix) (F H : Hp) (σ : L2.St) (δ : Env') (xs ys : List V) (ds fs : List D) (Q : B → Prop) (Z : VK), SD K W F H σ δ → RpL K F ds xs → RpL K F fs ys → g ds fs Q →
    (∀ v H', DQ K W F σ (fun b δ' => δ' = δ ∧ Q b) v H' → Z v H') → r xs ys H Z
def dCBK (g : List D → List D → (B → Prop) → Prop) (t tk : TDA) : TD := fun δ Q => t δ fun ds δ1 => tk δ1 fun fs δ2 => g ds fs fun b => Q b δ2
theorem de_callBK {r : List V → List V → Hp → VK → Prop} {g : List D → List D → (B → Prop) → Prop} (hc : CallRK X (.builtin id) ks r) (hr : RCK X.K r g) (hg : Gl X x) (hm : X.mg x = none) (hv : bootBuiltins x = some (.builtin id)) (h : DA X W (e :: es) t) (hk : DK X W kws tk) (hn : x ≠ "__name__" := by decide) (hdb : (x == ("__debug__" : Str)) = false := by decide)
    (he : backTo pos (starEach (e :: es) X.env) = (false, eval e X.env) :: backTo pos (starEach es X.env) := by rfl) (hpl : (backTo pos (starEach (e :: es) X.env)).any (·.1) = false := by rfl)
    (hall : (backToKw pos (keywordEach kws X.env)).all (·.1.isSome) = true := by rfl) (hnone : (backToKw pos (keywordEach kws X.env)).any (·.1.isNone) = false := by rfl) (hks : (backToKw pos (keywordEach kws X.env)).filterMap (·.1) = ks := by rfl) :
    DE X W (.Call (.Name x p) (e :: es) kws pos) (dCBK g t tk) :=
  .of (pe_callBK (X := X) hc hg hm hv cA_pa cK_pk hn hdb he hpl hall hnone hks) fun F H σ δ Q S q => by
    refine (h.run F H σ δ _ S q).imp fun vs H1 h1 => ?_
    obtain ⟨F1, ds, δ1, e1, S1, r1, q1⟩ := h1
    intro pos pins s I
    refine thn (hk.run F1 H1 σ δ1 _ S1 q1 pos pins s I) fun us s2 h2 => ?_
    obtain ⟨ys, H2, I2, rv, F2, fs, δ2, e2, S2, r2, q2⟩ := h2
    exact ⟨ys, H2, I2, rv, hr W F2 H2 σ δ2 vs ys ds fs _ _ S2 (RpL.mono e2 _ _ r1) r2 q2 fun v H' h => h.fix (e1.trans e2)⟩
end
def sortedRevG (b : Bool) : List D → List D → (B → Prop) → Prop := fun ds fs Q => ∃ ns : List Int, ds = [.lst (ns.map D.int)] ∧ fs = [.bl b] ∧ ∀ ns' : List Int, ns'.Perm ns → OrdB b ns' → Q (.o (.lst (ns'.map D.int)))
theorem rc_sortedRev {K : PySem.W.Frag} {b : Bool} : RCK K (rSortedKw K b [.bl b]) (sortedRevG b) := by
  intro W F H σ δ xs ys ds fs Q Z S r1 r2 g hZ
  obtain ⟨ns, rfl, rfl, q⟩ := g
  obtain ⟨v, rfl, rv⟩ := rpL1 r1
  obtain ⟨w, rfl, rw'⟩ := rpL1 r2
  obtain ⟨a, zs, rfl, h2, h3⟩ := rpLst rv
  rw [RpL.int h3] at h2
  exact ⟨a, ns, rfl, by rw [rpBl rw'], SqL.of (S.fh _ _ h2), fun ns' l h4 h5 hl => hZ _ _ (DQ.mkO (Q := fun b δ' => δ' = δ ∧ Q b) (d := .lst (ns'.map D.int)) S hl ⟨_, upd_same, RpL.ofInt ns'⟩ ⟨rfl, q ns' h4 h5⟩)⟩

/-! ### x[i], x[lo:hi] -/
def itemD : D → D → Option D
  | .lst ds, .int i => atI ds i
  | .tup ds, .int i => atI ds i
  | .str z, .int i => if z.length ≤ sizeLine then (atI z.cps.toList i).map fun c => .str ⟨#[c]⟩ else none
  | .scr ns, .int i => (atI ns i).map D.int
  | _, _ => none
def ixG : D → D → (B → Prop) → Prop := fun x y Q => ∃ d, itemD x y = some d ∧ Q (.p d)
theorem rpL_atI {K : PySem.W.Frag} {F : Hp} {ds : List D} {xs : List V} {i : Int} {d : D} (h : RpL K F ds xs) (e : atI ds i = some d) : ∃ x, atI xs i = some x ∧ Rp K F d x := by
  unfold atI at e ⊢
  rw [h.length]
  cases q : ixN ds.length i with
  | none =>
    rw [q] at e
    cases e
  | some j =>
    rw [q] at e
    exact h.get e
theorem rd_ix {K : PySem.W.Frag} : RD K (rIx K) ixG := by
  intro W F H σ δ x y c d Q Z S rc rd g hZ
  obtain ⟨r, hr, q⟩ := g
  cases c <;> first | (cases d <;> (cases hr; done)) | skip
  · cases d <;> first | (cases hr; done) | skip
    rename_i z i
    change (if z.length ≤ sizeLine then (atI z.cps.toList i).map fun c => D.str ⟨#[c]⟩ else none) = some r at hr
    by_cases hz : z.length ≤ sizeLine
    · rw [if_pos hz] at hr
      cases e : atI z.cps.toList i with
      | none =>
        rw [e] at hr
        cases hr
      | some c =>
        rw [e] at hr
        cases hr
        exact .inr (.inr ⟨z, i, c, rpStr rc, rpInt rd, hz, e, hZ _ _ (mkP S rp_str q)⟩)
    · rw [if_neg hz] at hr
      cases hr
  · cases d <;> first | (cases hr; done) | skip
    obtain ⟨a, xs, rfl, h1, h2⟩ := rpLst rc
    obtain ⟨v, h3, h4⟩ := rpL_atI h2 hr
    exact .inl ⟨a, xs, _, v, rfl, rpInt rd, SqL.of (S.fh _ _ h1), h3, hZ _ _ (mkP S h4 q)⟩
  · cases d <;> first | (cases hr; done) | skip
    obtain ⟨a, xs, rfl, h1, h2⟩ := rpTup rc
    obtain ⟨v, h3, h4⟩ := rpL_atI h2 hr
    exact .inr (.inl ⟨a, xs, _, v, rfl, rpInt rd, sqT_mono S.fh h1, h3, hZ _ _ (mkP S h4 q)⟩)
  · cases d <;> first | (cases hr; done) | skip
    rename_i ns j
    unfold Rp at rc
    obtain ⟨a, rfl, h1⟩ := rc
    cases e : atI ns j with
    | none =>
      have hr : (atI ns j).map D.int = some r := hr
      rw [e] at hr
      cases hr
    | some m =>
      have hr : (atI ns j).map D.int = some r := hr
      rw [e] at hr
      cases hr
      have em : atI (ns.map V.int) j = some (.int m) := by
        unfold atI at e ⊢
        rw [List.length_map]
        cases g : ixN ns.length j with
        | none =>
          rw [g] at e
          cases e
        | some l =>
          rw [g] at e
          have e : ns[l]? = some m := e
          show (ns.map V.int)[l]? = _
          rw [List.getElem?_map, e]
          rfl
      exact .inl ⟨a, _, _, _, rfl, rpInt rd, S.fh.seq h1.seq, em, hZ _ _ (mkP S rp_int q)⟩
theorem de_ix {X : Cx} {W : Fix} {a b : Expr} {ta tb : TD} {pos : Pos} (ha : DE X W a ta) (hb : DE X W b tb) (hs : PlainIx b) : DE X W (.Subscript a b pos) (dOp ixG ta tb) :=
  .of (pe_ix (X := X) ix_seq cE_pe cE_pe hs) fun _ _ _ _ _ S q => two ha hb rd_ix S q
structure DO (X : Cx) (W : Fix) (e : Option Expr) (t : Env' → (Option Int → Env' → Prop) → Prop) : Prop where
  run : ∀ (F H : Hp) (σ : L2.St) (δ : Env') (Q : Option Int → Env' → Prop), SD X.K W F H σ δ → t δ Q → ∀ (pins : List (Addr × Obj)) (s : Shared), Inv X pins σ H s →
    wpAny (model X.prog X.w) X.A (evalPart e X.env) (fun u s' => ∃ o H', Inv X pins σ H' s' ∧ IsPart u o ∧ ∃ (F' : Hp) (δ' : Env'), Same F F' ∧ SD X.K W F' H' σ δ' ∧ Q o δ') X.xe s
def cO (X : Cx) (e : Option Expr) : TO := fun σ H Q => ∀ (pins : List (Addr × Obj)) (s : Shared), Inv X pins σ H s →
  wpAny (model X.prog X.w) X.A (evalPart e X.env) (fun u s' => ∃ o H', Inv X pins σ H' s' ∧ IsPart u o ∧ Q o H') X.xe s
theorem cO_po {X : Cx} {e : Option Expr} : PO X e (cO X e) := ⟨fun pins s _ _ _ I h => h pins s I⟩
def dNo : Env' → (Option Int → Env' → Prop) → Prop := fun δ Q => Q none δ
def dPart (t : TD) : Env' → (Option Int → Env' → Prop) → Prop := fun δ Q => dp t δ fun d δ' => ∃ i, d = .int i ∧ Q (some i) δ'
theorem do_none {X : Cx} {W : Fix} : DO X W none dNo := ⟨fun F H σ δ Q S q pins s I => (po_none (X := X)).run pins s σ H _ I ⟨F, δ, Same.refl F, S, q⟩⟩
theorem do_some {X : Cx} {W : Fix} {e : Expr} {t : TD} (h : DE X W e t) : DO X W (some e) (dPart t) := ⟨fun F H σ δ Q S q pins s I => (po_some (X := X) cE_pe).run pins s σ H _ I ((h.plain S q).imp fun v H1 h1 => by
  obtain ⟨F1, d, δ1, e1, S1, r1, i, rfl, q1⟩ := h1
  exact ⟨i, rpInt r1, F1, δ1, e1, S1, q1⟩)⟩
def cutD (ds : List D) (lo hi : Option Int) : List D := (ds.drop (HT.sIx ds.length 0 lo)).take (HT.sIx ds.length ds.length hi - HT.sIx ds.length 0 lo)
theorem RpL.cut {K : PySem.W.Frag} {F : Hp} {ds : List D} {xs : List V} (h : RpL K F ds xs) (lo hi : Option Int) : RpL K F (cutD ds lo hi) (cutV xs lo hi) := by
  unfold cutD cutV
  rw [h.length]
  exact (h.drop _).take _
def slG : D → Option Int → Option Int → (B → Prop) → Prop
  | .lst ds, lo, hi, Q => Q (.o (.lst (cutD ds lo hi)))
  | .tup ds, lo, hi, Q => ¬ (HT.sIx ds.length 0 lo = 0 ∧ HT.sIx ds.length ds.length hi = ds.length) ∧ Q (.p (.tup (cutD ds lo hi)))
  | .str z, lo, hi, Q => z.length ≤ sizeLine ∧ Q (.p (.str (cutS z lo hi)))
  | _, _, _, _ => False
def rSlAll (K : PySem.W.Frag) : V → Option Int → Option Int → Hp → VK → Prop := fun x lo hi H Q => rSlL K x lo hi H Q ∨ rSlT K x lo hi H Q ∨ rSlS x lo hi H Q
theorem sl_all {X : Cx} : SlR X (rSlAll X.K) := SlR.or sl_list (SlR.or sl_tup sl_str)
def dSl (te : TD) (tl th : Env' → (Option Int → Env' → Prop) → Prop) : TD := fun δ Q => dp te δ fun d δ1 => tl δ1 fun lo δ2 => th δ2 fun hi δ3 => slG d lo hi fun b => Q b δ3
theorem de_slice {X : Cx} {W : Fix} {e : Expr} {lo hi : Option Expr} {te : TD} {tl th : Env' → (Option Int → Env' → Prop) → Prop} {p2 pos : Pos} (h : DE X W e te) (hl : DO X W lo tl) (hu : DO X W hi th) : DE X W (.Subscript e (.Slice lo hi none p2) pos) (dSl te tl th) :=
  .of (pe_slice (X := X) sl_all cE_pe cO_po cO_po) fun F H σ δ Q S q => by
    refine (h.plain S q).imp fun v H1 h1 => ?_
    obtain ⟨F1, d, δ1, e1, S1, r1, q1⟩ := h1
    intro pins s I
    refine thn (hl.run F1 H1 σ δ1 _ S1 q1 pins s I) fun u s2 h2 => ?_
    obtain ⟨lo', H2, I2, p2, F2, δ2, e2, S2, q2⟩ := h2
    refine ⟨lo', H2, I2, p2, fun pins s I => ?_⟩
    refine thn (hu.run F2 H2 σ δ2 _ S2 q2 pins s I) fun u s3 h3 => ?_
    obtain ⟨hi', H3, I3, p3, F3, δ3, e3, S3, q3⟩ := h3
    refine ⟨hi', H3, I3, p3, ?_⟩
    have r3 : Rp X.K F3 d v := Rp.mono (e2.trans e3) d v r1
    have eF := (e1.trans e2).trans e3
    cases d <;> first | exact q3.elim | skip
    · exact .inr (.inr ⟨_, rpStr r3, q3.1, (mkP (Q := fun b => Q b δ3) S3 rp_str q3.2).fix eF⟩)
    · obtain ⟨a, xs, rfl, h1, h2⟩ := rpLst r3
      refine .inl ⟨a, xs, rfl, SqL.of (S3.fh _ _ h1), fun p hp => ?_⟩
      exact (DQ.mkO (Q := Q) (d := .lst _) S3 hp ⟨_, upd_same, h2.cut lo' hi'⟩ q3).back eF
    · obtain ⟨a, xs, rfl, h1, h2⟩ := rpTup r3
      obtain ⟨q4, q5⟩ := q3
      refine .inr (.inl ⟨a, xs, rfl, sqT_mono S3.fh h1, by rw [h2.length]; exact q4, fun p hp => ?_⟩)
      exact (DQ.mkN (Q := Q) S3 hp (rp_tupN (h2.cut lo' hi') (S3.freshF hp)) q5).back eF

/-! ### methods of texts: s.join(xs), s.find(t) -/
def dM1 (g : Str → D → (B → Prop) → Prop) (to te : TD) : TD := fun δ Q => dp to δ fun x δ1 => ∃ a, x = .str a ∧ dp te δ1 fun y δ2 => g a y fun z => Q z δ2
def joinG : Str → D → (B → Prop) → Prop := fun a y Q => ∃ ys : List Str, seqD y = some (ys.map D.str) ∧ (ys.map (·.length)).sum + ys.length * a.length ≤ 16777216 ∧ Q (.p (.str (Txt.join a ys)))
def findG : Str → D → (B → Prop) → Prop := fun a y Q => ∃ b : Str, y = .str b ∧ Q (.p (.int (Txt.find a b)))
section
variable {X : Cx} {W : Fix} {o e : Expr} {to te : TD} {apos pos : Pos}
theorem de_join (ho : DE X W o to) (h : DE X W e te) (hs : starEach [e] X.env = [(false, eval e X.env)] := by rfl) (hbase : attributeBase o "join" X.env (eval o X.env) = eval o X.env := by rfl) (hline : (apos.endLine == pos.line) = true := by rfl) :
    DE X W (.Call (.Attribute o "join" apos) [e] [] pos) (dM1 joinG to te) :=
  .of (pe_join (X := X) cE_pe cE_pe hs hbase hline) fun F H σ δ Q S q => by
    refine (ho.plain S q).imp fun v H1 h1 => ?_
    obtain ⟨F1, d, δ1, e1, S1, r1, a, rfl, q1⟩ := h1
    refine ⟨⟨a, rpStr r1⟩, (h.plain S1 q1).imp fun u H2 h2 => ?_⟩
    obtain ⟨F2, y, δ2, e2, S2, r2, ys, hy, hz, q2⟩ := h2
    obtain ⟨p, xs, rfl, h3, h4⟩ := rp_seq S2.fh r2 hy
    rw [RpL.str h4] at h3
    exact ⟨a, p, ys, rpStr r1, rfl, h3, hz, (mkP (Q := fun b => Q b δ2) S2 rp_str q2).fix (e1.trans e2)⟩
theorem de_find (ho : DE X W o to) (h : DE X W e te) (hs : starEach [e] X.env = [(false, eval e X.env)] := by rfl) (hbase : attributeBase o "find" X.env (eval o X.env) = eval o X.env := by rfl) (hline : (apos.endLine == pos.line) = true := by rfl) :
    DE X W (.Call (.Attribute o "find" apos) [e] [] pos) (dM1 findG to te) :=
  .of (pe_m1 (X := X) F.slot_str_find F.type_str_find mt_find cE_pe cE_pe hs hbase hline) fun F H σ δ Q S q => by
    refine (ho.plain S q).imp fun v H1 h1 => ?_
    obtain ⟨F1, d, δ1, e1, S1, r1, a, rfl, q1⟩ := h1
    refine ⟨⟨a, rpStr r1⟩, (h.plain S1 q1).imp fun u H2 h2 => ?_⟩
    obtain ⟨F2, y, δ2, e2, S2, r2, b, rfl, q2⟩ := h2
    exact ⟨a, b, rpStr r1, by rw [rpStr r2], (mkP (Q := fun b => Q b δ2) S2 rp_int q2).fix (e1.trans e2)⟩
end

/-! ### xs.append(e), xs.clear(), xs an own list in slot i -/
section
variable {X : Cx} {W : Fix} {e : Expr} {te : TD} {apos pos p spos : Pos} {i : Nat} {x : Str}
theorem ownL {K : PySem.W.Frag} {F H : Hp} {d : D} {a : Addr} (h : Own K F H d a) : (∃ ds xs, d = .lst ds ∧ H a = some (.lst xs) ∧ RpL K F ds xs) ∨ ∀ ds, d ≠ .lst ds := by
  cases d <;> first | (right; intro ds z; cases z; done) | skip
  obtain ⟨xs, h1, h2⟩ := h
  exact .inl ⟨_, xs, rfl, h1, h2⟩
/-- an own list turns -/
theorem SD.own_turn {K : PySem.W.Frag} {F H : Hp} {σ : L2.St} {δ : Env'} {d d' : D} {a : Addr} {o : HO} (S : SD K W F H σ δ) (hi : δ[i]? = some (some (.o d))) (ha : σ[i]? = some (some (.ref a))) (ho : Own K F (upd H a o) d' a) :
    SD K W F (upd H a o) σ (δ.set i (some (.o d'))) := by
  obtain ⟨v, e1, a', rfl, hF, h0, hO⟩ := S.get i _ hi
  rw [ha] at e1
  cases e1
  have S1 := (SD.drop (i := i) S).turn (o := o) h0 hF fun j c h1 h2 h3 => by
    by_cases ej : j = i
    · subst ej
      have hl : j < δ.length := (List.getElem?_eq_some_iff.mp hi).1
      rw [List.getElem?_set_self hl] at h1
      cases h1
    · rw [List.getElem?_set_ne (Ne.symm ej)] at h1
      exact S.sep i j _ c _ (Ne.symm ej) hi rfl h1 h2 ha h3
  have S2 := S1.put (i := i) (v := .ref a) (b := .o d') ⟨a, rfl, hF, h0, ho⟩ fun _ j c h1 h2 h3 h4 => by
    rw [List.getElem?_set_ne (Ne.symm h3)] at h1
    exact S.sep i j _ c _ (Ne.symm h3) hi rfl h1 h2 ha h4
  rw [set_noop ha, List.set_set] at S2
  exact S2
def dApp (i : Nat) (te : TD) : TSD := fun Z δ => (∃ ds, δ[i]? = some (some (.o (.lst ds)))) ∧ dp te δ fun d δ1 => ∃ ds, δ1[i]? = some (some (.o (.lst ds))) ∧ ds.length < sizeLine ∧ Z.nx (δ1.set i (some (.o (.lst (ds ++ [d])))))
theorem ds_append (hN : X.N[i]? = some x) (hv : Vis X.env.scope x) (h : DE X W e te) (hd : (x == ("__debug__" : Str)) = false := by decide) (hcd : (x == ("__classdict__" : Str)) = false := by decide)
    (hpe : ∀ ta : TE, PE X e ta → PE X (.Call (.Attribute (.Name x p) "append" apos) [e] [] pos) (tBM X.K "list" rAppend (tVar i) (tCons ta tNil))) (hs : swapsWith (.Call (.Attribute (.Name x p) "append" apos) [e] [] pos) none spos.line X.env = pure false := by rfl) :
    DS X W (.Expr (.Call (.Attribute (.Name x p) "append" apos) [e] [] pos) spos) (dApp i te) :=
  .of (ps_expr (X := X) (hpe _ cE_pe) hs) fun F H σ δ Z S q => by
    obtain ⟨⟨ds0, h0⟩, q⟩ := q
    obtain ⟨v0, hv0, a, rfl, hF, hH0, hO⟩ := S.get i _ h0
    obtain ⟨xs0, hx0, rx0⟩ := hO
    refine ⟨.ref a, hv0, .inl ⟨rfl, xs0, SqL.of hx0⟩, (h.plain S q).imp fun v H1 h1 => ?_⟩
    obtain ⟨F1, d, δ1, e1, S1, r1, ds, hi, hz, q1⟩ := h1
    obtain ⟨v1, hv1, a', rfl, hF1, _, xs, hx, rx⟩ := S1.get i _ hi
    rw [hv0] at hv1
    cases hv1
    refine ⟨a, xs, v, rfl, rfl, hx, by rw [rx.length]; exact hz, F1, _, S1.own_turn (d' := .lst (ds ++ [d])) hi hv0 ⟨_, upd_same, rx.append (.cons r1 .nil)⟩, q1⟩
end
end DD

set_option Elab.async false
set_option linter.all false
set_option maxRecDepth 100000
set_option maxHeartbeats 4000000
/-! DD8: own exceptions: class C with an __init__ that says super().__init__(value), self.value = value. -/
namespace DD
open PySem PySem.Spec PyProof.Rows L2

/-- the text of such an __init__ -/
def ixBody (p : Nat → Pos) : List Stmt :=
  [.Expr (.Call (.Attribute (.Call (.Name "super" (p 0)) [] [] (p 1)) "__init__" (p 2)) [.Name "value" (p 3)] [] (p 4)) (p 5),
   .Assign [.Attribute (.Name "self" (p 6)) "value" (p 7)] (.Name "value" (p 8)) (p 9)]
abbrev ixNames : List (Str × NameKind) := [("self", .local), ("value", .local), ("__class__", .free), ("super", .globalImplicit)]
abbrev ixScope : Scope := { kind := .function, names := ixNames, isGenerator := false, isCoroutine := false, more := [] }
/-- what stands in the written part of such a class -/
structure OwnX (P : Program) (K : PySem.W.Frag) (C fI : Addr) : Prop where
  T : OexC K C
  iC : PySem.W.findIn K (.ref C) "__init__" = some (some (.ref fI))
  tI : PySem.W.typeIn K (.ref fI) = some (.type "function")
  hno : PySem.W.findIn K (.ref C) "value" = some none
  sup : PySem.W.nsIn K mainGlobals "super" = some none
  opq : PySem.W.nsIn K cStatics "thirdparty.any" = some none
  hm : PySem.W.ks_superIn K C C "__init__" = some (some (.builtin "ValueError.__init__"))
  hB : PySem.W.subIn K (.ref C) (.type "ValueError") = some true
  hD : PySem.W.mroIn K C (.ref C) = some true
  top : (P.main.scope.names.lookup ("super" : Str)).isSome = false
  fn : ∃ (oc : Value) (od : Option Addr) (qual : Str) (params : Arguments) (p : Nat → Pos) (dV kV doc pm ct ccl cl : Value) (an : Option Addr) (cda cc : Addr) (osl ccs csl : Array (Option Value)) (cdd cld : Option Addr) (vs : Array Value) (file : Str) (tf : Tok) (ar : PySem.Arg) (pl : Sem Bool),
    K.lookup fI = some ⟨oc, od, .func (PySem.W.ksFn "__init__" qual params (ixBody p) ixScope dV kV doc pm an (.ref cda) ct cc), osl⟩ ∧ PySem.W.codeIn K (.ref cda) qual = true ∧
    K.lookup cda = some ⟨ccl, cdd, .fields vs, ccs⟩ ∧ vs[2]? = some (.str file tf) ∧ ((P.main.file : Str) == file) = true ∧ K.lookup cc = some ⟨cl, cld, .cell (some (.ref C)), csl⟩ ∧
    (params.posonlyargs ++ params.args).head? = some ar ∧ ar.arg = "self" ∧
    (∀ (s : Shared) (x u : Value), K.In s.heap → BindsTo s (PySem.W.ksFn "__init__" qual params (ixBody p) ixScope dV kV doc pm an (.ref cda) ct cc) ⟨[x, u], []⟩ [(("self" : Str), x), (("value" : Str), u)]) ∧
    (∀ L : Addr, eval (.Call (.Attribute (.Call (.Name "super" (p 0)) [] [] (p 1)) "__init__" (p 2)) [.Name "value" (p 3)] [] (p 4)) (PySem.W.ksEnv qual ixScope L fI (.ref cda) cc) = (do
      let ov ← attributeBase (.Call (.Name "super" (p 0)) [] [] (p 1)) "__init__" (PySem.W.ksEnv qual ixScope L fI (.ref cda) cc) (eval (.Call (.Name "super" (p 0)) [] [] (p 1)) (PySem.W.ksEnv qual ixScope L fI (.ref cda) cc))
      standAt (p 2).atName
      let (f, first) ← holding [ov] (getMethod ov "__init__" pl)
      callWith (p 4) f first (backTo (p 4) (starEach [.Name "value" (p 3)] (PySem.W.ksEnv qual ixScope L fI (.ref cda) cc))) []))

/-- its default stands in the tuple at T -/
theorem own_binds {K : PySem.W.Frag} {fd : FuncData} {T : Addr} {o : Obj} {its : Array Value} {n : Nat} (lT : K.lookup T = some o) (oT : o.data = .seq its n)
    (h : ∀ x u : Value, ∃ k, bindArgs fd ⟨[x, u], []⟩ = seqItems? (.ref T) >>= k ∧ k (some its) = pure [(("self" : Str), x), (("value" : Str), u)]) (s : Shared) (x u : Value) (X : K.In s.heap) : BindsTo s fd ⟨[x, u], []⟩ [(("self" : Str), x), (("value" : Str), u)] := by
  obtain ⟨k, e1, e2⟩ := h x u
  refine BindsTo.of_looks fun M => ?_
  rw [e1]
  exact looks_items X lT oT (.of_pure e2)
section
variable {prog : Program} {w : World} {A : Around} {E : Value → Shared → Prop} {R : Result → Shared → Prop}
/-- what lies behind the __init__ -/
structure IxEnd (h h' : Heap) (x C : Addr) (v : Value) : Prop where
  keep : ∀ b o, b ≠ x → h.get? b = some o → h'.get? b = some o
  obj : ∃ (t1 dx : Addr), h'.get? x = some ({ cls := .ref C, dict := some dx, data := .fields #[.ref t1, .none, .none, .none, .bool false, .none] } : Obj) ∧ h.get? dx = none ∧ dx ≠ x ∧ h'.Ns1 dx (fun y => if y = ("value" : Str) then some v else none)

theorem call_vw {h : Heap} {g : Array GenState} {d : Drawn} {t : Nat} {os : OsState} {nm q : Str} {C N : Addr} {bs bm : List Value} {hdct : Bool} {sn : List Str} {sub : List Value} {ab : Bool} {col : Option Bool} {dd : Option Addr} {k0 k1 k2 k3 k5 : Option Value} {u e t0 : Addr} {rest : List Value} {Q : Value → Shared → Prop}
    (hC : h.get? C = some (excClassObj nm q C N bs bm hdct sn sub ab col dd k0 k1 k2 k3 k5 "ValueError.__new__")) (he : h.get? e = some (PySem.HandSPX.excO C t0)) (hu : h.get? u = some (PySem.W.kxs_mw "ValueError.__init__" e)) (hz : rest.length ≤ sizeLine)
    (hq : ∀ h' t1, (∀ b o, b ≠ e → h.get? b = some o → h'.get? b = some o) → h'.get? e = some (PySem.HandSPX.excO C t1) → Q .none ⟨h', g, d, t, os⟩) :
    wpAny (model prog w) A (call (.ref u) rest) Q E ⟨h, g, d, t, os⟩ := by
  refine wpAny_call (codeAny_of_tree ?_)
  show wpAny _ A.in1 (callAny (.ref u) ⟨rest, []⟩) _ _ _
  simp only [callAny]
  refine wpAny_bind (wpAny_load hu ?_)
  simp only [PySem.W.kxs_mw, show (Value.type "method-wrapper" == Value.type "method" || Value.type "method-wrapper" == Value.type "builtin_function_or_method" || Value.type "method-wrapper" == Value.type "method-wrapper") = true by decide, if_true]
  refine PySem.W.KFB.if_so (by decide) ?_
  refine wpAny_bind (PySem.ESX.check_bound F.excBase_ValueError hC he rfl ?_)
  refine wpAny_bind (wpAny_pure (wpAny_pure ?_))
  refine ⟨plainId_quiet F.excBase_ValueError.init.plain _, codeAny_builtin F.excBase_ValueError.initEntry ?_⟩
  exact PySem.W.exc_init_tree (cls := .ref C) (t0 := t0) (dv := none) (c2 := .none) (c3 := .none) (b4 := .bool false) he hz fun h' k e' _ => hq h' _ k e'

theorem ix_run {P : Program} {K : PySem.W.Frag} {mg mb : Str → Option Value} {C fI x t0 : Addr} {v : Value} {s : Shared} {h0 : Heap} (O : OwnX P K C fI) (hroom : A.depth < recursionLimit) (X₀ : K.In h0) (k0 : ∀ b o, h0.get? b = some o → s.heap.get? b = some o) (nx : h0.get? x = none)
    (G : h0.Ns mainGlobals mg) (BB : h0.Ns builtinsNs mb) (hb : ∀ y : Str, y ≠ "__name__" → mb y = bootBuiltins y) (lim : s.heap.NoLimit) (hx : s.heap.get? x = some (PySem.HandSPX.excO C t0))
    (h : ∀ h' t', IxEnd s.heap h' x C v → R (.ok (.ret .none)) { s with heap := h', toks := t' }) : codeAny (model P w) A (.call (.ref fI) ⟨[.ref x, v], []⟩) R s := by
  obtain ⟨oc, od, qual, params, p, dV, kV, doc, pm, ct, ccl, cl, an, cda, cc, osl, ccs, csl, cdd, cld, vs, file, tf, ar, pl, lk, hcd, lcd, hvs, hfile, lcc, har, har2, hbd, hev⟩ := O.fn
  have X : K.In s.heap := X₀.keeps k0
  obtain ⟨nm, q, N, bs, bm, sn, sub, ab, col, dd, k0', k1, k2, k3, k5, hC, hbm⟩ := O.T.cls
  have hcl : PySem.W.clsIn K C = some { name := nm, bases := bs, mro := .ref C :: bm, ns := N, qualname := q, hasDict := true, slotNames := sn, subclasses := sub, abstract := ab, collection := col, hasDel := false } := by unfold PySem.W.clsIn; rw [hC] <;> rfl
  refine ks_codeAny_call_defAt (fd := PySem.W.ksFn "__init__" qual params (ixBody p) ixScope dV kV doc pm an (.ref cda) ct cc) (body := ixBody p) (binds := [(("self" : Str), .ref x), (("value" : Str), v)]) hroom (X _ _ lk) rfl lim (PySem.W.codeRec_of X hcd) rfl (hbd s (.ref x) v X) ?_ ?_ (fun h1 hns1 kk1 => ?_) rfl rfl rfl
  · intro y hy
    have hy : y ∈ ixNames := hy
    simp at hy
    rcases hy with rfl | rfl | rfl | rfl <;> decide
  · intro y hy
    show ixNames.lookup y.1 = _
    simp at hy
    rcases hy with rfl | rfl <;> rfl
  have hLx : ¬ x = s.heap.objs.size := Nat.ne_of_lt (Heap.lt_size hx)
  have X1 : K.In h1 := X.keeps kk1
  have hx1 := kk1 _ _ hx
  have kl : ∀ y : Str, (PySem.W.ksEnv qual ixScope s.heap.objs.size fI (.ref cda) cc).kindOf y = ixNames.lookup y := fun y => rfl
  have ik : ixNames.lookup ("value" : Str) = some NameKind.local := rfl
  have ik2 : ixNames.lookup ("self" : Str) = some NameKind.local := rfl
  have hgl : (fun y => List.lookup y (List.reverse [(("self" : Str), Value.ref x), (("value" : Str), v)])) ("value" : Str) = some v := rfl
  have hgs : (fun y => List.lookup y (List.reverse [(("self" : Str), Value.ref x), (("value" : Str), v)])) ("self" : Str) = some (.ref x) := rfl
  obtain ⟨hp, g, dr, tk, os⟩ := s
  dsimp only at kk1 hns1 hx1 X1 k0 hx hLx lim kl h
  have XC := X1 _ _ hC
  have II : PySem.W.InstAt h1 x (PySem.HandSPX.excO C t0) C none := ⟨hx1, rfl, rfl, trivial⟩
  refine ks_wpAt_execs_cons (ks_wpAt_Expr_any (ks_wpAt_MethodCall (pl := pl) ?_ (hev _)) ?hi ?hs)
  case hi => exact rfl
  case hs => exact rfl
  have hfile' : ((P.main.file : Str) == file) = true := hfile
  refine ks_wpAt_super_base (cc := cda) (f := fI) (attr := "__init__") (env := PySem.W.ksEnv qual ixScope hp.objs.size fI (.ref cda) cc) (oc := ⟨ccl, cdd, .fields vs, ccs⟩) (of := ⟨oc, od, .func (PySem.W.ksFn "__init__" qual params (ixBody p) ixScope dV kV doc pm an (.ref cda) ct cc), osl⟩) rfl rfl (by decide) rfl (X1 _ _ lk) rfl har rfl (X1 _ _ lcd) rfl hvs hfile O.top ?_
  refine PySem.W.ks_loadName_global rfl rfl (Calls.loadGlobal_builtin (env := PySem.W.ksEnv qual ixScope hp.objs.size fI (.ref cda) cc) (G.keeps fun b o e => kk1 b o (k0 b o e)) (PySem.W.mg_none_of X₀ G O.sup) (BB.keeps fun b o e => kk1 b o (k0 b o e)) (hb _ (by decide)) ⟨by first | rfl | boot_by_name | kernel_rfl, ?_⟩)
  refine wpAny_loadName_free rfl rfl rfl ⟨_, X1 _ _ lcc, rfl⟩ ?_
  rw [har2]
  refine wpAny_loadName_local rfl rfl hns1 hgs ?_
  refine ks_wpAny_isType_cls XC rfl ⟨rfl, ?_⟩
  refine ks_wpAny_call_super XC rfl hx1 rfl (fun c e => nomatch e) (PySem.W.looks_mroIn X1 O.hD) (fun h2 e2 kk2 => ?_)
  have X2 : K.In h2 := X1.keeps kk2
  have hx2 := kk2 _ _ hx1
  have I2 : PySem.W.InstAt h2 x (PySem.HandSPX.excO C t0) C none := ⟨hx2, rfl, rfl, trivial⟩
  have hmI := O.hm
  unfold PySem.W.ks_superIn at hmI
  rw [hcl] at hmI
  refine PySem.W.kxs_getMethod PySem.W.kxs_ValueError (K := K) (C := C) (x := x) (D := C) e2 (PySem.W.looks_opaque X2 O.opq) (fun A Q E s k q => wpAny_bind ((PySem.W.looks_clsIn X2 hcl) A _ E s k (wpAny_pure q))) rfl X2 hmI (I2.type.andThen (PySem.W.looks_subIn X2 O.hB)) (PySem.W.ks_ne X2 I2 hcl) (by decide) ?_
  have kk3 : ∀ b o, h2.get? b = some o → (h2.push (PySem.W.kxs_mw "ValueError.__init__" x)).get? b = some o := fun b o e => Heap.get?_push_of_some _ e
  have hu : (h2.push (PySem.W.kxs_mw "ValueError.__init__" x)).get? h2.objs.size = some (PySem.W.kxs_mw "ValueError.__init__" x) := Heap.get?_push_at rfl rfl
  generalize hh3 : h2.push (PySem.W.kxs_mw "ValueError.__init__" x) = h3 at kk3 hu
  have X3 : K.In h3 := X2.keeps kk3
  have hx3 := kk3 _ _ hx2
  obtain ⟨oL, es, ep, hL, rL⟩ := hns1
  have hns3 : h3.Ns hp.objs.size (fun y => List.lookup y (List.reverse [(("self" : Str), Value.ref x), (("value" : Str), v)])) := ⟨oL, es, ep, kk3 _ _ (kk2 _ _ hL), rL⟩
  refine PySem.W.kxs_callWith (i := "ValueError.__init__") (x := x) rfl ?_
  refine Calls.evalArgs_plain (Calls.spliced_cons (PySem.ESX.ldL hns3 hgl (Calls.spliced_nil ⟨hu, ?_⟩)))
  refine call_vw (kk3 _ _ (kk2 _ _ XC)) hx3 hu (by show 1 ≤ sizeLine; rw [sizeLine_eq]; omega) fun h4 t4 kk4 hx4 => ?_
  have hxn : ∀ b o, h0.get? b = some o → b ≠ x := fun b o e z => by
    rw [z, nx] at e
    cases e
  have k04 : ∀ b o, h0.get? b = some o → h4.get? b = some o := fun b o e => kk4 b o (hxn b o e) (kk3 _ _ (kk2 _ _ (kk1 _ _ (k0 _ _ e))))
  have X4 : K.In h4 := X₀.keeps k04
  have hns4 : h4.Ns hp.objs.size (fun y => List.lookup y (List.reverse [(("self" : Str), Value.ref x), (("value" : Str), v)])) := ⟨oL, es, ep, kk4 _ _ (fun z => hLx z.symm) (kk3 _ _ (kk2 _ _ hL)), rL⟩
  refine ks_wpAt_execs_cons (wpAt_of_wpAny ?_)
  refine plainObj_wpAny_Assign_Attribute (PySem.ESX.ldL hns4 hgl (PySem.ESX.ldL hns4 hgs ?_)) ?hs2
  case hs2 => exact rfl
  refine PySem.W.set_plain X4 (ox := PySem.HandSPX.excO C t4) (od := none) ⟨hx4, rfl, rfl, trivial⟩ O.T.sa ?_
  refine PySem.HandSPX.exc_osa X4 hx4 hcl (show PySem.HandSPX.refsVE (.ref C :: bm) = true from hbm) rfl O.hno (fun h5 tk5 dx kk5 dn dne hx5 hn5 => ?_)
  refine wpAt_of_wpAny (wpAny_execs_nil ?_)
  refine h h5 _ ⟨fun b o hb e => kk5 b o hb (kk4 b o hb (kk3 _ _ (kk2 _ _ (kk1 _ _ e)))), t4, dx, hx5, ?_, dne, hn5⟩
  cases z : hp.get? dx with
  | none => rfl
  | some o => exact absurd (Heap.lt_size (kk4 dx o dne (kk3 _ _ (kk2 _ _ (kk1 _ _ z))))) (Nat.not_lt.mpr dn)
end

/-! ### C(e) for such a class -/
section
variable {X : Cx} {pins : List (Addr × Obj)} {σ : L2.St} {H : Hp} {x : Str} {C fI : Addr} {k : Nat} {e : Expr} {p pos : Pos} {ta : TA}
/-- the object and its dict, made -/
structure Made (X : Cx) (pins : List (Addr × Obj)) (σ : L2.St) (H : Hp) (C : Addr) (y : V) (s s' : Shared) (a : Addr) : Prop where
  fin : ∃ (t1 d : Addr) (G : Heap), s'.heap.get? a = some ({ cls := .ref C, dict := some d, data := .fields #[.ref t1, .none, .none, .none, .bool false, .none] } : Obj) ∧ (∀ b o, G.get? b = some o → s'.heap.get? b = some o) ∧ G.get? a = none ∧
    Inv X pins σ (upd H d (.xd [("value", y)])) { s' with heap := G } ∧ (upd H d (.xd [("value", y)])) a = none ∧ H d = none ∧ H a = none ∧ d ≠ a ∧ s.heap.get? a = none
theorem make_own {s : Shared} {y : V} {v : Value} {Q : Value → Shared → Prop} (O : OwnX X.prog X.K C fI) (hr : Room (k + 1) X.A) (I : Inv X pins σ H s) (r : RelV y v) (h : ∀ a s', Made X pins σ H C y s s' a → Q (.ref a) s') :
    wpAny (model X.prog X.w) X.A (call (.ref C) [v]) Q X.xe s := by
  obtain ⟨nm, q, N, bs, bm, sn, sub, ab, col, dd, k0, k1, k2, k3, k5, hC, hbm⟩ := O.T.cls
  obtain ⟨mb, hb1, hb2⟩ := I.mod.blt
  obtain ⟨hp, g, dr, tk, os⟩ := s
  have kk : ∀ b o, hp.get? b = some o → ((hp.push (PySem.W.kdv_tup [v])).push (PySem.HandSPX.excO C hp.objs.size)).get? b = some o := fun b o e => Heap.get?_push_of_some _ (Heap.get?_push_of_some _ e)
  have hget : ((hp.push (PySem.W.kdv_tup [v])).push (PySem.HandSPX.excO C hp.objs.size)).get? (hp.objs.size + 1) = some (PySem.HandSPX.excO C hp.objs.size) := by heap_get
  have na : hp.get? (hp.objs.size + 1) = none := by
    cases z : hp.get? (hp.objs.size + 1) with
    | none => rfl
    | some o => exact absurd (Heap.lt_size z) (Nat.not_lt.mpr (Nat.le_succ _))
  refine wpAny_call (PySem.HandSPX.call_own F.excBase_ValueError (fun Y => PySem.HandSPX.refsVE_contains Y bm hbm) (I.kIn _ _ hC) (PySem.W.looks_findIn I.kIn O.iC) (fun self => PySem.W.bind_fn I.kIn self O.tI) (by show 1 ≤ sizeLine; rw [sizeLine_eq]; omega) ?_)
  refine ix_run O (hr.make C [v] []).depth (h0 := hp) (mg := X.mg) (mb := mb) I.kIn kk na ((by have := I.ok.glob; exact I.mod.glob.keeps I.bk)) (hb1.keeps I.bk) hb2 (I.nolimit.keeps kk) hget fun h' t' z => ?_
  obtain ⟨t1, d, hx, nd, dne, hn⟩ := z.obj
  have nhd : hp.get? d = none := by
    cases q : hp.get? d with
    | none => rfl
    | some o =>
      rw [kk d o q] at nd
      cases nd
  have hnd : H d = none := I.hok.gone nhd
  have hna : H (hp.objs.size + 1) = none := I.hok.gone na
  obtain ⟨G, g1, g2⟩ := restrict h' fun b => decide (b ≠ hp.objs.size + 1)
  have gk : ∀ b, b ≠ hp.objs.size + 1 → G.get? b = h'.get? b := fun b hb => g1 b (decide_eq_true hb)
  have ga : G.get? (hp.objs.size + 1) = none := g2 _ (by simp)
  have gs : ∀ b o, G.get? b = some o → h'.get? b = some o := fun b o e => by
    by_cases hb : b = hp.objs.size + 1
    · rw [hb, ga] at e
      cases e
    · rw [← gk b hb]
      exact e
  have hne : ∀ b o, hp.get? b = some o → b ≠ hp.objs.size + 1 := fun b o e z => by
    rw [z, na] at e
    cases e
  have rel : ∀ f : Str, RelO (([(("value" : Str), y)] : List (Str × V)).lookup f) (if f = ("value" : Str) then some v else none) := fun f => by
    rw [lookup_put]
    by_cases e : f = ("value" : Str)
    · rw [if_pos e, if_pos e]
      exact r
    · rw [if_neg e, if_neg e]
      exact True.intro
  have hnG : G.Ns1 d (fun f => if f = ("value" : Str) then some v else none) := hn.at fun o y => (gk d dne).trans y
  have J : Inv X pins σ (upd H d (.xd [("value", y)])) ⟨G, g, dr, t', os⟩ := I.laidN (t' := t') (a := d) (o := .xd [("value", y)]) (fun b o e => (gk b (hne b o e)).trans (z.keep b o (hne b o e) (kk b o e))) nhd hnd ⟨_, hnG, rel⟩
  exact ⟨rfl, h _ ⟨h', g, dr, t', os⟩ ⟨t1, d, G, hx, gs, ga, J, by rw [upd_ne (Ne.symm dne)]; exact hna, hnd, hna, dne, na⟩⟩
def tMkX (C : Addr) (ta : TA) : L2.St → Hp → XK → Prop := fun σ H Q => ta σ H fun vs H1 => ∃ y, vs = [y] ∧ ∀ d, H1 d = none → Q (.ref C) (some d) (upd H1 d (.xd [("value", y)]))
theorem pmk_x (O : OwnX X.prog X.K C fI) (hr : Room (k + 1) X.A) (hg : Gl X x) (hm : X.mg x = some (.ref C)) (ha : PA X [e] ta) (hdb : (x == ("__debug__" : Str)) = false := by decide)
    (he : starEach [e] X.env = (false, eval e X.env) :: starEach [] X.env := by rfl) (hpl : (backTo pos (starEach [] X.env)).any (·.1) = false := by rfl) : PMk X (.Call (.Name x p) [e] [] pos) (tMkX C ta) := by
  intro pins s σ H Q I h
  refine wpAny_Call_Name_kw (ld_glob I hg hm ?_ hdb)
  refine PySem.W.callWith_K (h₀ := X.base) I.ok.mod.kin O.T.kC (thn (ha.run pos pins s σ H _ I h) ?_) he hpl
  rintro us s1 ⟨vs, H1, I1, r1, y, rfl, q1⟩
  cases r1 with
  | cons ry rr =>
    cases rr
    refine ⟨I1.kIn, make_own O hr I1 ry fun a s' M => ?_⟩
    obtain ⟨t1, d, G, ho, gs, ga, J, ua, hd, _, _, _⟩ := M.fin
    exact ⟨a, _, _, { s' with heap := G }, _, .ref C, some d, rfl, J, gs, ga, ho, ⟨rfl, rfl⟩, rfl, rfl, ua, rfl, J.bare, raises_own O.T.exC O.T.tyC, q1 d hd⟩
end
end DD

set_option Elab.async false
set_option linter.all false
set_option maxRecDepth 100000
set_option maxHeartbeats 4000000
/-! DD9: own exceptions over data: raise, C(e) as a value, .value, isinstance, try: call / except C as n: y = n. -/
namespace DD
open PySem PySem.Spec PyProof.Rows L2

section
variable {X : Cx} {W : Fix} {x : Str} {C fI : Addr} {k : Nat} {e : Expr} {p pos pos' : Pos} {t : TDA}
theorem rpL1x {K : PySem.W.Frag} {F : Hp} {d : D} {vs : List V} (h : RpL K F [d] vs) : ∃ y, vs = [y] ∧ Rp K F d y := by
  unfold RpL at h
  obtain ⟨y, r, rfl, h1, h2⟩ := h
  unfold RpL at h2
  subst h2
  exact ⟨y, rfl, h1⟩
def dRaise (C : Addr) (E : Addr → List D → Env' → Prop) (t : TDA) : TSD := fun _ δ => t δ fun ds δ1 => ∃ d, ds = [d] ∧ E C [d] δ1
theorem ds_raise {E0 : Addr → List D → Env' → Prop} (te : TkE X W E0) (O : OwnX X.prog X.K C fI) (hc : X.calm = true) (hr : Room (k + 1) X.A) (hg : Gl X x) (hm : X.mg x = some (.ref C)) (h : DA X W [e] t) (hdb : (x == ("__debug__" : Str)) = false := by decide)
    (he : starEach [e] X.env = (false, eval e X.env) :: starEach [] X.env := by rfl) (hpl : (backTo pos (starEach [] X.env)).any (·.1) = false := by rfl) :
    DS X W (.Raise (some (.Call (.Name x p) [e] [] pos)) none pos') (dRaise C E0 t) :=
  .of (ps_raise hc te.tk (pmk_x O hr hg hm cA_pa hdb he hpl)) fun F H σ δ D S q => by
    refine (h.run F H σ δ _ S q).imp fun vs H1 h1 => ?_
    obtain ⟨F1, ds, δ1, e1, S1, r1, d, rfl, q1⟩ := h1
    obtain ⟨y, rfl, ry⟩ := rpL1x r1
    exact ⟨y, rfl, fun a ha => ⟨_, δ1, C, [d], S1.new ha, ⟨rfl, .inr ⟨a, y, d, rfl, rfl, upd_same, Rp.mono (same_upd (S1.freshF ha)) _ _ ry⟩⟩, by rw [te.eq]; exact q1⟩⟩

/-! ### C(e) as a value -/
def tMkV (C : Addr) (ta : TA) : TE := fun σ H Q => ta σ H fun vs H1 => ∃ y, vs = [y] ∧ ∀ d a, H1 d = none → H1 a = none → a ≠ d → Q (.ref a) (upd (upd H1 d (.xd [("value", y)])) a (ExcAt a C (some d)))
theorem pe_mkV {ta : TA} (O : OwnX X.prog X.K C fI) (hr : Room (k + 1) X.A) (hg : Gl X x) (hm : X.mg x = some (.ref C)) (ha : PA X [e] ta) (hdb : (x == ("__debug__" : Str)) = false := by decide)
    (he : starEach [e] X.env = (false, eval e X.env) :: starEach [] X.env := by rfl) (hpl : (backTo pos (starEach [] X.env)).any (·.1) = false := by rfl) : PE X (.Call (.Name x p) [e] [] pos) (tMkV C ta) := by
  refine ⟨fun pins s σ H Q I h => wpAny_Call_Name_kw (ld_glob I hg hm ?_ hdb)⟩
  refine PySem.W.callWith_K (h₀ := X.base) I.ok.mod.kin O.T.kC (thn (ha.run pos pins s σ H _ I h) ?_) he hpl
  rintro us s1 ⟨vs, H1, I1, r1, y, rfl, q1⟩
  cases r1 with
  | cons ry rr =>
    cases rr
    refine ⟨I1.kIn, make_own O hr I1 ry fun a s' M => ?_⟩
    obtain ⟨t1, d, G, ho, gs, ga, J, ua, hd, na, ne, _⟩ := M.fin
    have J2 : Inv X pins σ (upd (upd H1 d (.xd [("value", y)])) a (ExcAt a C (some d))) s' := J.laidN (t' := s'.toks) (a := a) (o := ExcAt a C (some d)) gs ga ua
      ⟨⟨_, _, ho, rfl, rfl, rfl⟩, ⟨_, ho⟩, fun h1 h2 z k => by
        obtain ⟨oe, vs, z1, z2⟩ := z
        exact ⟨oe, vs, k _ z1, z2⟩⟩
    exact ⟨.ref a, _, J2, rfl, q1 d a hd na (Ne.symm ne)⟩
def dMkX (C : Addr) (t : TDA) : TD := fun δ Q => t δ fun ds δ1 => ∃ d, ds = [d] ∧ Q (.p (.exc C [d])) δ1
theorem de_mkX (O : OwnX X.prog X.K C fI) (hr : Room (k + 1) X.A) (hg : Gl X x) (hm : X.mg x = some (.ref C)) (h : DA X W [e] t) (hdb : (x == ("__debug__" : Str)) = false := by decide)
    (he : starEach [e] X.env = (false, eval e X.env) :: starEach [] X.env := by rfl) (hpl : (backTo pos (starEach [] X.env)).any (·.1) = false := by rfl) : DE X W (.Call (.Name x p) [e] [] pos) (dMkX C t) :=
  .of (pe_mkV O hr hg hm cA_pa hdb he hpl) fun F H σ δ Q S q => by
    refine (h.run F H σ δ _ S q).imp fun vs H1 h1 => ?_
    obtain ⟨F1, ds, δ1, e1, S1, r1, d, rfl, q1⟩ := h1
    obtain ⟨y, rfl, ry⟩ := rpL1x r1
    refine ⟨y, rfl, fun dx a hd ha ne => ?_⟩
    have S2 := S1.new (o := .xd [("value", y)]) hd
    have ha2 : (upd H1 dx (.xd [("value", y)])) a = none := by rw [upd_ne ne]; exact ha
    have S3 := S2.new (o := ExcAt a C (some dx)) ha2
    have s1 := same_upd (o := .xd [("value", y)]) (S1.freshF hd)
    have s2 := same_upd (o := ExcAt a C (some dx)) (S2.freshF ha2)
    refine DQ.back (e1.trans (s1.trans s2)) (.mk S3 ?_ q1)
    unfold Rp
    exact ⟨a, dx, y, [y], rfl, upd_same, s2 _ _ upd_same, rfl, .cons (Rp.mono (s1.trans s2) _ _ ry) .nil⟩

/-! ### the field -/
structure XfE (K : PySem.W.Frag) (C : Addr) : Prop where
  T : XfC K C
  no : PySem.W.findIn K (.ref C) "value" = some none
  cl : (PySem.W.clsIn K C).isSome = true
  ac : PySem.W.findIn K (.ref C) "__class__" = some (some (.builtin "object.__class__"))
  sp : PySem.W.specialIn K (.builtin "object.__class__") "__get__" = some (some (.builtin "getset_descriptor.__get__"))
  tk : PySem.W.takesIn K (.builtin "object.__class__") = some true
  ob : PySem.W.mroIn K C (.type "object") = some true
theorem excAt_look {pins : List (Addr × Obj)} {σ : L2.St} {H : Hp} {s : Shared} {a dx : Addr} {fs : List (Str × V)} (I : Inv X pins σ H s) (h1 : H a = some (ExcAt a C (some dx))) (h2 : H dx = some (.xd fs)) :
    ∃ (oe : Obj) (od : Obj) (mA : Str → Option Value), PySem.W.InstAt s.heap a oe C (some od) ∧ (∀ f, RelO (fs.lookup f) (mA f)) ∧ ∀ f, PySem.W.lookIn f od = some (mA f) := by
  obtain ⟨⟨oe, vs, ho, hc, hd, hv⟩, _⟩ := I.hok a _ h1
  have hx : ObjOk X.prog X.w H s.heap dx (.xd fs) := I.hok dx _ h2
  obtain ⟨mA, hns, hr⟩ := hx
  obtain ⟨od, hod, hl⟩ := lookIn_ns hns
  exact ⟨oe, od, mA, ⟨ho, hc, by unfold PySem.W.notCls; rw [hv] <;> rfl, by rw [hd]; exact hod⟩, hr, hl⟩
def tXv (K : PySem.W.Frag) (te : TE) : TE := fun σ H Q => te σ H fun v H1 => ∃ (a C dx : Addr) (y : V), v = .ref a ∧ XfE K C ∧ H1 a = some (ExcAt a C (some dx)) ∧ H1 dx = some (.xd [("value", y)]) ∧ Q y H1
theorem pe_xv {te : TE} (he : PE X e te) (hb : attributeBase e "value" X.env (eval e X.env) = eval e X.env := by rfl) : PE X (.Attribute e "value" pos) (tXv X.K te) := by
  refine ⟨fun pins s σ H Q I h => attr_of hb (thn (he.run pins s σ H _ I h) ?_)⟩
  rintro u s1 ⟨v, H1, I1, rx, a, C, dx, y, rfl, T, h1, h2, q⟩
  obtain rfl : u = Value.ref a := rx
  obtain ⟨oe, od, mA, J, hr, hl⟩ := excAt_look I1 h1 h2
  obtain ⟨u, hu, ru⟩ := RelO.some_of (v := y) (o := mA "value") (hr "value")
  exact PySem.HandSPX.exc_get I1.kIn J T.T.ga T.T.gg T.T.exC (PySem.W.findObj_own T.T.hdC T.no rfl (by rw [hl, hu])) (handed_of ru) ⟨y, H1, I1.tok _, ru, q⟩
def dXv (K : PySem.W.Frag) (t : TD) : TD := fun δ Q => dp t δ fun d δ1 => ∃ C y, d = .exc C [y] ∧ XfE K C ∧ Q (.p y) δ1
theorem de_xv {t : TD} (h : DE X W e t) (hb : attributeBase e "value" X.env (eval e X.env) = eval e X.env := by rfl) : DE X W (.Attribute e "value" pos) (dXv X.K t) :=
  .of (pe_xv cE_pe hb) fun F H σ δ Q S q => by
    refine (h.plain S q).imp fun v H1 h1 => ?_
    obtain ⟨F1, d, δ1, e1, S1, r1, C, y, rfl, T, q1⟩ := h1
    unfold Rp at r1
    obtain ⟨a, dx, z, xs, rfl, h1, h2, rfl, r2⟩ := r1
    obtain ⟨z', e2, r3⟩ := rpL1x r2
    cases e2
    exact ⟨a, C, dx, z, rfl, T, S1.fh _ _ h1, S1.fh _ _ h2, DQ.back e1 (.mk S1 r3 q1)⟩

/-! ### isinstance of data, of an exception too -/
inductive TyZ (K : PySem.W.Frag) (H : Hp) : V → Value → Prop where
  | base {x : V} {t : Value} (h : TyX K H x t) : TyZ K H x t
  | exc {a C dx : Addr} {y : V} (h1 : H a = some (ExcAt a C (some dx))) (h2 : H dx = some (.xd [("value", y)])) (T : XfE K C) : TyZ K H (.ref a) (.ref C)
def rIsZ (K : PySem.W.Frag) : List V → Hp → VK → Prop := fun xs H Q => ∃ (x c : V) (t u : Value) (b : Bool), xs = [x, c] ∧ ClsV c u ∧ TyZ K H x t ∧ PySem.W.kitOne K t u = some b ∧ Q (.bl b) H
theorem call_isZ : CallR X (.builtin "isinstance") (rIsZ X.K) := by
  intro pins s σ H xs us Q I r h
  obtain ⟨x, c, t, u, b, rfl, k, ty, e, q⟩ := h
  cases ty with
  | base ty => exact call_isi pins s σ H _ us Q I r ⟨x, c, t, u, b, rfl, k, ty, e, q⟩
  | exc h1 h2 T =>
    obtain ⟨u1, u2, rfl, r1, r2⟩ := vals2 r
    have e2 := k.eq r2
    subst e2
    obtain ⟨oe, od, mA, J, _, _⟩ := excAt_look I h1 h2
    cases r1
    exact PySem.W.kia_one (PySem.W.kitx_exc T.cl T.T.ga T.T.gg T.T.exC T.ac T.sp T.tk T.ob) I.kIn J e (fun z => nomatch z) fun tk => ⟨.bl b, H, I.tok tk, rfl, q⟩
def isZG (K : PySem.W.Frag) : List D → (B → Prop) → Prop := fun ds Q => isiG K ds Q ∨ ∃ C y c u b, ds = [.exc C [y], c] ∧ XfE K C ∧ clsD c = some u ∧ PySem.W.kitOne K (.ref C) u = some b ∧ Q (.p (.bl b))
theorem rc_isZ {K : PySem.W.Frag} : RC K (rIsZ K) (isZG K) := by
  intro W F H σ δ xs ds Q Z S r g hZ
  rcases g with g | g
  · obtain ⟨x, c, t, u, b, h1, h2, h3, h4, q⟩ := rc_isi W F H σ δ xs ds Q Z S r g hZ
    exact ⟨x, c, t, u, b, h1, h2, .base h3, h4, q⟩
  · obtain ⟨C, y, c, u, b, rfl, T, h2, h3, q⟩ := g
    obtain ⟨v, w, rfl, rv, rw'⟩ := rpL2 r
    have hc : ClsV w u := by
      cases c <;> first | (cases h2; done) | skip
      · cases h2
        rw [rpTy rw']
        exact .ty _
      · cases h2
        unfold Rp at rw'
        rw [rw']
        exact .own _
    unfold Rp at rv
    obtain ⟨a, dx, z, xs, rfl, h4, h5, rfl, r2⟩ := rv
    exact ⟨.ref a, w, _, u, b, rfl, hc, .exc (S.fh _ _ h4) (S.fh _ _ h5) T, h3, hZ _ _ (mkP S rp_bl q)⟩
end

/-! ### try: body / except c as n: y = n; the object stays -/
section
variable {X : Cx} {pins : List (Addr × Obj)} {σ : L2.St} {H : Hp} {s : Shared}
theorem track {a C : Addr} {d : Option Addr} {oe : Obj} {vs : Array Value} (I : Inv X ((a, oe) :: pins) σ H s) (hx : X.ex = []) (h0 : X.s_0.heap.get? a = none) (nc : oe.cls = .ref C) (ed : oe.dict = d) (dt : oe.data = .fields vs) (np : ∀ p ∈ X.pn ++ pins, p.1 ≠ a) :
    Inv X pins σ (upd H a (ExcAt a C d)) s := by
  obtain ⟨ha, na, nL, nF, _⟩ := I.pin (a, oe) (List.mem_append_right _ List.mem_cons_self)
  have ha : s.heap.get? a = some oe := ha
  have na : H a = none := na
  have ne0 : ∀ b o, X.s_0.heap.get? b = some o → b ≠ a := fun b o e z => by
    rw [z, h0] at e
    cases e
  have cne : ∀ x c, X.env.cells.lookup x = some c → c ≠ a := fun x c e z => by
    obtain ⟨v, o, ho, hd⟩ := I.cell x c e
    rw [z, ha] at ho
    cases ho
    rw [dt] at hd
    cases hd
  refine ⟨I.ok, I.os, I.bare, ⟨I.base.keep, I.base.slot, fun b o e n q => ?_, I.base.there, fun b xs q => ?_, fun b o u q => ?_, fun b ps q => ?_⟩, I.loc, I.cell, ?_, fun x c e => ?_, fun p hp => ?_, fun b u e => ?_, I.len⟩
  · rw [upd_ne (ne0 b o e)]
    exact I.base.free b o e n q
  · have z := I.base.tups b xs q
    rw [upd_ne (ne_of_none z na)]
    exact z
  · have z := I.base.frzs b o u q
    rw [upd_ne (ne_of_none z na)]
    exact z
  · obtain ⟨m, z⟩ := I.base.tbls b ps q
    exact ⟨m, by rw [upd_ne (ne_of_none z na)]; exact z⟩
  · rw [upd_ne (Ne.symm nL)]
    exact I.free
  · rw [upd_ne (cne x c e)]
    exact I.freeC x c e
  · have hp' : p ∈ X.pn ++ (a, oe) :: pins := by
      rcases List.mem_append.mp hp with z | z
      · exact List.mem_append_left _ z
      · exact List.mem_append_right _ (List.mem_cons_of_mem _ z)
    obtain ⟨q1, q2, q3⟩ := I.pin p hp'
    exact ⟨q1, by rw [upd_ne (np p hp)]; exact q2, q3⟩
  · by_cases hb : b = a
    · subst hb
      rw [upd_same] at e
      cases e
      exact ⟨⟨oe, vs, ha, nc, ed, dt⟩, ⟨oe, ha⟩, fun h1 h2 z k => by
        obtain ⟨o, w, z1, z2⟩ := z
        exact ⟨o, w, k _ z1, z2⟩⟩
    · rw [upd_ne hb] at e
      exact (I.hok b u e).stay (fun c v _ q => q) (fun c q => by rw [upd_ne (ne_of_none q na)]; exact q) fun c xs q => by rw [upd_ne (ne_of_none q na)]; exact q
/-- what is wished of an exception of the body -/
def wKeep (K : PySem.W.Frag) (c : Value) (i j : Nat) (D : Ends) : WX := fun cls d σ H =>
  ∃ C, cls = .ref C ∧ PySem.W.exmOne K cls c = some true ∧ ∀ a, H a = none → D.nx (((σ.set i (some (.ref a))).set j (some (.ref a))).set i none) (upd H a (ExcAt a C d))
variable {x n y : Str} {c : Value} {i j : Nat} {body : List Stmt} {np py pn pa pos pos' : Pos} {tb : WX → TS}
theorem ps_try_keep (hex : X.ex = []) (hs : X.stack = X.env :: X.outer) (hf : X.env.frame = some X.env.locals) (hN : X.N.Nodup) (hi : X.N[i]? = some n) (hln : X.env.kindOf n = some .local) (hj : X.N[j]? = some y) (hlj : X.env.kindOf y = some .local) (hc : Names X x c)
    (hv : Vis X.env.scope n) (hdn : (n == ("__debug__" : Str)) = false) (hcn : (n == ("__classdict__" : Str)) = false) (hsw : swapsWith (.Name n pn) (some (.Name y py)) pa.line X.env = pure false)
    (hb : ∀ (W : WX) (pn : List (Addr × Obj)) (xe : Value → Shared → Prop), Takes (X.tr pn xe) W → PSs (X.tr pn xe) body (tb W)) :
    PS X (.Try body [.ExceptHandler (some (.Name x np)) (some n) [.Assign [.Name y py] (.Name n pn) pa] pos'] [] [] pos) (fun D σ H => tb (wKeep X.K c i j D) D σ H) := by
  refine ⟨fun pins s σ H D I h => ?_⟩
  have ok := I.ok
  have hfr : X.A.frames = some (X.env :: X.outer) := by rw [ok.frames, hs]
  refine wpAny_Try_except (wpAny_mono ((hb (wKeep X.K c i j D) (X.pn ++ pins) (fun e s₁ => wpAny (model X.prog X.w) X.A (noteFrame e X.env) (fun _ s₂ => wpAny (model X.prog X.w) X.A (setFlight e none)
    (fun _ s₃ => wpAny (model X.prog X.w) X.A (handleBy e X.env [.ExceptHandler (some (.Name x np)) (some n) [.Assign [.Name y py] (.Name n pn) pa] pos']) (SP X pins D) X.xe s₃) X.xe s₂) X.xe s₁) (fun u s' xx => ?_)).run [] s σ H D (I.toTry _) h) (fun f s1 hsp => ?_) fun e s1 he => he)
  · obtain ⟨a, B, sI, pins', σ', H', cls, d, rfl, J', nb, up, sky, na, os, ag, C, rfl, hm1, hyes⟩ := xx
    have J : Inv X pins σ' H' sI := J'.ofTry ok
    have sky2 : Sky B (X.env :: X.outer) a (Zc (.ref C) d) X.env.locals s'.heap := by
      rw [← hs]
      exact sky
    show wpAny _ X.A (noteFrame (.ref a) X.env) _ _ _
    refine Sky.land Zc.steady hfr hf sky2 ?_
    intro h3 fl3 up3
    have J3 : Inv X pins σ' H' { s' with heap := h3 } := J.landed nb fl3.1 (up.trans up3) os ag
    obtain ⟨oe3, vs3, he3, hz3, hd3⟩ := fl3.there
    have notFr : ∀ {h : Heap} {o : Obj} {vs : Array Value}, h.FunFrames B (X.env :: X.outer) → h.get? a = some o → o.data = .fields vs → a ∉ frs (X.env :: X.outer) := by
      intro h o vs ff e dd hm
      obtain ⟨_, o', e2, hnf⟩ := ff.mem hm
      rw [e] at e2
      cases e2
      exact hnf _ dd
    have nfr := notFr fl3.2.2.1 he3 hd3
    have nB : B.get? a = none := fl3.2.1
    have nL : a ≠ X.env.locals := fun z => nfr (List.mem_filterMap.mpr ⟨X.env, List.mem_cons_self, by rw [hf, z]⟩)
    have nF : a ∉ X.fs := by
      intro hm
      obtain ⟨e, he, q⟩ := List.mem_filterMap.mp hm
      exact nfr (List.mem_filterMap.mpr ⟨e, List.mem_cons_of_mem _ he, q⟩)
    have nI : sI.heap.get? a = none := by
      cases z : sI.heap.get? a with
      | none => rfl
      | some o =>
        rw [nb a o z (by rw [hs]; exact nfr)] at nB
        cases nB
    have n0 : X.s_0.heap.get? a = none := by
      cases z : X.s_0.heap.get? a with
      | none => rfl
      | some o =>
        obtain ⟨o', q⟩ := J.base.there a o z (by rw [hex]; exact fun z => nomatch z)
        rw [nI] at q
        cases q
    have npp : ∀ p ∈ X.pn ++ pins, p.1 ≠ a := by
      intro p hp z
      obtain ⟨q, _⟩ := J.pin p hp
      rw [z, nI] at q
      cases q
    have S3 := J3.suite he3 hd3 na nL nF
    refine wpAny_handleBy_cons (codeAny_handlers_test ?_) (by intro q; cases q)
    have LT : PySem.W.Looks (model X.prog X.w) h3 (typeOf (.ref a)) (.ref C) := fun A Q E s k q => wpAny_typeOf_ref (k _ _ he3) (by rw [hz3.1]; exact q)
    have LM := PySem.W.exm_one (M := model X.prog X.w) (J3.kIn) LT hm1
    have test : ∀ {Q : Value → Shared → Prop} {E : Value → Shared → Prop}, Q c { s' with heap := h3 } → wpAny (model X.prog X.w) (X.A.mark (some (.ref a))) (eval (.Name x np) X.env) Q E { s' with heap := h3 } := by
      intro Q E q
      obtain ⟨hg, hdbg, hm | ⟨hm, hv, hnn⟩⟩ := hc
      · exact ld_glob (X := X.suite a ((a, oe3) :: (X.pn ++ pins))) S3 hg hm q hdbg
      · exact ld_blt (X := X.suite a ((a, oe3) :: (X.pn ++ pins))) S3 hg hm hv q hnn hdbg
    refine test (LM.here (codeAny_handlers_suite_as ?_))
    refine HandSPX.lands_againZ fl3 ?_
    intro h4 fl4 up4
    have J4 : Inv X pins σ' H' { s' with heap := h4 } := J.landed nb fl4.1 ((up.trans up3).trans up4) os ag
    obtain ⟨oe4, vs4, he4, hz4, hd4⟩ := fl4.there
    have S4 := J4.suite he4 hd4 na nL nF
    refine store_ok (X := X.suite a ((a, oe4) :: (X.pn ++ pins))) (v := .ref a) S4 hN hi (.inl hln) rfl (fun s5 S5 => ?_) (.inr hln)
    have hli : i < σ'.length := by
      rw [S4.len]
      exact (List.getElem?_eq_some_iff.mp hi).1
    refine wpAny_mono ((pss_one (ps_set (X := X.suite a ((a, oe4) :: (X.pn ++ pins))) hN hj (.inl hlj) (pe_var hi hv hdn hcn) hsw (.inr hlj))).run [] s5 _ H' (D := { nx := fun σ6 H6 => σ6 = (σ'.set i (some (.ref a))).set j (some (.ref a)) ∧ H6 = H', rt := fun _ _ => False }) S5 ?_) (fun f s6 hsp => ?_) (fun _ _ z => False.elim z)
    · exact ⟨.ref a, by rw [List.getElem?_set_self hli], rfl, rfl⟩
    · cases f with
      | next =>
        obtain ⟨σ6, H6, S6, rfl, rfl⟩ := hsp
        have K6 : Inv X ((a, oe4) :: pins) ((σ'.set i (some (.ref a))).set j (some (.ref a))) H6 s6 := ⟨ok, S6.os, S6.bare, S6.base, S6.loc, S6.cell, S6.free, S6.freeC, fun p hp => by
          refine S6.pin p (List.mem_append_left _ ?_)
          rcases List.mem_append.mp hp with z | z
          · exact List.mem_cons_of_mem _ (List.mem_append_left _ z)
          · rcases List.mem_cons.mp z with z | z
            · rw [z]
              exact List.mem_cons_self
            · exact List.mem_cons_of_mem _ (List.mem_append_right _ z), S6.hok, S6.len⟩
        exact gone_ok K6 hN hi hln fun s7 J7 => ⟨_, _, track J7 hex n0 hz4.1 hz4.2 hd4 npp, hyes a na⟩
      | ret u =>
        obtain ⟨v, σ6, H6, S6, r6, q6⟩ := hsp
        exact q6.elim
      | brk =>
        obtain ⟨σ6, H6, S6, q6⟩ := hsp
        exact q6.elim
      | cont =>
        obtain ⟨σ6, H6, S6, q6⟩ := hsp
        exact q6.elim
  · cases f with
    | next =>
      obtain ⟨σ', H', J', q⟩ := hsp
      exact wpAny_execs_nil ⟨σ', H', J'.ofTry ok, q⟩
    | brk =>
      obtain ⟨σ', H', J', q⟩ := hsp
      exact ⟨σ', H', J'.ofTry ok, q⟩
    | cont =>
      obtain ⟨σ', H', J', q⟩ := hsp
      exact ⟨σ', H', J'.ofTry ok, q⟩
    | ret u =>
      obtain ⟨v, σ', H', J', r, q⟩ := hsp
      exact ⟨v, σ', H', J'.ofTry ok, r, q⟩
end

/-! ### the same over data -/
section
variable {X : Cx} {W : Fix} {x n y : Str} {c : Value} {i j : Nat} {body : List Stmt} {np py pn pa pos pos' : Pos} {tb : (Addr → List D → Env' → Prop) → TSD}
/-- what follows a caught exception: its class, what it holds, into slot j -/
def eKeep (K : PySem.W.Frag) (c : Value) (i j : Nat) (D : EndsD) : Addr → List DD.D → Env' → Prop := fun C ds δ => ∃ d, ds = [d] ∧ PySem.W.exmOne K (.ref C) c = some true ∧ D.nx ((δ.set j (some (.p (.exc C [d])))).set i none)
def dTry (K : PySem.W.Frag) (c : Value) (i j : Nat) (tb : (Addr → List D → Env' → Prop) → TSD) : TSD := fun D δ => tb (eKeep K c i j D) D δ
theorem ds_try (hex : X.ex = []) (hs : X.stack = X.env :: X.outer) (hf : X.env.frame = some X.env.locals) (hN : X.N.Nodup) (hi : X.N[i]? = some n) (hln : X.env.kindOf n = some .local) (hj : X.N[j]? = some y) (hlj : X.env.kindOf y = some .local) (hc : Names X x c)
    (hb : ∀ (E0 : Addr → List D → Env' → Prop) (W' : Fix) (pn : List (Addr × Obj)) (xe : Value → Shared → Prop), TkE (X.tr pn xe) W' E0 → DSs (X.tr pn xe) W' body (tb E0))
    (hv : Vis X.env.scope n := by first | exact Or.inl rfl | exact Or.inr (Or.inl rfl) | exact Or.inr (Or.inr rfl)) (hdn : (n == ("__debug__" : Str)) = false := by decide) (hcn : (n == ("__classdict__" : Str)) = false := by decide) (hsw : swapsWith (.Name n pn) (some (.Name y py)) pa.line X.env = pure false := by rfl) (hij : i ≠ j := by decide) :
    DS X W (.Try body [.ExceptHandler (some (.Name x np)) (some n) [.Assign [.Name y py] (.Name n pn) pa] pos'] [] [] pos) (dTry X.K c i j tb) :=
  .of (ps_try_keep (tb := fun W D σ H => ∀ pn xe, Takes (X.tr pn xe) W → cSs (X.tr pn xe) body D σ H) hex hs hf hN hi hln hj hlj hc hv hdn hcn hsw (fun W pn xe tk => ⟨fun pins s σ H D I h => h pn xe tk pins s I⟩)) fun F H σ δ D S q pn xe tk => by
    have tk2 : Takes (X.tr pn xe) (WXd X.K (W.at F (eKeep X.K c i j D))) := tk.imp fun cls dd σ1 H1 z => by
      obtain ⟨F1, δ1, C, ds, T, ⟨rfl, er⟩, d, rfl, hm, q1⟩ := z
      rcases er with ⟨er, _⟩ | ⟨dx, v, d', e1, rfl, hx, rv⟩
      · cases er
      cases e1
      have T1 := S.outof T
      refine ⟨C, rfl, hm, fun a ha => ?_⟩
      have e2 := same_upd (o := ExcAt a C (some dx)) (T1.freshF ha)
      have T2 := T1.new (o := ExcAt a C (some dx)) ha
      have r2 : Rp X.K (upd F1 a (ExcAt a C (some dx))) (.exc C [d]) (.ref a) := by
        unfold Rp
        exact ⟨a, dx, v, [v], rfl, upd_same, e2 _ _ hx, rfl, .cons (Rp.mono e2 _ _ rv) .nil⟩
      refine ⟨upd F1 a (ExcAt a C (some dx)), (δ1.set j (some (.p (.exc C [d])))).set i none, ?_, q1⟩
      have T3 := (T2.put (i := i) (b := .p (.exc C [d])) r2 (fun z => by cases z)).put (i := j) (b := .p (.exc C [d])) r2 (fun z => by cases z)
      have eq1 : (((δ1.set i (some (B.p (.exc C [d])))).set j (some (B.p (.exc C [d])))).set i none) = ((δ1.set j (some (B.p (.exc C [d])))).set i none) := by
        rw [List.set_comm _ _ hij, List.set_set]
      rw [← eq1]
      refine (T3.drop (i := i)).slots (by rw [List.length_set]) fun k b e => ?_
      by_cases hk : k = i
      · subst hk
        have hl := (List.getElem?_eq_some_iff.mp e).1
        rw [List.length_set] at hl
        rw [List.getElem?_set_self hl] at e
        cases e
      · rw [List.getElem?_set_ne (Ne.symm hk)]
    exact ((hb (eKeep X.K c i j D) (W.at F (eKeep X.K c i j D)) pn xe ⟨rfl, tk2⟩).run F H σ δ D (S.into _) q).imp (fun _ _ z => MQ.outof S z) (fun _ _ z => UQ.outof S z) (fun _ _ z => MQ.outof S z) (fun _ _ z => MQ.outof S z)
end
end DD

set_option Elab.async false
set_option linter.all false
set_option maxRecDepth 100000
set_option maxHeartbeats 4000000
/-! DD10: repr over data. -/
namespace DD
open PySem PySem.Spec PyProof.Rows L2

def keyPy : Key → PyData
  | .inl i => .int i
  | .inr x => .str x
mutual
def toPyR : D → Option PyData
  | .non => some .none
  | .bl b => some (.bool b)
  | .int i => some (.int i)
  | .str s => some (.str s)
  | .lst ds => (toPyRL ds).map .list
  | .tup ds => (toPyRL ds).map .tuple
  | .dct ks ds => (toPyRL ds).map fun xs => .dict ((ks.map keyPy).zip xs)
  | _ => none
def toPyRL : List D → Option (List PyData)
  | [] => some []
  | d :: ds => (toPyR d).bind fun x => (toPyRL ds).map fun xs => x :: xs
end
section
variable {X : Cx} {pins : List (Addr × Obj)} {σ : L2.St} {F H : Hp} {s : Shared}
theorem sys_ne {o : HO} {a : Addr} (I : Inv X pins σ H s) (hsy : ∃ o, X.K.lookup sysModules = some o) (h : H a = some o) : a ≠ sysModules := fun z => by
  obtain ⟨o', e⟩ := hsy
  have := (I.bs _ _ (I.mod.kin _ _ e)).2
  rw [← z, h] at this
  cases this
/-- which addresses a reading may name -/
def NoSys (as : List Addr) : Prop := sysModules ∉ as
theorem KV.keys {ks : List Key} : ∀ {kvs : List (Key × V)} {vs : List (Key × Value)}, KV kvs vs → vs.map (·.1) = kvs.map (·.1)
  | _, _, .nil => rfl
  | _, _, .cons r t => by
    rw [List.map_cons, List.map_cons, r.1, KV.keys (ks := ks) t]
theorem KV.vals : ∀ {kvs : List (Key × V)} {vs : List (Key × Value)}, KV kvs vs → Vals (kvs.map (·.2)) (vs.map (·.2))
  | _, _, .nil => .nil
  | _, _, .cons r t => .cons r.2 (KV.vals t)
theorem pairs_keys {P : Program} {w : World} : ∀ {es : List DictEntry} {vs : List (Key × Value)}, Pairs (mixKind P w) es vs → ReadsAll s.heap (es.map (·.key)) ((vs.map (·.1)).map keyPy) []
  | _, _, .nil => .nil
  | _, _, .cons (kv := kv) h1 h2 t => by
    rcases keyIs_shape (show keyIs kv.1 _ = true from h1) with ⟨i, u, e1, e2⟩ | ⟨x, u, e1, e2⟩
    · have q : Reads s.heap (Value.int i u) (.int i) [] := .int i u
      rw [List.map_cons, List.map_cons, List.map_cons, e1, e2]
      exact .cons (as := []) (bs := []) q (pairs_keys t)
    · have q : Reads s.heap (Value.str x u) (.str x) [] := .str x u
      rw [List.map_cons, List.map_cons, List.map_cons, e1, e2]
      exact .cons (as := []) (bs := []) q (pairs_keys t)
theorem pairs_vals {P : Program} {w : World} : ∀ {es : List DictEntry} {vs : List (Key × Value)}, Pairs (mixKind P w) es vs → es.map (·.val) = vs.map (·.2)
  | _, _, .nil => rfl
  | _, _, .cons h1 h2 t => by rw [List.map_cons, List.map_cons, h2, pairs_vals t]
mutual
theorem Rp.reads (I : Inv X pins σ H s) (hsy : ∃ o, X.K.lookup sysModules = some o) (e : Same F H) : ∀ (d : D) (v : V) (u : Value) (c : PyData), Rp X.K F d v → toPyR d = some c → RelV v u → ∃ as, Reads s.heap u c as ∧ NoSys as
  | .non, v, u, c, h, t, r => by
    rw [rpNon h] at r
    cases r
    cases t
    exact ⟨_, .none, fun w => nomatch w⟩
  | .bl b, v, u, c, h, t, r => by
    rw [rpBl h] at r
    cases r
    cases t
    exact ⟨_, .bool b, fun w => nomatch w⟩
  | .int i, v, u, c, h, t, r => by
    rw [rpInt h] at r
    obtain ⟨tk, rfl⟩ := r
    cases t
    exact ⟨_, .int i tk, fun w => nomatch w⟩
  | .str x, v, u, c, h, t, r => by
    rw [rpStr h] at r
    obtain ⟨tk, rfl⟩ := r
    cases t
    exact ⟨_, .str x tk, fun w => nomatch w⟩
  | .lst ds, v, u, c, h, t, r => by
    obtain ⟨a, xs, rfl, h1, h2⟩ := rpLst h
    unfold toPyR at t
    cases q : toPyRL ds with
    | none =>
      rw [q] at t
      cases t
    | some cs =>
      rw [q] at t
      cases t
      cases r
      obtain ⟨its, rv, ⟨o, n, ho, hc, _, hd⟩, _⟩ := I.list (SqL.of (K := X.K) (e _ _ h1))
      obtain ⟨as, hr, hn⟩ := RpL.reads I hsy e ds xs its cs h2 q rv
      refine ⟨_, .list ho hc hd hr, fun w => ?_⟩
      rcases List.mem_cons.mp w with w | w
      · exact sys_ne I hsy (e _ _ h1) w.symm
      · exact hn w
  | .tup ds, v, u, c, h, t, r => by
    obtain ⟨a, xs, rfl, h1, h2⟩ := rpTup h
    unfold toPyR at t
    cases q : toPyRL ds with
    | none =>
      rw [q] at t
      cases t
    | some cs =>
      rw [q] at t
      cases t
      cases r
      obtain ⟨its, rv, ⟨o, ho, hc, n, hd⟩, _⟩ := I.tuple (sqT_mono e h1)
      obtain ⟨as, hr, hn⟩ := RpL.reads I hsy e ds xs its cs h2 q rv
      exact ⟨_, .tuple ho hc hd hr, hn⟩
  | .dct ks ds, v, u, c, h, t, r => by
    unfold Rp at h
    obtain ⟨a, xs, rfl, h1, h2, h3⟩ := h
    unfold toPyR at t
    cases q : toPyRL ds with
    | none =>
      rw [q] at t
      cases t
    | some cs =>
      rw [q] at t
      cases t
      cases r
      obtain ⟨_, hs, vs, kv, o, es, ep, ho, ⟨hc, _⟩, hd, _, hp, _⟩ := (show ObjOk X.prog X.w H s.heap a (.dK (ks.zip xs)) from I.hok a _ (e _ _ h1))
      have rv := KV.vals kv
      rw [← pairs_vals hp] at rv
      have hl : xs.length = ks.length := h3.symm
      have e2 : (ks.zip xs).map (·.2) = xs := by
        rw [List.map_snd_zip]
        omega
      have e1 : (ks.zip xs).map (·.1) = ks := by
        rw [List.map_fst_zip]
        omega
      rw [e2] at rv
      obtain ⟨as, hr, hn⟩ := RpL.reads I hsy e ds xs _ cs h2 q rv
      have hk := pairs_keys (s := s) hp
      rw [KV.keys (ks := []) kv, e1] at hk
      have hcl : cs.length = ks.length := by
        have a1 := RpL.length h2
        have a2 : ∀ {ds : List D} {cs : List PyData}, toPyRL ds = some cs → cs.length = ds.length := by
          intro ds
          induction ds with
          | nil =>
            intro cs h
            cases h
            rfl
          | cons d ds ih =>
            intro cs h
            unfold toPyRL at h
            cases q1 : toPyR d with
            | none =>
              rw [q1] at h
              cases h
            | some c =>
              cases q2 : toPyRL ds with
              | none =>
                rw [q1, q2] at h
                cases h
              | some cs' =>
                rw [q1, q2] at h
                cases h
                rw [List.length_cons, List.length_cons, ih q2]
        have a3 := a2 q
        omega
      have hz1 : ((ks.map keyPy).zip cs).map (·.1) = ks.map keyPy := by
        rw [List.map_fst_zip]
        rw [List.length_map]
        omega
      have hz2 : ((ks.map keyPy).zip cs).map (·.2) = cs := by
        rw [List.map_snd_zip]
        rw [List.length_map]
        omega
      refine ⟨_, .dict ho hc hd (by rw [hz1]; exact hk) (by rw [hz2]; exact hr), fun w => ?_⟩
      have w2 : sysModules ∈ a :: as := by simpa using w
      rcases List.mem_cons.mp w2 with w3 | w3
      · exact sys_ne I hsy (e _ _ h1) w3.symm
      · exact hn w3
  | .ty _, _, _, _, _, t, _ => by cases t
  | .ref _, _, _, _, _, t, _ => by cases t
  | .ins _ _ _, _, _, _, _, t, _ => by cases t
  | .iset _ _, _, _, _, _, t, _ => by cases t
  | .exc _ _, _, _, _, _, t, _ => by cases t
  | .scr _, _, _, _, _, t, _ => by cases t
theorem RpL.reads (I : Inv X pins σ H s) (hsy : ∃ o, X.K.lookup sysModules = some o) (e : Same F H) : ∀ (ds : List D) (vs : List V) (us : List Value) (cs : List PyData), RpL X.K F ds vs → toPyRL ds = some cs → Vals vs us → ∃ as, ReadsAll s.heap us cs as ∧ NoSys as
  | [], vs, us, cs, h, t, r => by
    unfold RpL at h
    subst h
    cases t
    cases r
    exact ⟨_, .nil, fun w => nomatch w⟩
  | d :: ds, vs, us, cs, h, t, r => by
    unfold RpL at h
    obtain ⟨x, vr, rfl, h1, h2⟩ := h
    unfold toPyRL at t
    cases q1 : toPyR d with
    | none =>
      rw [q1] at t
      cases t
    | some c =>
      cases q2 : toPyRL ds with
      | none =>
        rw [q1, q2] at t
        cases t
      | some cs' =>
        rw [q1, q2] at t
        cases t
        cases r with
        | cons r1 r2 =>
          obtain ⟨as, z1, n1⟩ := Rp.reads I hsy e d x _ c h1 q1 r1
          obtain ⟨bs, z2, n2⟩ := RpL.reads I hsy e ds vr _ cs' h2 q2 r2
          refine ⟨_, .cons z1 z2, fun w => ?_⟩
          rcases List.mem_append.mp w with w | w
          · exact n1 w
          · exact n2 w
end
/-- what may be shown -/
structure Shw (c : PyData) : Prop where
  sh : c.showable = true
  dp : c.depth ≤ 50
  sz : c.shown.length ≤ sizeLine
def rRepr (K : PySem.W.Frag) : List V → Hp → VK → Prop := fun xs H Q => ∃ (v : V) (c : PyData), xs = [v] ∧ (∃ (F : Hp) (d : D), Same F H ∧ Rp K F d v ∧ toPyR d = some c) ∧ Shw c ∧ Q (.str c.shown) H
theorem call_repr (gu : X.A.guards = some []) (hu : X.A.units + 64 < cLine) (hsy : ∃ o, X.K.lookup sysModules = some o) : CallR X (.builtin "repr") (rRepr X.K) := by
  intro pins s σ H xs us Q I r h
  obtain ⟨v, c, rfl, ⟨F, d, e, rd, tc⟩, sh, q⟩ := h
  cases r with
  | cons rv rr =>
    cases rr
    have fin : ∀ tk u, Q (.str c.shown) H → EP X pins σ Q (.str c.shown u) { s with toks := tk } := fun tk u q => ⟨.str c.shown, H, I.tok tk, ⟨u, rfl⟩, q⟩
    cases d with
    | non =>
      rw [rpNon rd] at rv
      cases rv
      cases tc
      exact P.repr_of_none (fin _ _ q)
    | bl b =>
      rw [rpBl rd] at rv
      cases rv
      cases tc
      exact P.repr_of_bool (fin _ _ q)
    | int i =>
      rw [rpInt rd] at rv
      obtain ⟨t, rfl⟩ := rv
      cases tc
      exact P.repr_of_int (of_decide_eq_true (show decide (i.natAbs.log2 < 1920) = true from sh.sh)) (fin _ _ q)
    | str x =>
      rw [rpStr rd] at rv
      obtain ⟨t, rfl⟩ := rv
      cases tc
      exact P.repr_of_str (fin _ _ q) sh.sz
    | lst ds =>
      obtain ⟨a, xs, rfl, h1, h2⟩ := rpLst rd
      cases rv
      obtain ⟨as, hr, hn⟩ := Rp.reads I hsy e (.lst ds) _ _ c rd tc rfl
      have hdp := sh.dp
      exact repr_of_reads' hr sh.sh (fun _ => hn) gu (by omega) (fun _ _ z => z) (fun h' u tk k => ⟨.str c.shown, H, I.kept (t' := tk) k, ⟨u, rfl⟩, q⟩) sh.sz
    | tup ds =>
      obtain ⟨a, xs, rfl, h1, h2⟩ := rpTup rd
      cases rv
      obtain ⟨as, hr, hn⟩ := Rp.reads I hsy e (.tup ds) _ _ c rd tc rfl
      have hdp := sh.dp
      exact repr_of_reads' hr sh.sh (fun _ => hn) gu (by omega) (fun _ _ z => z) (fun h' u tk k => ⟨.str c.shown, H, I.kept (t' := tk) k, ⟨u, rfl⟩, q⟩) sh.sz
    | dct ks ds =>
      have rd' := rd
      unfold Rp at rd'
      obtain ⟨a, xs, rfl, h1, h2⟩ := rd'
      cases rv
      obtain ⟨as, hr, hn⟩ := Rp.reads I hsy e (.dct ks ds) _ _ c rd tc rfl
      have hdp := sh.dp
      exact repr_of_reads' hr sh.sh (fun _ => hn) gu (by omega) (fun _ _ z => z) (fun h' u tk k => ⟨.str c.shown, H, I.kept (t' := tk) k, ⟨u, rfl⟩, q⟩) sh.sz
    | ty n => cases tc
    | ref a => cases tc
    | ins C ns ds => cases tc
    | iset S n => cases tc
    | exc C ds => cases tc
    | scr ns => cases tc
def reprG : List D → (B → Prop) → Prop := fun ds Q => ∃ d c, ds = [d] ∧ toPyR d = some c ∧ Shw c ∧ Q (.p (.str c.shown))
theorem rc_repr {K : PySem.W.Frag} : RC K (rRepr K) reprG := by
  intro W F H σ δ xs ds Q Z S r g hZ
  obtain ⟨d, c, rfl, tc, sh, q⟩ := g
  obtain ⟨y, rfl, ry⟩ := rpL1x r
  exact ⟨y, c, rfl, ⟨F, d, S.fh, ry, tc⟩, sh, hZ _ _ (mkP S (by unfold Rp; rfl) q)⟩
end

/-! ### small data are shown -/
structure Wk (n k : Nat) (c : PyData) : Prop where
  sh : c.showable = true
  dp : c.depth ≤ k
  lv : c.leavesShort 13 = true
  wt : c.weight ≤ n
theorem Wk.shw {n k : Nat} {c : PyData} (h : Wk n k c) (hk : k ≤ 50) (hn : n ≤ 2 ^ 20) : Shw c := ⟨h.sh, Nat.le_trans h.dp hk, PyData.shown_fits (by decide) (by decide) h.lv (Nat.le_trans h.wt hn)⟩
theorem Wk.mono {n k n' k' : Nat} {c : PyData} (h : Wk n k c) (hn : n ≤ n') (hk : k ≤ k') : Wk n' k' c := ⟨h.sh, Nat.le_trans h.dp hk, h.lv, Nat.le_trans h.wt hn⟩
theorem wk_non : Wk 41 0 .none := ⟨rfl, Nat.le_refl _, rfl, by decide⟩
theorem wk_bl {b : Bool} : Wk 41 0 (.bool b) := ⟨rfl, Nat.le_refl _, rfl, by show 0 ≤ 41; decide⟩
theorem log_lt {i : Int} (h : i.natAbs < 10 ^ 12) : i.natAbs.log2 < 40 := by
  by_cases h0 : i.natAbs = 0
  · rw [h0]
    decide
  · exact (Nat.log2_lt h0).mpr (Nat.lt_of_lt_of_le h (by decide))
theorem wk_int {i : Int} (h : i.natAbs < 10 ^ 12) : Wk 41 0 (.int i) := by
  have hl := log_lt h
  refine ⟨decide_eq_true (by omega), Nat.le_refl _, ?_, ?_⟩
  · show decide _ = true
    exact decide_eq_true (PyData.shown_int_le h)
  · show (if i == 0 then 0 else i.natAbs.log2 + 1) ≤ 41
    split <;> omega
theorem wk_str {x : Str} {n : Nat} (h : ∀ c ∈ x.cps.toList, c < 1114112) (hl : x.length ≤ n) : Wk n 0 (.str x) := by
  refine ⟨rfl, Nat.le_refl _, ?_, hl⟩
  simp only [PyData.leavesShort, List.all_eq_true, decide_eq_true_eq]
  intro c hc
  exact Nat.lt_of_lt_of_le (h c hc) (by decide)
theorem wk_all {n k : Nat} : ∀ {cs : List PyData}, (∀ c ∈ cs, Wk n k c) → PyData.showableAll cs = true ∧ PyData.depthAll cs ≤ k ∧ PyData.leavesShortAll 13 cs = true ∧ PyData.weightAll cs ≤ cs.length * (n + 1)
  | [], _ => ⟨rfl, Nat.zero_le _, rfl, Nat.zero_le _⟩
  | c :: cs, h => by
    obtain ⟨h1, h2, h3, h4⟩ := wk_all (cs := cs) fun d hd => h d (List.mem_cons_of_mem _ hd)
    have g := h c List.mem_cons_self
    have g4 := g.wt
    refine ⟨by simp only [PyData.showableAll, g.sh, h1, Bool.and_self], Nat.max_le.mpr ⟨g.dp, h2⟩, by simp only [PyData.leavesShortAll, g.lv, h3, Bool.and_self], ?_⟩
    show c.weight + 1 + PyData.weightAll cs ≤ (cs.length + 1) * (n + 1)
    rw [Nat.add_mul]
    omega
theorem wk_lst {n k m : Nat} {cs : List PyData} (h : ∀ c ∈ cs, Wk n k c) (hm : cs.length ≤ m) : Wk (m * (n + 1)) (k + 1) (.list cs) := by
  obtain ⟨h1, h2, h3, h4⟩ := wk_all h
  exact ⟨h1, Nat.succ_le_succ h2, h3, Nat.le_trans h4 (Nat.mul_le_mul_right _ hm)⟩
theorem wk_tup {n k m : Nat} {cs : List PyData} (h : ∀ c ∈ cs, Wk n k c) (hm : cs.length ≤ m) : Wk (m * (n + 1)) (k + 1) (.tuple cs) := by
  obtain ⟨h1, h2, h3, h4⟩ := wk_all h
  exact ⟨h1, Nat.succ_le_succ h2, h3, Nat.le_trans h4 (Nat.mul_le_mul_right _ hm)⟩
end DD

set_option Elab.async false
set_option linter.all false
set_option maxRecDepth 100000
set_option maxHeartbeats 4000000
/-! DD11: a call whose arguments are flat gives fresh lists; lists of a fresh tuple changed at the end. -/
namespace DD
open PySem PySem.Spec PyProof.Rows L2

/-! ### data without addresses -/
def litD : D → Bool
  | .non | .bl _ | .int _ | .str _ | .ty _ | .ref _ => true
  | _ => false
def litB : B → Bool
  | .p d => litD d
  | .o (.lst ds) => ds.all litD
  | .o (.iset _ _) => true
  | .u _ _ => true
  | _ => false
def scrB : B → Bool
  | .p (.scr _) => true
  | _ => false
def litE (δ : Env') : Env' := δ.map fun o => o.bind fun b => if (litB b || scrB b) = true then some b else none
/-- what stays frozen: the ground, and what never changes -/
def thin (F0 F : Hp) : Hp := fun a => match F0 a with
  | some o => some o
  | none => match F a with
    | some (.frz o u) => some (.frz o u)
    | _ => none
theorem thin_ground {F0 F : Hp} : Same F0 (thin F0 F) := fun a o h => by
  unfold thin
  rw [h]
theorem thin_some {F0 F : Hp} {a : Addr} {o : HO} (h : thin F0 F a = some o) : F0 a = some o ∨ (∃ ob u, o = .frz ob u) ∧ F a = some o := by
  unfold thin at h
  cases e : F0 a with
  | some u =>
    rw [e] at h
    exact .inl h
  | none =>
    rw [e] at h
    cases q : F a with
    | none =>
      rw [q] at h
      cases h
    | some u =>
      rw [q] at h
      cases u <;> first | (cases h; done) | skip
      rename_i ob v
      have h : some (HO.frz ob v) = some o := h
      cases h
      exact .inr ⟨⟨ob, v, rfl⟩, rfl⟩
theorem thin_free {F0 F : Hp} {a : Addr} (e : Same F0 F) (h : F a = none) : thin F0 F a = none := by
  cases q : thin F0 F a with
  | none => rfl
  | some o =>
    rcases thin_some q with z | ⟨_, z⟩
    · rw [e a o z] at h
      cases h
    · rw [h] at z
      cases z
theorem thin_frz {F0 F : Hp} {a : Addr} {o : Obj} {u : HO} (e : Same F0 F) (h : F a = some (.frz o u)) : thin F0 F a = some (.frz o u) := by
  unfold thin
  cases q : F0 a with
  | some v =>
    have := e a v q
    rw [h] at this
    cases this
    rfl
  | none => rw [h]
section
variable {K : PySem.W.Frag} {W : Fix} {F F' H H' : Hp} {σ : L2.St} {δ : Env'}
theorem lit_any {d : D} {v : V} (h : litD d = true) (r : Rp K F d v) : Rp K F' d v := by
  cases d <;> first | (cases h; done) | (unfold Rp at r ⊢; exact r)
theorem lit_all : ∀ {ds : List D} {vs : List V}, ds.all litD = true → RpL K F ds vs → RpL K F' ds vs
  | [], _, _, r => by
    unfold RpL at r ⊢
    exact r
  | d :: ds, _, h, r => by
    unfold RpL at r
    obtain ⟨x, t, rfl, h1, h2⟩ := r
    rw [List.all_cons, Bool.and_eq_true] at h
    exact .cons (lit_any h.1 h1) (lit_all h.2 h2)
theorem litE_get {i : Nat} {b : B} (h : (litE δ)[i]? = some (some b)) : δ[i]? = some (some b) ∧ (litB b || scrB b) = true := by
  unfold litE at h
  rw [List.getElem?_map] at h
  cases e : δ[i]? with
  | none =>
    rw [e] at h
    cases h
  | some o =>
    rw [e] at h
    cases o with
    | none => cases h
    | some c =>
      by_cases q : (litB c || scrB c) = true
      · have h : some (if (litB c || scrB c) = true then some c else none) = some (some b) := h
        rw [if_pos q] at h
        cases h
        exact ⟨rfl, q⟩
      · have h : some (if (litB c || scrB c) = true then some c else none) = some (some b) := h
        rw [if_neg q] at h
        cases h

/-! ### f(e, ..), flat arguments: the lists of the tuple that comes back are new -/
def lstD : D → Bool
  | .lst _ => true
  | _ => false
def freB : B → B
  | .p (.tup ds) => if ds.all lstD = true then .n ds else .p (.tup ds)
  | b => b
theorem freB_or (d : D) : freB (.p d) = .p d ∨ ∃ ds, d = .tup ds ∧ ds.all lstD = true := by
  cases d <;> first | exact .inl rfl | skip
  rename_i ds
  by_cases h : ds.all lstD = true
  · exact .inr ⟨ds, rfl, h⟩
  · refine .inl ?_
    show (if ds.all lstD = true then B.n ds else B.p (.tup ds)) = _
    rw [if_neg h]
end
section
variable {X : Cx} {W : Fix} {k : Nat} {f : Addr} {fd : FuncData} {ps : List Str} {spd : Spd} {x : Str} {p pos : Pos} {e : Expr} {es : List Expr} {t : TDA}
def dCallF (spd : Spd) (t : TDA) : TD := fun δ Q => t δ fun ds δ1 => ds.all litD = true ∧ spd (ds.map .p) (fun b _ => (∃ d, b = .p d) ∧ Q (freB b) δ1) fun _ _ _ => False
theorem Own.mono {K : PySem.W.Frag} {F F' H : Hp} {d : D} {a : Addr} (e : Same F F') (h : Own K F H d a) : Own K F' H d a := by
  cases d <;> first | exact h.elim | skip
  · obtain ⟨xs, h1, h2⟩ := h
    exact ⟨xs, h1, RpL.mono e _ _ h2⟩
  · obtain ⟨xs, h1, h2, h3⟩ := h
    exact ⟨xs, h1, RpL.mono e _ _ h2, h3⟩
  · obtain ⟨dx, xs, h1, h2, h3⟩ := h
    exact ⟨dx, xs, h1, RpL.mono e _ _ h2, h3⟩
  · exact h
/-- two heaps of frozen objects together -/
def both (F G : Hp) : Hp := fun a => match F a with
  | some o => some o
  | none => G a
theorem both_l {F G : Hp} : Same F (both F G) := fun a o h => by
  unfold both
  rw [h]
theorem both_r {F G : Hp} (h : ∀ a o, G a = some o → F a = none) : Same G (both F G) := fun a o e => by
  unfold both
  rw [h a o e]
  exact e
theorem de_callF (G : GnOk X.prog X.w X.K X.mg X.base k f fd ps (toSp X.K spd)) (gu : X.A.guards = some []) (hr : Room k X.A) (hg : Gl X x) (hm : X.mg x = some (.ref f)) (hk : PySem.W.keepIn X.K (.ref f) = true)
    (hb : Binds X.K fd ps []) (h : DA X W (e :: es) t) (hdb : (x == ("__debug__" : Str)) = false := by decide)
    (he : starEach (e :: es) X.env = (false, eval e X.env) :: starEach es X.env := by rfl) (hpl : (backTo pos (starEach es X.env)).any (·.1) = false := by rfl) :
    DE X W (.Call (.Name x p) (e :: es) [] pos) (dCallF spd t) :=
  .of (pe_callG (Es := fun _ _ _ _ => False) G gu hr hg hm hk hb .nil (fun σ => pass_none) cA_pa hdb he hpl) fun F H σ δ Q S q => by
    refine (h.run F H σ δ _ S q).imp fun vs H1 h1 => ?_
    obtain ⟨F1, ds, δ1, e1, S1, r1, hfl, q1⟩ := h1
    rw [List.append_nil]
    refine ⟨fun _ => none, none, _, _, _, (fun a o z => by cases z), paired_p (lit_all hfl r1), (fun p e => by cases e), q1, fun v H' F' b m a r z => ?_, fun cls d H' F' C ds m a er z => z.elim⟩
    obtain ⟨⟨d, rfl⟩, qb⟩ := z
    have newF : ∀ a o, F' a = some o → H1 a = none := fun c o z => by
      rcases a.new c o z with y | y
      · cases y
      · exact y
    have dis : ∀ a o, F' a = some o → F1 a = none := fun c o z => S1.freshF (newF c o z)
    have aB : Aft F1 H1 none m (both F1 F') H' := {
      ff := both_l
      fh := fun c o z => by
        unfold both at z
        cases y : F1 c with
        | none =>
          rw [y] at z
          exact a.fh c o z
        | some u =>
          rw [y] at z
          cases z
          exact a.keep c o (S1.fh c o y) (fun z => by cases z)
      keep := a.keep
      new := fun c o z => by
        unfold both at z
        cases y : F1 c with
        | none =>
          rw [y] at z
          exact .inr (newF c o z)
        | some u =>
          rw [y] at z
          exact .inl z
      pur := fun p e => by cases e }
    have S2 := S1.after aB
    have sB : Same F' (both F1 F') := both_r dis
    have r : Rp X.K F' d v := r
    refine ⟨both F1 F', freB (.p d), δ1, e1.trans both_l, S2, ?_, ?_, qb⟩
    · have rr := Rp.mono sB _ _ r
      rcases freB_or d with e | ⟨ds', rfl, e⟩
      · rw [e]
        exact rr
      show RB X.K W _ _ (if ds'.all lstD = true then .n ds' else .p (.tup ds')) v
      by_cases hl : ds'.all lstD = true
      · rw [if_pos hl]
        obtain ⟨c, xs, rfl, h2, h3⟩ := rpTup r
        refine ⟨c, xs, rfl, sqT_mono sB h2, RpL.mono sB _ _ h3, fun a' ha' => ?_⟩
        have key : ∀ {ds : List D} {xs : List V}, ds.all lstD = true → RpL X.K F' ds xs → V.ref a' ∈ xs → ∃ ys, F' a' = some (.lst ys) := by
          intro ds
          induction ds with
          | nil =>
            intro xs _ r hm
            unfold RpL at r
            rw [r] at hm
            cases hm
          | cons d ds ih =>
            intro xs hl r hm
            unfold RpL at r
            obtain ⟨y, t, rfl, r1, r2⟩ := r
            rw [List.all_cons, Bool.and_eq_true] at hl
            rcases List.mem_cons.mp hm with z | z
            · cases d <;> first | (cases hl.1; done) | skip
              obtain ⟨b, ys, e, g1, _⟩ := rpLst r1
              rw [← z] at e
              cases e
              exact ⟨ys, g1⟩
            · exact ih hl.2 r2 z
        obtain ⟨ys, hy⟩ := key hl h3 ha'
        exact ⟨⟨ys, sB _ _ hy⟩, S1.fresh0 (newF a' _ hy)⟩
      · rw [if_neg hl]
        exact Rp.mono sB _ _ r
    · intro ho
      exfalso
      rcases freB_or d with e | ⟨ds', rfl, e⟩
      · rw [e] at ho
        cases ho
      have ho : (if ds'.all lstD = true then B.n ds' else B.p (.tup ds')).own = true := ho
      by_cases hl : ds'.all lstD = true
      · rw [if_pos hl] at ho
        cases ho
      · rw [if_neg hl] at ho
        cases ho
end

/-! ### lists of a fresh tuple, changed when nothing reads them any more -/
/-- as SD, but for some new lists of F that were changed; at most m items each -/
structure SX (K : PySem.W.Frag) (W : Fix) (m : Nat) (F H : Hp) (σ : L2.St) (δ : Env') : Prop where
  ex : ∃ Ho, SD K W F Ho σ δ ∧ ∀ b, H b = Ho b ∨ (W.H0 b = none ∧ (∃ ys, F b = some (.lst ys)) ∧ ∃ zs, H b = some (.lst zs) ∧ zs.length ≤ m)
section
variable {K : PySem.W.Frag} {W : Fix} {F H : Hp} {σ : L2.St} {δ : Env'} {m : Nat}
theorem SX.done (S : SX K W m F H σ δ) (hW : Same W.F0 W.H0) : SD K W (thin W.F0 F) H σ (litE δ) := by
  obtain ⟨Ho, S, hb⟩ := S.ex
  have keep : ∀ b o, Ho b = some o → (W.H0 b = none → F b = none) → H b = some o := fun b o e n => by
    rcases hb b with z | ⟨z1, ⟨ys, z2⟩, _⟩
    · rw [z]
      exact e
    · rw [n z1] at z2
      cases z2
  have keep0 : ∀ b o, W.H0 b = some o → Ho b = some o → H b = some o := fun b o e q => keep b o q fun z => by
    rw [z] at e
    cases e
  refine ⟨thin_ground, fun b o e n => keep0 b o e (S.h0 b o e n), fun b o e => ?_, fun b o e => ?_, fun b e => ?_, ?_, fun i b e => ?_, fun i j b c v ne h1 h2 h3 h4 h5 => S.sep i j b c v ne (litE_get h1).1 h2 (litE_get h3).1 h4 h5⟩
  · rcases thin_some e with z | ⟨⟨ob, u, rfl⟩, z⟩
    · exact keep0 b o (hW b o z) (S.fh b o (S.f0 b o z))
    · rcases hb b with q | ⟨_, ⟨ys, q⟩, _⟩
      · exact q.trans (S.fh _ _ z)
      · rw [z] at q
        cases q
  · rcases thin_some e with z | ⟨_, z⟩
    · exact .inl z
    · exact S.fr b o z
  · obtain ⟨h1, ⟨o, h2⟩, o', h3⟩ := S.fp b e
    refine ⟨thin_free S.f0 h1, ?_, o', h3⟩
    rcases hb b with z | ⟨z, _⟩
    · exact ⟨o, z.trans h2⟩
    · rw [z] at h3
      cases h3
  · rw [S.len]
    unfold litE
    rw [List.length_map]
  · obtain ⟨e1, e2⟩ := litE_get e
    obtain ⟨v, h1, h2⟩ := S.get i b e1
    refine ⟨v, h1, ?_⟩
    cases b with
    | p d =>
      rcases Bool.or_eq_true_iff.mp e2 with e3 | e3
      · exact lit_any e3 h2
      · cases d <;> first | (cases e3; done) | skip
        rename_i ns
        have h2 : Rp K F (.scr ns) v := h2
        show Rp K (thin W.F0 F) (.scr ns) v
        unfold Rp at h2 ⊢
        obtain ⟨a, rfl, h4⟩ := h2
        exact ⟨a, rfl, h4.mono fun o q => thin_frz S.f0 q⟩
    | n ds => cases e2
    | u w n =>
      obtain ⟨p, x, y, z, rfl, g1, g2, g3, g4⟩ := h2
      exact ⟨p, x, y, z, rfl, thin_free S.f0 g1, g2, keep p _ g3 (fun _ => g1), g4⟩
    | s d => cases e2
    | o d =>
      obtain ⟨a, rfl, g1, g2, g3⟩ := h2
      refine ⟨a, rfl, thin_free S.f0 g1, g2, ?_⟩
      cases d <;> first | (cases e2; done) | skip
      · obtain ⟨xs, g4, g5⟩ := g3
        exact ⟨xs, keep a _ g4 (fun _ => g1), lit_all (by simpa [litB, scrB] using e2) g5⟩
      · exact keep a _ g3 (fun _ => g1)
theorem SX.init (S : SD K W F H σ δ) : SX K W m F H σ δ := ⟨H, S, fun b => .inl rfl⟩
theorem SX.change {m' : Nat} {a : Addr} {ys zs : List V} (S : SX K W m F H σ δ) (hF : F a = some (.lst ys)) (h0 : W.H0 a = none) (hz : zs.length ≤ m') (hm : m ≤ m') : SX K W m' F (upd H a (.lst zs)) σ δ := by
  obtain ⟨Ho, S, hb⟩ := S.ex
  refine ⟨Ho, S, fun b => ?_⟩
  by_cases e : b = a
  · subst e
    exact .inr ⟨h0, ⟨ys, hF⟩, zs, upd_same, hz⟩
  · rw [upd_ne e]
    rcases hb b with z | ⟨z1, z2, zs', z3, z4⟩
    · exact .inl z
    · exact .inr ⟨z1, z2, zs', z3, Nat.le_trans z4 hm⟩
theorem SX.item {i : Nat} {ds d1 : List D} {k : Int} (S : SX K W m F H σ δ) (hi : δ[i]? = some (some (.n ds))) (hk : atI ds k = some (.lst d1)) (hl : d1.length ≤ m) :
    ∃ t xs a zs ys, σ[i]? = some (some (.ref t)) ∧ SqT K H t xs ∧ atI xs k = some (.ref a) ∧ H a = some (.lst zs) ∧ zs.length ≤ m ∧ F a = some (.lst ys) ∧ W.H0 a = none := by
  obtain ⟨Ho, S, hb⟩ := S.ex
  obtain ⟨v, e1, t, xs, rfl, h2, h3, h4⟩ := S.get i _ hi
  obtain ⟨v, h5, h6⟩ := rpL_atI h3 hk
  obtain ⟨a, ys, rfl, h7, h8⟩ := rpLst h6
  have hmem : V.ref a ∈ xs := by
    unfold atI at h5
    cases q : ixN xs.length k with
    | none =>
      rw [q] at h5
      cases h5
    | some j =>
      rw [q] at h5
      exact List.mem_of_getElem? h5
  have tk : ∀ o, F t = some o → (∀ ys, o ≠ .lst ys) → H t = some o := fun o e n => by
    rcases hb t with z | ⟨_, ⟨ys, z⟩, _⟩
    · exact z.trans (S.fh _ _ e)
    · rw [e] at z
      exact absurd (Option.some.inj z) (n ys)
  have hq : SqT K H t xs := by
    rcases h2 with (g | ⟨o, g⟩) | g
    · exact .inl (.inl (tk _ g fun ys z => by cases z))
    · exact .inl (.inr ⟨o, tk _ g fun ys z => by cases z⟩)
    · exact .inr g
  rcases hb a with z | ⟨_, _, zs, z3, z4⟩
  · exact ⟨t, xs, a, ys, ys, e1, hq, h5, z.trans (S.fh _ _ h7), by rw [h8.length]; exact hl, h7, (h4 a hmem).2⟩
  · exact ⟨t, xs, a, zs, ys, e1, hq, h5, z3, z4, h7, (h4 a hmem).2⟩
end
/-- a statement that changes item k of the tuple in slot i -/
def Spoils (X : Cx) (i : Nat) (k : Int) (st : Stmt) : Prop := ∀ (W : Fix) (m : Nat) (F H : Hp) (σ : L2.St) (δ : Env') (ds d1 : List D), SX X.K W m F H σ δ → δ[i]? = some (some (.n ds)) → atI ds k = some (.lst d1) → d1.length ≤ m → m + 1 ≤ sizeLine →
  cS X st { nx := fun σ' H' => σ' = σ ∧ SX X.K W (m + 1) F H' σ δ, rt := fun _ _ => False } σ H
section
variable {X : Cx} {x : Str} {i : Nat} {k : Int} {e : Expr} {c : V} {p p1 p2 apos cpos pos : Pos} {j : Nat}
theorem sp_append (hN : X.N[i]? = some x) (hv : Vis X.env.scope x) (he : PE X e (tC c)) (hd : (x == ("__debug__" : Str)) = false := by decide) (hcd : (x == ("__classdict__" : Str)) = false := by decide)
    (hpe : ∀ (o : TE) (ta : TE), PE X (.Subscript (.Name x p) (.Constant (.int k) j p1) p2) o → PE X e ta → PE X (.Call (.Attribute (.Subscript (.Name x p) (.Constant (.int k) j p1) p2) "append" apos) [e] [] cpos) (tBM X.K "list" rAppend o (tCons ta tNil)))
    (hs : swapsWith (.Call (.Attribute (.Subscript (.Name x p) (.Constant (.int k) j p1) p2) "append" apos) [e] [] cpos) none pos.line X.env = pure false := by rfl) :
    Spoils X i k (.Expr (.Call (.Attribute (.Subscript (.Name x p) (.Constant (.int k) j p1) p2) "append" apos) [e] [] cpos) pos) := by
  intro W m F H σ δ ds d1 S hi hk hl hm
  obtain ⟨t, xs, a, zs, ys, e1, hq, h5, h6, h7, h8, h9⟩ := S.item hi hk hl
  refine cS_of (ps_expr (hpe _ _ (pe_ix ix_seq (pe_var hN hv hd hcd) pe_int (fun _ _ => rfl)) he) hs) ?_
  refine ⟨_, e1, .inr (.inl ⟨t, xs, k, .ref a, rfl, rfl, hq, h5, ?_⟩)⟩
  refine ⟨.inl ⟨rfl, zs, SqL.of h6⟩, a, zs, c, rfl, rfl, h6, by omega, rfl, S.change h8 h9 ?_ (Nat.le_succ m)⟩
  rw [List.length_append, List.length_singleton]
  omega
theorem sp_clear (hN : X.N[i]? = some x) (hv : Vis X.env.scope x) (hd : (x == ("__debug__" : Str)) = false := by decide) (hcd : (x == ("__classdict__" : Str)) = false := by decide)
    (hpe : ∀ (o : TE), PE X (.Subscript (.Name x p) (.Constant (.int k) j p1) p2) o → PE X (.Call (.Attribute (.Subscript (.Name x p) (.Constant (.int k) j p1) p2) "clear" apos) [] [] cpos) (tBM0 X.K "list" rClear o))
    (hs : swapsWith (.Call (.Attribute (.Subscript (.Name x p) (.Constant (.int k) j p1) p2) "clear" apos) [] [] cpos) none pos.line X.env = pure false := by rfl) :
    Spoils X i k (.Expr (.Call (.Attribute (.Subscript (.Name x p) (.Constant (.int k) j p1) p2) "clear" apos) [] [] cpos) pos) := by
  intro W m F H σ δ ds d1 S hi hk hl hm
  obtain ⟨t, xs, a, zs, ys, e1, hq, h5, h6, h7, h8, h9⟩ := S.item hi hk hl
  refine cS_of (ps_expr (hpe _ (pe_ix ix_seq (pe_var hN hv hd hcd) pe_int (fun _ _ => rfl))) hs) ?_
  refine ⟨_, e1, .inr (.inl ⟨t, xs, k, .ref a, rfl, rfl, hq, h5, ?_⟩)⟩
  exact ⟨.inl ⟨rfl, zs, SqL.of h6⟩, a, zs, rfl, rfl, h6, rfl, S.change h8 h9 (Nat.zero_le _) (Nat.le_succ m)⟩
variable {W : Fix} {k' : Int} {s1 s2 : Stmt} {rest : List Stmt} {u : TSD}
def dSpoil (i : Nat) (k k' : Int) (u : TSD) : TSD := fun Z δ => ∃ ds d1 d2, δ[i]? = some (some (.n ds)) ∧ atI ds k = some (.lst d1) ∧ atI ds k' = some (.lst d2) ∧ d1.length + 2 ≤ sizeLine ∧ d2.length + 2 ≤ sizeLine ∧ u Z (litE δ)
theorem dss_spoil (hW : Same W.F0 W.H0) (h1 : Spoils X i k s1) (h2 : Spoils X i k' s2) (hr : DSs X W rest u) : DSs X W (s1 :: s2 :: rest) (dSpoil i k k' u) := by
  refine ⟨fun F H σ δ Z S q pins s I => ?_⟩
  obtain ⟨ds, d1, d2, hi, ha, hb, l1, l2, q⟩ := q
  have hm : ∃ m, d1.length ≤ m ∧ d2.length ≤ m ∧ m + 2 ≤ sizeLine := ⟨max d1.length d2.length, Nat.le_max_left .., Nat.le_max_right .., by omega⟩
  obtain ⟨m, m1, m2, m3⟩ := hm
  refine (pss_cons (X := X) cS_ps (pss_cons cS_ps cSs_pss)).run pins s σ H _ I ?_
  refine (h1 W m F H σ δ ds d1 (.init S) hi ha m1 (by omega)).imp (fun σ1 H1 z => ?_) (fun _ _ z => z.elim) (fun _ _ z => z.elim) fun _ _ z => z.elim
  obtain ⟨rfl, S1⟩ := z
  refine (h2 W (m + 1) F H1 _ δ ds d2 S1 hi hb (by omega) (by omega)).imp (fun σ2 H2 z => ?_) (fun _ _ z => z.elim) (fun _ _ z => z.elim) fun _ _ z => z.elim
  obtain ⟨rfl, S2⟩ := z
  exact hr.run (thin W.F0 F) _ _ (litE δ) Z (S2.done hW) q
end
end DD

set_option Elab.async false
set_option linter.all false
set_option maxRecDepth 100000
set_option maxHeartbeats 4000000
/-! DD12: enumerate over data. -/
namespace DD
open PySem PySem.Spec PyProof.Rows L2

/-- enumerate(x), x a text -/
def Itx (x : Str) : It :=
  ⟨fun i _ => i < x.cps.size, fun i H v H' => ∃ T c, v = .ref T ∧ H T = none ∧ H' = upd H T (.tup [.int (i : Nat), .str ⟨#[c]⟩]) ∧ x.cps[i]? = some c, fun i _ => x.cps.size ≤ i⟩
theorem draws_str {prog : Program} {w : World} {A : Around} (hh : A.handled = none) (it : Addr) (x : Str) (t : Tok) :
    Draws prog w A it [it] x.cps.size (fun i v => ∃ c u, x.cps[i]? = some c ∧ v = .str ⟨#[c]⟩ u) (fun i h => h.IsStrIter it (strIterType x) x t i) := by
  unfold strIterType
  split
  · exact Draws.strAscii hh it x t
  · exact Draws.strWide hh it x t
theorem draws_end {prog : Program} {w : World} {A : Around} (hh : A.handled = none) (it : Addr) (x : Str) (t : Tok) (i : Nat) (hi : x.cps.size ≤ i) :
    Draws prog w A it [it] i (fun _ _ => False) (fun j h => j = i ∧ h.IsStrIter it (strIterType x) x t i) where
  live := fun _ _ st => by
    obtain ⟨_, o, ho, _⟩ := st
    exact ⟨o, ho⟩
  frame := fun _ _ _ st hk => by
    obtain ⟨e, o, ho, r⟩ := st
    exact ⟨e, o, hk it (by simp) o ho, r⟩
  item := fun j s Q E hj st hQ => absurd st.1 (Nat.ne_of_lt hj)
  done := fun s Q E st hE => by
    obtain ⟨_, st⟩ := st
    have hn : x.cps[i]? = none := by simpa using hi
    unfold strIterType at st
    split at st
    · exact wpAny_nextOf_ascii_end hh st hn hE
    · exact wpAny_nextOf_wide_end hh st hn hE
theorem turn_enumT {P : Program} {w : World} {K : PySem.W.Frag} {elts : List Expr} {kk : Nat} {tpos : Pos} (x : Str) (t : Tok) (e it : Addr) :
    Turn P w K (.Tuple elts kk tpos) (Itx x) [e, it] e (fun i h => (∃ old, IsEnum h e it ((i : Nat) : Int) old) ∧ h.IsStrIter it (strIterType x) x t i ∧ e ≠ it) where
  mem := by simp
  obj := fun i h st b hb => by
    obtain ⟨⟨old, he⟩, ⟨o, ho, hc, hd⟩, _⟩ := st
    have e' : b = e ∨ b = it := by simpa using hb
    rcases e' with z | z
    · rw [z]
      exact ⟨_, he, fun v q => nomatch q⟩
    · rw [z]
      exact ⟨o, ho, fun v q => by rw [hd] at q; cases q⟩
  keep := fun i h h' st k => by
    obtain ⟨⟨old, he⟩, ⟨o, ho, r⟩, hne⟩ := st
    exact ⟨⟨old, k e (by simp) _ he⟩, ⟨o, k it (by simp) o ho, r⟩, hne⟩
  item := by
    intro X hP hw hK hc i pins s σ H E I hf st hg
    subst hP hw hK
    obtain ⟨⟨old, he⟩, hit, hne⟩ := st
    have hel : e < s.heap.objs.size := Heap.lt_size he
    have hil : it < s.heap.objs.size := by
      obtain ⟨_, q, _⟩ := hit
      exact Heap.lt_size q
    refine wpAny_pyNext_enum_itemD (draws_str (show X.A.in1.handled = none from I.ok.hd hc) it x t) he hit hg hne (by simpa using hne) fun v h' tk hP ho hit' hT hsz hk => ?_
    obtain ⟨c, u, hx, rfl⟩ := hP
    refine ⟨_, rfl, wpAny_letOwnedTupleGo_enum (s := { s with heap := h', toks := tk + 1 }) ho fun h'' he' sb => ?_⟩
    have hT2 : h''.get? s.heap.objs.size = some { cls := .type "tuple", data := .seq #[.int i tk, .str ⟨#[c]⟩ u] } := (sb.2 _ (Nat.ne_of_gt hel)).trans hT
    have new : ObjOk X.prog X.w (upd H s.heap.objs.size (.tup [.int (i : Nat), .str ⟨#[c]⟩])) h'' s.heap.objs.size (.tup [.int (i : Nat), .str ⟨#[c]⟩]) :=
      ⟨by show 2 ≤ sizeLine; decide, [.int i tk, .str ⟨#[c]⟩ u], .cons ⟨_, rfl⟩ (.cons ⟨u, rfl⟩ .nil), ⟨_, hT2, rfl, _, rfl⟩⟩
    have I1 : Inv X pins σ (upd H s.heap.objs.size (.tup [.int (i : Nat), .str ⟨#[c]⟩])) { s with heap := h'', toks := tk + 1 } :=
      I.turnedNew (ch := [e, it]) (fun b ob hb q => (sb.2 b (fun z => hb (by simp [z]))).trans (hk b ob (fun z => hb (by simp [z])) (fun z => hb (by simp [z])) q)) hf (Nat.le_refl _) new
    refine ⟨.ref s.heap.objs.size, _, I1, rfl, ⟨_, c, rfl, I.hok.fresh (Nat.le_refl _), rfl, hx⟩, ⟨⟨.str ⟨#[c]⟩ u, ?_⟩, ?_, hne⟩, fun b hb => ?_⟩
    · have e1 : ((i + 1 : Nat) : Int) = (i : Int) + 1 := by omega
      rw [e1]
      exact he'
    · obtain ⟨o, q, r⟩ := hit'
      exact ⟨o, (sb.2 it (Ne.symm hne)).trans q, r⟩
    · have hb' : b < s.heap.objs.size := by
        have e' : b = e ∨ b = it := by simpa using hb
        rcases e' with z | z
        · rw [z]
          exact hel
        · rw [z]
          exact hil
      rw [upd_ne (Nat.ne_of_lt hb')]
      exact (hf b hb).1
  done := by
    intro X hP hw hK hc i pins s σ H E I hf st hg
    subst hP hw hK
    obtain ⟨⟨old, he⟩, hit, hne⟩ := st
    obtain ⟨f0, f1, f2, f3, f4, f5⟩ := hf it (by simp)
    exact wpAny_pyNext_enum_endD (draws_end (show X.A.in1.handled = none from I.ok.hd hc) it x t i hg) he ⟨rfl, hit⟩ fun h' eb => ⟨rfl, I.turned (t' := s.toks) (fun b o hb q => eb b o hb q) f0 f1 f3 f4 f5⟩
  self := fun A i s Q E st h => let ⟨⟨_, he⟩, _⟩ := st; wpAny_pyIter_enum he h

/-- the items with their places -/
def enumD : Nat → List D → List D
  | _, [] => []
  | k, d :: ds => .tup [.int (k : Nat), d] :: enumD (k + 1) ds
theorem enumD_get : ∀ {ds : List D} {k i : Nat}, (enumD k ds)[i]? = (ds[i]?).map fun d => .tup [.int ((k + i : Nat) : Int), d]
  | [], _, _ => by simp [enumD]
  | d :: ds, k, 0 => by simp [enumD]
  | d :: ds, k, i + 1 => by
    show (enumD (k + 1) ds)[i]? = _
    rw [enumD_get, List.getElem?_cons_succ]
    have e : k + 1 + i = k + (i + 1) := by omega
    rw [e]
theorem enumD_len : ∀ {ds : List D} {k : Nat}, (enumD k ds).length = ds.length
  | [], _ => rfl
  | d :: ds, k => by
    show (enumD (k + 1) ds).length + 1 = _
    rw [enumD_len]
    rfl
theorem yield_new {K : PySem.W.Frag} {W : Fix} {F H : Hp} {σ : L2.St} {δ : Env'} {T : Addr} {i : Nat} {x : V} {d : D} (S : SD K W F H σ δ) (hT : H T = none) (r : Rp K F d x) :
    ∃ F'', Same F F'' ∧ SD K W F'' (upd H T (.tup [.int (i : Nat), x])) σ δ ∧ Rp K F'' (.tup [.int (i : Nat), d]) (.ref T) ∧ ∀ b o, H b = some o → (upd H T (.tup [.int (i : Nat), x])) b = some o := by
  have e := same_upd (o := .tup [.int (i : Nat), x]) (S.freshF hT)
  refine ⟨_, e, S.new hT, ?_, same_upd hT⟩
  unfold Rp
  exact ⟨T, _, rfl, .inl (.inl upd_same), .cons (by unfold Rp; rfl) (.cons (Rp.mono e _ _ r) .nil)⟩
theorem yields_enumT {K : PySem.W.Frag} {F : Hp} {x : Str} : Yields K F (Itx x) (enumD 0 (signs x)) := by
  intro W F' H' σ δ i S e
  have hs : (signs x)[i]? = (x.cps[i]?).map fun c => D.str ⟨#[c]⟩ := by
    unfold signs
    rw [List.getElem?_map, Array.getElem?_toList]
  refine ⟨fun d hd => ?_, fun hn => ?_⟩
  · rw [enumD_get, hs] at hd
    cases hc : x.cps[i]? with
    | none =>
      rw [hc] at hd
      cases hd
    | some c =>
      rw [hc] at hd
      have hi : i < x.cps.size := (Array.getElem?_eq_some_iff.mp hc).1
      refine ⟨hi, fun y H'' hy => ?_⟩
      obtain ⟨T, c', rfl, hT, rfl, hc'⟩ := hy
      rw [hc] at hc'
      cases hc'
      have hd : some (D.tup [.int ((0 + i : Nat) : Int), .str ⟨#[c]⟩]) = some d := hd
      cases hd
      rw [Nat.zero_add]
      exact yield_new S hT (by unfold Rp; rfl)
  · have := List.getElem?_eq_none_iff.mp hn
    rw [enumD_len] at this
    unfold signs at this
    rw [List.length_map, Array.length_toList] at this
    exact this
theorem yields_enumL {K : PySem.W.Frag} {F : Hp} {a : Addr} {xs : List V} {ds : List D} (h : F a = some (.lst xs)) (r : RpL K F ds xs) : Yields K F (Ite K a) (enumD 0 ds) := by
  intro W F' H' σ δ i S e
  have h1 : SqL K H' a xs := SqL.of (S.fh _ _ (e _ _ h))
  refine ⟨fun d hd => ?_, fun hn => ?_⟩
  · rw [enumD_get] at hd
    cases hc : ds[i]? with
    | none =>
      rw [hc] at hd
      cases hd
    | some d0 =>
      rw [hc] at hd
      have hd : some (D.tup [.int ((0 + i : Nat) : Int), d0]) = some d := hd
      cases hd
      obtain ⟨x, hx, rx⟩ := r.get hc
      refine ⟨⟨xs, x, h1, hx⟩, fun y H'' hy => ?_⟩
      obtain ⟨T, x', rfl, hT, rfl, hy⟩ := hy
      have := hy xs h1
      rw [hx] at this
      cases this
      rw [Nat.zero_add]
      exact yield_new S hT (Rp.mono e _ _ rx)
  · refine ⟨xs, h1, ?_⟩
    have := List.getElem?_eq_none_iff.mp hn
    rw [enumD_len] at this
    rw [r.length]
    exact this
/-- enumerate(e): a text or a list -/
def tEnum (K : PySem.W.Frag) (ta : TA) : TI := fun σ H R => ta σ H fun vs H1 => (∃ x, vs = [.str x] ∧ R (Itx x) H1) ∨ ∃ a xs, vs = [.ref a] ∧ SqL K H1 a xs ∧ R (Ite K a) H1
theorem pi_enumA {X : Cx} {e : Expr} {ta : TA} {p pos tpos : Pos} {elts : List Expr} {kk : Nat} (hg : Gl X "enumerate") (hm : X.mg "enumerate" = none) (ha : PA X [e] ta) (hs : starEach [e] X.env = [(false, eval e X.env)] := by rfl) :
    PI X (.Tuple elts kk tpos) (.Call (.Name "enumerate" p) [e] [] pos) (tEnum X.K ta) := by
  refine ⟨fun pins s σ H R I h => ?_⟩
  refine Call_ (ld_blt I hg hm boot_enumerate (PyProof.Rows.callWith_type1 (thn (ha.run pos pins s σ H _ I h) fun us s1 ⟨vs, H1, I1, r1, q1⟩ => ?_) hs rfl))
  have fp2 : ∀ b ∈ [s1.heap.objs.size + 1, s1.heap.objs.size], s1.heap.objs.size ≤ b := fun b hb => by
    have e' : b = s1.heap.objs.size + 1 ∨ b = s1.heap.objs.size := by simpa using hb
    rcases e' with z | z
    · rw [z]
      exact Nat.le_succ _
    · rw [z]
      exact Nat.le_refl _
  rcases q1 with ⟨x, rfl, q⟩ | ⟨a, xs, rfl, hq, q⟩
  · cases r1 with
    | cons r rr =>
      cases rr
      obtain ⟨t, rfl⟩ := r
      refine call_enumerate_str fun h' he hit hsz hk => wpAny_pyIter_enum he ?_
      have I2 : Inv X pins σ H1 { s1 with heap := h' } := I1.kept (t' := s1.toks) hk
      exact ⟨s1.heap.objs.size + 1, [s1.heap.objs.size + 1, s1.heap.objs.size], _, _, H1, rfl, I2, turn_enumT x t (s1.heap.objs.size + 1) s1.heap.objs.size, ⟨⟨.none, he⟩, hit, Nat.succ_ne_self _⟩, fun b hb => I1.fpOk (fp2 b hb) (I1.hok.fresh (fp2 b hb)), q⟩
  · cases r1 with
    | cons r rr =>
      cases rr
      cases r
      obtain ⟨its, rv, p', hz⟩ := I1.list hq
      refine call_enumerate_list p'.isList fun h' he hit hsz hk => wpAny_pyIter_enum he ?_
      have I2 : Inv X pins σ H1 { s1 with heap := h' } := I1.kept (t' := s1.toks) hk
      exact ⟨s1.heap.objs.size + 1, [s1.heap.objs.size + 1, s1.heap.objs.size], _, _, H1, rfl, I2, turn_enum a (s1.heap.objs.size + 1) s1.heap.objs.size, ⟨⟨.none, he⟩, hit, Nat.succ_ne_self _⟩, fun b hb => I1.fpOk (fp2 b hb) (I1.hok.fresh (fp2 b hb)), q⟩
def iEnumD (t : TDA) : TDI := fun δ Q => t δ fun ds δ1 => (∃ x, ds = [.str x] ∧ Q (enumD 0 (signs x)) δ1) ∨ ∃ es, ds = [.lst es] ∧ Q (enumD 0 es) δ1
theorem di_enum {X : Cx} {W : Fix} {e : Expr} {t : TDA} {p pos tpos : Pos} {elts : List Expr} {kk : Nat} (hg : Gl X "enumerate") (hm : X.mg "enumerate" = none) (h : DA X W [e] t) (hs : starEach [e] X.env = [(false, eval e X.env)] := by rfl) :
    DI X W (.Tuple elts kk tpos) (.Call (.Name "enumerate" p) [e] [] pos) (iEnumD t) := by
  refine ⟨fun F H σ δ Q S q pins s I => (pi_enumA (X := X) (ta := cA X [e]) hg hm cA_pa hs).run pins s σ H _ I ?_⟩
  refine (h.run F H σ δ _ S q).imp fun vs H1 h1 => ?_
  obtain ⟨F1, ds, δ1, e1, S1, r1, q1⟩ := h1
  rcases q1 with ⟨x, rfl, q1⟩ | ⟨es, rfl, q1⟩
  · obtain ⟨v, rfl, rv⟩ := rpL1 r1
    exact .inl ⟨x, by rw [rpStr rv], F1, _, δ1, e1, S1, yields_enumT, q1⟩
  · obtain ⟨v, rfl, rv⟩ := rpL1 r1
    obtain ⟨a, xs, rfl, h2, h3⟩ := rpLst rv
    exact .inr ⟨a, xs, rfl, SqL.of (S1.fh _ _ h2), F1, _, δ1, e1, S1, yields_enumL h2 h3, q1⟩
end DD

set_option Elab.async false
set_option linter.all false
set_option maxRecDepth 100000
set_option maxHeartbeats 4000000
/-! DD13: several new objects at once: a, b = x, y; a dict of one pair. -/
namespace DD
open PySem PySem.Spec PyProof.Rows L2

/-- values with what is known of them; what is one's own is nobody else's -/
structure BsAt (K : PySem.W.Frag) (W : Fix) (F H : Hp) (σ : L2.St) (δ : Env') (bs : List B) (vs : List V) : Prop where
  rb : Paired (RB K W F H) bs vs
  off : ∀ (i : Nat) (b : B) (v : V), bs[i]? = some b → vs[i]? = some v → b.own = true → ∀ (j : Nat) (c : B), δ[j]? = some (some c) → c.own = true → σ[j]? ≠ some (some v)
  sep : ∀ (i j : Nat) (b c : B) (v : V), i ≠ j → bs[i]? = some b → b.own = true → bs[j]? = some c → c.own = true → vs[i]? = some v → vs[j]? ≠ some v
  noU : ∀ b ∈ bs, b.isU = false
def BQ (K : PySem.W.Frag) (W : Fix) (F : Hp) (σ : L2.St) (Q : List B → Env' → Prop) : List V → Hp → Prop := fun vs H' =>
  ∃ (F' : Hp) (bs : List B) (δ' : Env'), Same F F' ∧ SD K W F' H' σ δ' ∧ BsAt K W F' H' σ δ' bs vs ∧ Q bs δ'
abbrev TDB := Env' → (List B → Env' → Prop) → Prop
structure DB (X : Cx) (es : List Expr) (t : TDB) : Prop where
  run : ∀ (W : Fix) (F H : Hp) (σ : L2.St) (δ : Env') (Q : List B → Env' → Prop), SD X.K W F H σ δ → t δ Q → cA X es σ H (BQ X.K W F σ Q)
def bNil : TDB := fun δ Q => Q [] δ
def bCons (te : TD) (t : TDB) : TDB := fun δ Q => te δ fun b δ1 => b.isU = false ∧ t δ1 fun bs δ2 => Q (b :: bs) δ2
section
variable {X : Cx} {W : Fix} {e : Expr} {es : List Expr} {te : TD} {t : TDB}
theorem db_nil : DB X [] bNil := ⟨fun W F H σ δ Q S q pos pins s I => (pa_nil (X := X)).run pos pins s σ H _ I
  ⟨F, [], δ, Same.refl F, S, ⟨.nil, fun i b v h => by simp at h, fun i j b c v _ h => by simp at h, fun b h => by simp at h⟩, q⟩⟩
theorem RB.mono1 {K : PySem.W.Frag} {F F' H H' : Hp} {b : B} {v : V} (h : RB K W F H b v) (hb : b.own = false) (e : Same F F') : RB K W F' H' b v :=
  h.keep e (fun a o _ z => by rw [hb] at z; cases z) (fun a _ z => by rw [hb] at z; cases z)
theorem BsAt.cons {K : PySem.W.Frag} {F H : Hp} {σ : L2.St} {δ : Env'} {b : B} {v : V} {bs : List B} {vs : List V} (T : BsAt K W F H σ δ bs vs) (r : RB K W F H b v) (hu : b.isU = false)
    (ho : b.own = true → ∀ (j : Nat) (c : B), δ[j]? = some (some c) → c.own = true → σ[j]? ≠ some (some v)) (hs : b.own = true → ∀ (j : Nat) (c : B), bs[j]? = some c → c.own = true → vs[j]? ≠ some v) : BsAt K W F H σ δ (b :: bs) (v :: vs) where
  rb := .cons r T.rb
  off := fun i c u h1 h2 h3 => by
    cases i with
    | zero =>
      simp at h1 h2
      subst h1 h2
      exact ho h3
    | succ i => exact T.off i c u (by simpa using h1) (by simpa using h2) h3
  sep := fun i j c d u ne h1 h2 h3 h4 h5 => by
    cases i with
    | zero =>
      cases j with
      | zero => exact absurd rfl ne
      | succ j =>
        simp at h1 h5
        subst h1 h5
        rw [List.getElem?_cons_succ] at h3 ⊢
        exact hs h2 j d h3 h4
    | succ i =>
      cases j with
      | zero =>
        simp at h3
        subst h3
        rw [List.getElem?_cons_succ] at h1 h5
        intro z
        simp at z
        subst z
        exact hs h4 i c h1 h2 h5
      | succ j =>
        rw [List.getElem?_cons_succ] at h1 h3 h5 ⊢
        exact T.sep i j c d u (by omega) h1 h2 h3 h4 h5
  noU := fun c hc => by
    rcases List.mem_cons.mp hc with z | z
    · rw [z]
      exact hu
    · exact T.noU c z
theorem RB.unhold {K : PySem.W.Frag} {F H : Hp} {a : Addr} {o : HO} {b : B} {v : V} (r : RB K (W.hold a o) F H b v) (hu : b.isU = false) (hF : F a = none) : RB K W F H b v ∧ (b.own = true → v ≠ .ref a) := by
  cases b with
  | p d => exact ⟨r, fun z => by cases z⟩
  | u w n => cases hu
  | s d => cases hu
  | n ds =>
    obtain ⟨t, xs, h1, h2, h3, h4⟩ := r
    refine ⟨⟨t, xs, h1, h2, h3, fun c hc => ?_⟩, fun z => by cases z⟩
    obtain ⟨⟨ys, h5⟩, h6⟩ := h4 c hc
    have q : c ≠ a := fun z => by
      rw [z, hF] at h5
      cases h5
    have h6 : upd W.H0 a o c = none := h6
    rw [upd_ne q] at h6
    exact ⟨⟨ys, h5⟩, h6⟩
  | o d =>
    obtain ⟨c, rfl, h1, h2, h3⟩ := r
    have h2 : upd W.H0 a o c = none := h2
    have q : c ≠ a := fun z => by
      rw [z, upd_same] at h2
      cases h2
    rw [upd_ne q] at h2
    exact ⟨⟨c, rfl, h1, h2, h3⟩, fun _ z => q (V.ref.inj z)⟩
theorem db_cons (h : ∀ W, DE X W e te) (g : DB X es t) (hs : starEach (e :: es) X.env = (false, eval e X.env) :: starEach es X.env := by rfl) : DB X (e :: es) (bCons te t) := by
  refine ⟨fun W F H σ δ Q S q pos pins s I => (pa_cons (X := X) cE_pe cA_pa hs).run pos pins s σ H _ I ?_⟩
  refine ((h W).run F H σ δ _ S q).imp fun v H1 h1 => ?_
  obtain ⟨F1, b, δ1, e1, S1, r1, s1, hu, q1⟩ := h1
  by_cases hb : b.own = true
  · obtain ⟨d, rfl⟩ := own_noU hu hb
    obtain ⟨a, rfl, hF, h0, hO⟩ := r1
    obtain ⟨o, ho⟩ := hO.some
    have hP : W.P ≠ some a := fun z => by
      obtain ⟨_, _, o', z2⟩ := S1.fp a z
      rw [h0] at z2
      cases z2
    have Sh := S1.held ho h0 hF hP (s1 rfl)
    refine (g.run (W.hold a o) F1 H1 σ δ1 _ Sh q1).imp fun vs H2 h2 => ?_
    obtain ⟨F2, bs, δ2, e2, S2, T, q2⟩ := h2
    have hF0 : W.F0 a = none := S1.f0.free hF
    obtain ⟨S3, h3, hF2, hn⟩ := S2.unheld h0 hF0 hP
    have rr : ∀ {bs : List B} {vs : List V}, Paired (RB X.K (W.hold a o) F2 H2) bs vs → (∀ b ∈ bs, b.isU = false) → Paired (RB X.K W F2 H2) bs vs ∧ ∀ (j : Nat) (c : B), bs[j]? = some c → c.own = true → vs[j]? ≠ some (V.ref a) := by
      intro bs vs r
      induction r with
      | nil => exact fun _ => ⟨.nil, fun j c z => by simp at z⟩
      | @cons b v bs vs r rs ih =>
        intro hz
        obtain ⟨g1, g2⟩ := r.unhold (hz b List.mem_cons_self) hF2
        obtain ⟨g3, g4⟩ := ih fun c hc => hz c (List.mem_cons_of_mem _ hc)
        refine ⟨.cons g1 g3, fun j c z1 z2 => ?_⟩
        cases j with
        | zero =>
          simp at z1
          subst z1
          intro z
          simp at z
          exact g2 z2 z
        | succ j =>
          rw [List.getElem?_cons_succ] at z1 ⊢
          exact g4 j c z1 z2
    obtain ⟨g1, g2⟩ := rr T.rb T.noU
    have T' : BsAt X.K W F2 H2 σ δ2 bs vs := ⟨g1, T.off, T.sep, T.noU⟩
    have hO2 : Own X.K F2 H2 d a := by
      cases d <;> first | exact hO.elim | skip
      · obtain ⟨xs, z1, z2⟩ := hO
        rw [ho] at z1
        cases z1
        exact ⟨xs, h3, RpL.mono e2 _ _ z2⟩
      · obtain ⟨xs, z1, z2, z3⟩ := hO
        rw [ho] at z1
        cases z1
        exact ⟨xs, h3, RpL.mono e2 _ _ z2, z3⟩
      · obtain ⟨dx, xs, z1, z2, z3⟩ := hO
        rw [ho] at z1
        cases z1
        exact ⟨dx, xs, h3, RpL.mono e2 _ _ z2, z3⟩
      · have z1 : H1 a = some (.set _ _) := hO
        rw [ho] at z1
        cases z1
        exact h3
    exact ⟨F2, .o d :: bs, δ2, e1.trans e2, S3, T'.cons ⟨a, rfl, hF2, h0, hO2⟩ rfl (fun _ => hn) (fun _ => g2), q2⟩
  · have hb : b.own = false := by simpa using hb
    refine (g.run W F1 H1 σ δ1 _ S1 q1).imp fun vs H2 h2 => ?_
    obtain ⟨F2, bs, δ2, e2, S2, T, q2⟩ := h2
    exact ⟨F2, b :: bs, δ2, e1.trans e2, S2, T.cons (r1.mono1 hb e2) hu (fun z => by rw [hb] at z; cases z) (fun z => by rw [hb] at z; cases z), q2⟩
end

/-! ### a, b = x, y -/
section
variable {X : Cx} {W : Fix} {t : TDB}
theorem SD.puts {K : PySem.W.Frag} {F H : Hp} {σ : L2.St} {δ : Env'} {is : List Nat} : ∀ {bs : List B} {vs : List V} {ns : List Nat}, ns.Nodup → ns.length = bs.length → SD K W F H σ δ → BsAt K W F H σ δ bs vs →
    ∃ σ' δ', σ' = (ns.zip vs).foldl (fun τ p => τ.set p.1 (some p.2)) σ ∧ δ' = (ns.zip bs).foldl (fun ε p => ε.set p.1 (some p.2)) δ ∧ SD K W F H σ' δ' := by
  suffices h : ∀ (bs : List B) (vs : List V) (ns : List Nat) (σ : L2.St) (δ : Env'), ns.Nodup → ns.length = bs.length → SD K W F H σ δ → BsAt K W F H σ δ bs vs →
      SD K W F H ((ns.zip vs).foldl (fun τ p => τ.set p.1 (some p.2)) σ) ((ns.zip bs).foldl (fun ε p => ε.set p.1 (some p.2)) δ) by
    intro bs vs ns hn hl S T
    exact ⟨_, _, rfl, rfl, h bs vs ns σ δ hn hl S T⟩
  intro bs
  induction bs with
  | nil =>
    intro vs ns σ δ hn hl S T
    have e : ns = [] := List.length_eq_zero_iff.mp hl
    subst e
    exact S
  | cons b bs ih =>
    intro vs ns σ δ hn hl S T
    cases ns with
    | nil => cases hl
    | cons n ns =>
      obtain ⟨rb, off, sep, nu⟩ := T
      cases rb with
      | @cons _ v _ vs r rs =>
        have nd := List.nodup_cons.mp hn
        refine ih vs ns _ _ nd.2 (by simpa using hl) (S.put (i := n) r fun hb j c h1 h2 _ => off 0 b v rfl rfl hb j c h1 h2) ⟨rs, fun i c u h1 h2 h3 j c' h4 h5 h6 => ?_, fun i j c d u ne h1 h2 h3 h4 h5 => ?_, fun c hc => nu c (List.mem_cons_of_mem _ hc)⟩
        · by_cases ej : j = n
          · subst ej
            have hlj : j < δ.length := by
              have := (List.getElem?_eq_some_iff.mp h4).1
              rw [List.length_set] at this
              exact this
            rw [List.getElem?_set_self hlj] at h4
            cases h4
            rw [List.getElem?_set_self (by rw [S.len]; exact hlj)] at h6
            cases h6
            exact sep 0 (i + 1) b c v (by omega) rfl h5 (by simpa using h1) h3 rfl (by simpa using h2)
          · rw [List.getElem?_set_ne (Ne.symm ej)] at h4 h6
            exact off (i + 1) c u (by simpa using h1) (by simpa using h2) h3 j c' h4 h5 h6
        · exact fun h6 => sep (i + 1) (j + 1) c d u (by omega) (by simpa using h1) h2 (by simpa using h3) h4 (by simpa using h5) (by simpa using h6)
def dPar (ns : List Nat) (t : TDB) : TSD := fun Z δ => t δ fun bs δ1 => bs.length = ns.length ∧ Z.nx ((ns.zip bs).foldl (fun ε p => ε.set p.1 (some p.2)) δ1)
theorem ds_par {i j : Nat} {x y : Str} {a b : Expr} {px py pt pos : Pos} {kt k2 : Nat} {pt2 : Pos} (hc : X.calm = true) (hN : X.N.Nodup) (hi : X.N[i]? = some x) (hj : X.N[j]? = some y) (hij : i ≠ j)
    (hx : X.env.scope.names.lookup x = some .local) (hy : X.env.scope.names.lookup y = some .local) (h : DB X [a, b] t)
    (hw : swappedStores [.Tuple [.Name x px, .Name y py] kt pt] (.Tuple [a, b] k2 pt2) X.env = pure (some [x, y]))
    (hs : swapsWithSole [.Tuple [.Name x px, .Name y py] kt pt] (.Tuple [a, b] k2 pt2) pos.line X.env = pure false := by rfl) :
    DS X W (.Assign [.Tuple [.Name x px, .Name y py] kt pt] (.Tuple [a, b] k2 pt2) pos) (dPar [i, j] t) :=
  .of (ps_par (X := X) hc hN hi hj hij hx hy cA_pa hw hs) fun F H σ δ D S q => by
    refine (h.run W F H σ δ _ S q).imp fun vs H1 h1 => ?_
    obtain ⟨F1, bs, δ1, e1, S1, T, hl, q1⟩ := h1
    have hv : vs.length = 2 := by
      rw [← Paired.length T.rb]
      exact hl
    match vs, hv with
    | [v, w], _ =>
      obtain ⟨σ', δ', e2, e3, S2⟩ := S1.puts (is := []) (ns := [i, j]) (by simpa using hij) hl.symm T
      refine ⟨v, w, rfl, F1, δ', ?_, by rw [e3]; exact q1⟩
      rw [e2] at S2
      exact S2
theorem ds_par3 {i j l : Nat} {x y z : Str} {a b c : Expr} {px py pz pt pos : Pos} {kt k2 : Nat} {pt2 : Pos} (hc : X.calm = true) (hN : X.N.Nodup) (hi : X.N[i]? = some x) (hj : X.N[j]? = some y) (hk : X.N[l]? = some z) (hij : i ≠ j) (hil : i ≠ l) (hjl : j ≠ l)
    (hx : X.env.scope.names.lookup x = some .local) (hy : X.env.scope.names.lookup y = some .local) (hz : X.env.scope.names.lookup z = some .local) (h : DB X [a, b, c] t)
    (hw : swappedStores [.Tuple [.Name x px, .Name y py, .Name z pz] kt pt] (.Tuple [a, b, c] k2 pt2) X.env = pure (some [x, y, z]))
    (hs : swapsWithSole [.Tuple [.Name x px, .Name y py, .Name z pz] kt pt] (.Tuple [a, b, c] k2 pt2) pos.line X.env = pure false := by rfl) :
    DS X W (.Assign [.Tuple [.Name x px, .Name y py, .Name z pz] kt pt] (.Tuple [a, b, c] k2 pt2) pos) (dPar [i, j, l] t) :=
  .of (ps_par3 (X := X) hc hN hi hj hk hij hil hjl hx hy hz cA_pa hw hs) fun F H σ δ D S q => by
    refine (h.run W F H σ δ _ S q).imp fun vs H1 h1 => ?_
    obtain ⟨F1, bs, δ1, e1, S1, T, hl, q1⟩ := h1
    have hv : vs.length = 3 := by
      rw [← Paired.length T.rb]
      exact hl
    match vs, hv with
    | [v, w, u], _ =>
      obtain ⟨σ', δ', e2, e3, S2⟩ := S1.puts (is := []) (ns := [i, j, l]) (by simp [hij, hil, hjl]) hl.symm T
      refine ⟨v, w, u, rfl, F1, δ', ?_, by rw [e3]; exact q1⟩
      rw [e2] at S2
      exact S2
end

/-! ### a dict as it is written: none, or one pair -/
section
variable {X : Cx} {W : Fix} {e : Expr} {te : TD} {pos : Pos}
def dDct0 : TD := fun δ Q => Q (.o (.dct [] [])) δ
theorem de_dct0 : DE X W (.Dict [] [] pos) dDct0 := .of (pe_dnewK (X := X)) fun F H σ δ Q S q p hp => .mkO (d := .dct [] []) S hp ⟨[], upd_same, .nil, rfl⟩ q
def keyE : Expr → Option Key
  | .Constant (.int i) _ _ => some (.inl i)
  | .Constant (.str x) _ _ => some (.inr x)
  | _ => none
theorem key_pe {ek : Expr} {k : Key} (h : keyE ek = some k) : PE X ek (tC (kV k)) := by
  unfold keyE at h
  split at h
  · cases h
    exact pe_int
  · cases h
    exact pe_str
  · cases h
def dDct1 (k : Key) (te : TD) : TD := fun δ Q => dp te δ fun d δ1 => Q (.o (.dct [k] [d])) δ1
theorem de_dct1 {ek : Expr} {k : Key} (hk : keyE ek = some k) (h : ∀ W, DE X W e te) : DE X W (.Dict [some ek] [e] pos) (dDct1 k te) :=
  .of (pe_disp (X := X) (pps_cons (key_pe hk) (tv := cE X e) cE_pe pps_nil) rfl rfl (by simp) (by simp)) fun F H σ δ Q S q p hp => by
    have S1 := S.newO (o := .dK []) hp
    have h0 := S.fresh0 hp
    have hF := S.freshF hp
    have hP : W.P ≠ some p := fun z => by
      obtain ⟨_, ⟨o, z2⟩, _⟩ := S.fp p z
      rw [hp] at z2
      cases z2
    have Sh := S1.held (o := .dK []) upd_same h0 hF hP fun j c h1 h2 h3 => by
      obtain ⟨u, h4, h5⟩ := S.get j c h1
      rw [h3] at h4
      cases h4
      obtain ⟨a', o, z, h6, _⟩ := h5.there h2
      cases z
      rw [hp] at h6
      cases h6
    refine ((h (W.hold p (.dK []))).plain Sh q).imp fun v H1 h1 => ?_
    obtain ⟨F1, d, δ1, e1, S2, r1, q1⟩ := h1
    obtain ⟨S3, h3, hF1, hn⟩ := S2.unheld h0 (S.f0.free hF) hP
    refine ⟨h3, [(k, v)], rfl, by simp, ?_⟩
    have em : mergeK [] [(k, v)] = [k].zip [v] := rfl
    rw [em]
    exact ⟨F1, .o (.dct [k] [d]), δ1, e1, S3.turn h0 hF1 hn, ⟨p, rfl, hF1, h0, [v], upd_same, .cons r1 .nil, rfl⟩, fun _ => hn, q1⟩
end
end DD

set_option Elab.async false
set_option linter.all false
set_option maxRecDepth 100000
set_option maxHeartbeats 4000000
/-! DD14: the law's own head, where no repr is under way; the purse. -/
namespace DD
open PySem PySem.Spec PyProof.Rows L2

/-- as law_call, for a def that knows that no repr is under way -/
theorem head_call {P : Program} {w : World} {K : PySem.W.Frag} {mg mb : Str → Option Value} {k : Nat} {fa a : Addr} {x : Str} {sp : Sp} {s1 : Shared} {us : List Value} {ns : List Int}
    (KX : K.In s1.heap) (gl : s1.heap.Ns mainGlobals mg) (bl : s1.heap.Ns builtinsNs mb) (bb : ∀ y : Str, y ≠ "__name__" → mb y = bootBuiltins y) (lim : s1.heap.NoLimit) (ge : s1.gens = #[])
    (ga : s1.heap.get? a = some { cls := .type "list", data := .seq us.toArray }) (hin : IntsAre us ns) (lz : ns.length ≤ sizeLine) (hr : Room k callerA)
    (G : ∀ base : Heap, K.In base → base.Ns mainGlobals mg → ∃ fd : FuncData, GnOk P w K mg base k fa fd [x] sp ∧ BindsTo s1 fd ⟨[.ref a], []⟩ [(x, .ref a)])
    (hsp : ∀ H : Hp, Only H → SqL K H a (ns.map V.int) → sp [.ref a] H (fun v _ => v = .bl true) fun _ _ _ => False) :
    codeAny (model P w) callerA (.call (.ref fa) ⟨[.ref a], []⟩) (fun r s' => r = .ok (.ret (.bool true)) ∧ OldK s1.heap s'.heap ∧ s'.os = s1.os ∧ AllBare s'.gens) s1 := by
  have lenU := hin.length
  have vals : Vals (ns.map V.int) us := vals_ints hin
  suffices core : ∀ H : Hp, Only H → SqL K H a (ns.map V.int) → HOk P w H s1.heap → (∀ c, H c ≠ none → c = a ∧ K.lookup a = none) →
      codeAny (model P w) callerA (.call (.ref fa) ⟨[.ref a], []⟩) (fun r s' => r = .ok (.ret (.bool true)) ∧ OldK s1.heap s'.heap ∧ s'.os = s1.os ∧ AllBare s'.gens) s1 by
    cases hk : K.lookup a with
    | some ob =>
      have e := KX a ob hk
      rw [ga] at e
      cases e
      exact core (fun _ => none) (fun _ => .inl rfl) (.inr ⟨_, us.toArray, _, hk, rfl, rfl, rfl, by rw [List.size_toArray, lenU]; exact lz, by simpa using vals⟩) (fun c u z => by have z' : (none : Option HO) = some u := z; cases z') fun c z => absurd rfl z
    | none =>
      have at1 : ∀ c, c = a → (fun c => if c = a then some (HO.frz { cls := .type "list", data := .seq us.toArray } (.lst (ns.map V.int))) else none) c = some (HO.frz { cls := .type "list", data := .seq us.toArray } (.lst (ns.map V.int))) := fun c e => if_pos e
      refine core (fun c => if c = a then some (.frz { cls := .type "list", data := .seq us.toArray } (.lst (ns.map V.int))) else none) (fun c => ?_) (.inl (.inr ⟨_, at1 a rfl⟩)) (fun c u z => ?_) fun c z => ⟨?_, hk⟩
      · by_cases e : c = a
        · exact .inr ⟨_, _, if_pos e⟩
        · exact .inl (if_neg e)
      · by_cases e : c = a
        · have z2 := (if_pos e).symm.trans z
          cases z2
          rw [e]
          exact ⟨ga, by rw [List.length_map]; exact lz, us, _, vals, ga⟩
        · have z2 := (if_neg e).symm.trans z
          cases z2
      · by_cases e : c = a
        · exact e
        · exact absurd (if_neg e) z
  intro H hO hS hok only
  have up : ∀ {c : Addr} {ob : Obj}, s1.heap.get? c = some ob → H c = none → (hidT s1.heap H).get? c = some ob := fun e n => hidT_get e n
  have dn : ∀ {c : Addr} {ob : Obj} {es : Array DictEntry} {ep : Nat}, s1.heap.get? c = some ob → ob.data = .dict es ep → H c = none := by
    intro c ob es ep e d
    cases q : H c with
    | none => rfl
    | some u =>
      have ea := (only c (by rw [q]; simp)).1
      rw [ea, ga] at e
      cases e
      have d2 : Data.seq us.toArray _ = Data.dict es ep := d
      cases d2
  have nsUp : ∀ {c : Addr} {m : Str → Option Value}, s1.heap.Ns c m → (hidT s1.heap H).Ns c m := by
    rintro c m ⟨ob, es, ep, e, d, r⟩
    exact ⟨ob, es, ep, up e (dn e d), d, r⟩
  have KB : K.In (hidT s1.heap H) := by
    intro c ob e
    refine up (KX c ob e) ?_
    cases q : H c with
    | none => rfl
    | some u =>
      obtain ⟨ea, en⟩ := only c (by rw [q]; simp)
      rw [ea, en] at e
      cases e
  have M : Mod K mg (hidT s1.heap H) := ⟨KB, nsUp gl, ⟨mb, nsUp bl, bb⟩, by obtain ⟨mc, z1, z2⟩ := lim; exact ⟨mc, nsUp z1, z2⟩⟩
  have E0 : Env0 P w K mg (hidT s1.heap H) callerA [] s1 H := ⟨rfl, M, fun c ob e => of_hidT e, Nat.le_of_eq (hidT_size _ _), trivial, fun c z => absurd (show c ∈ ([] : List Addr) from z) (by simp), hok, .of_eq ge⟩
  obtain ⟨fd, G1, hbind⟩ := G _ KB (nsUp gl)
  refine codeAny_mono (G1.run callerA [] s1 H ⟨[.ref a], []⟩ [.ref a] [.ref a] _ _ rfl hr E0 hbind (.cons rfl .nil) (hsp H hO hS)) ?_
  intro r s' h
  cases r with
  | error e =>
    obtain ⟨_, _, _, _, _, _, _, _, _, _, _, _, z⟩ := h
    exact z.elim
  | ok fl =>
    cases fl with
    | next => exact h.elim
    | brk => exact h.elim
    | cont => exact h.elim
    | ret u =>
      obtain ⟨v, H', os, bare, un, hok', rv, q⟩ := h
      have q : v = .bl true := q
      subst q
      obtain rfl : u = Value.bool true := rv
      refine ⟨rfl, OldK.of_keep fun c ob e => ?_, os, bare⟩
      cases q : H c with
      | none => exact un.keep c ob e q (fun z => absurd (show c ∈ ([] : List Addr) from z) (by simp)) (by simp)
      | some u =>
        rcases hO c with z | ⟨ob2, xs, z⟩
        · rw [q] at z
          cases z
        · obtain ⟨e1, _⟩ := hok c _ z
          obtain ⟨e2, _⟩ := hok' c _ (un.frzs c ob2 _ z)
          rw [e] at e1
          cases e1
          exact e2
theorem walk_g {l : PySem.W.OpenLaw} {n k : Nat} {q : Program} {loose : List Str} {XP : (Str → Option Value) → Heap → Prop} {YP : World → Heap → Prop} {d : DefRec} {K : Params → PySem.W.Frag} {spd : Spd} {x : Str}
    (hn : l.most = some n) (hn2 : n ≤ sizeLine) (hdf : d.params.defaults = []) (hr : Room k callerA) (hY : ∀ (w : World) (h : Heap), YP w h → (K w.params).In h)
    (G : ∀ (w : World) (mg : Str → Option Value) (h : Heap), (K w.params).In h → h.Ns mainGlobals mg →
      ∀ base : Heap, (K w.params).In base → base.Ns mainGlobals mg → ∃ (fa : Addr) (fd : FuncData), GnOk l.prog w (K w.params) mg base k fa fd [x] (toSp (K w.params) spd) ∧ mg d.name = some (.ref fa) ∧ Binds (K w.params) fd [x] [])
    (hsp : ∀ ns : List Int, ns.length ≤ n → spd [.p (.scr ns)] (fun b _ => b = .p (.bl true)) fun _ _ _ => False) :
    PySem.W.WalkO q loose XP YP l.row.toRowW d [] (fun f vs => PySem.call f vs) := by
  refine Att.attach_call hn hdf ?_
  intro w s0 s1 mg mb fa o pm cd doc a vs ns GG Y ho hd hcd hmg hobj hints hlen hg
  have KX := hY w _ Y
  refine head_call (sp := toSp (K w.params) spd) (x := x) KX GG.T.g GG.T.b GG.T.builtins GG.T.nolimit hg hobj hints (Nat.le_trans hlen hn2) hr (fun base kb nb => ?_) fun H hO hS => ?_
  · obtain ⟨fa', fd, g1, e, g2⟩ := G w mg _ KX GG.T.g base kb nb
    rw [hmg] at e
    cases e
    exact ⟨fd, g1, g2 s1 [.ref a] KX rfl⟩
  refine ⟨H, none, [.p (.scr ns)], _, _, Same.refl H, .cons (?_ : Rp _ H (.scr ns) (.ref a)) .nil, (fun p e => by cases e), hsp ns hlen, fun v H' F' b m _ r q => ?_, fun cls dx H' F' C ds m _ _ z => z.elim⟩
  · unfold Rp
    refine ⟨a, rfl, ?_⟩
    rcases hS with (q | ⟨o', q⟩) | q
    · rcases hO a with z | ⟨o', xs, z⟩
      · rw [z] at q
        cases q
      · rw [z] at q
        cases q
    · exact .inl ⟨o', q⟩
    · exact .inr q
  · subst q
    exact rpBl (K := K w.params) (F := F') r
end DD

set_option Elab.async false
set_option linter.all false
set_option maxRecDepth 100000
set_option maxHeartbeats 4000000
/-! DD15: rules in short, as a program prints them. -/
namespace DD
open PySem PySem.Spec PyProof.Rows L2

/-! ### a def of the text, by its promise -/
structure DefAt (K : PySem.W.Frag) (mg : Str → Option Value) (x : Str) (st : Stmt) : Prop where
  ex : ∃ f fd, Fun K x x st f fd ∧ mg x = some (.ref f)
structure Cal (P : Program) (w : World) (K : PySem.W.Frag) (mg : Str → Option Value) (base : Heap) (x : Str) (k : Nat) (ps : List Str) (spd : Spd) : Prop where
  ex : ∃ f fd, GnOk P w K mg base k f fd ps (toSp K spd) ∧ mg x = some (.ref f) ∧ PySem.W.keepIn K (.ref f) = true ∧ Binds K fd ps []
theorem vis_any {sc : Scope} {x : Str} (h : sc.names.lookup x = some .local ∨ sc.names.lookup x = some .cell ∨ sc.names.lookup x = some .free) : Vis sc x := h
section
variable {P : Program} {w : World} {K : PySem.W.Frag} {mg : Str → Option Value} {base : Heap}
/-- THE RULE: a def of the text by its body's reading over data -/
theorem cal_mk {x : Str} {st : Stmt} {N ps : List Str} {k : Nat} {spd : Spd} (pi : Option Nat) (D : DefAt K mg x st) (S : FnScope N ps (defScope st))
    (hbd : ∀ (kV doc pm : Value) (an : Option Addr) (cdv ct : Value) (us : List Value), us.length = ps.length → bindArgs (PySem.W.fnOf x x (defArgs st) (defBody st) (defScope st) .none kV doc pm an cdv ct) ⟨us, []⟩ = pure (ps.zip us))
    (len : ∀ bs R E, spd bs R E → bs.length = ps.length) (hpk : ∀ bs R E, spd bs R E → PurK pi bs ∧ (pi = none → ∀ b ∈ bs, b.own = false))
    (hbody : ∀ (f : Addr) (cdv : Value) (A : Around) (outer : List Env) (s : Shared) (H : Hp) (E : XK) (W : Fix) (bs : List B) (R : B → Nat → Prop) (ED : Addr → List DD.D → Nat → Prop), A.guards = some [] →
      Room k (A.deeper (envOfC x (defScope st) s.heap.objs.size f cdv)) → TkE (cxOf (L2.CX P w) P w K mg base N x (defScope st) f cdv A outer s H E) W (fun C ds δ => ∃ m, PC pi δ m ∧ ED C ds m) → spd bs R ED → Same W.F0 W.H0 →
      ∃ t, DSs (cxOf (L2.CX P w) P w K mg base N x (defScope st) f cdv A outer s H E) W (defBody st) t ∧
        t { nx := fun δ => ∃ m, PC pi δ m ∧ R (.p .non) m, rt := fun b δ => b.isU = false ∧ ∃ m, PC pi δ m ∧ R b m } (startD N bs)) :
    Cal P w K mg base x (k + 1) ps spd := by
  obtain ⟨f, fd, F, hm⟩ := D.ex
  exact ⟨f, fd, gd_of pi F S len hpk (hbody f), hm, F.kp, F.binds hbd⟩
theorem pur_none {bs : List B} (h : ∀ b ∈ bs, b.own = false) : PurK none bs ∧ ((none : Option Nat) = none → ∀ b ∈ bs, b.own = false) :=
  ⟨(fun j b e hb => by rw [h b (List.mem_of_getElem? e)] at hb; cases hb), fun _ => h⟩
theorem pur_zero {n : Nat} {w : Bool} {bs : List B} (h : ∀ b ∈ bs, b.own = false) : PurK (some 0) (.u w n :: bs) ∧ ((some 0 : Option Nat) = none → ∀ b ∈ B.u w n :: bs, b.own = false) := by
  refine ⟨fun j b e hb => ?_, fun z => by cases z⟩
  cases j with
  | zero => rfl
  | succ j =>
    rw [List.getElem?_cons_succ] at e
    rw [h b (List.mem_of_getElem? e)] at hb
    cases hb
end
/-- the law by its def's promise -/
theorem walk_c {l : PySem.W.OpenLaw} {n k : Nat} {q : Program} {loose : List Str} {XP : (Str → Option Value) → Heap → Prop} {YP : World → Heap → Prop} {d : DefRec} {K : Params → PySem.W.Frag} {spd : Spd} {x y : Str}
    (hn : l.most = some n) (hn2 : n ≤ sizeLine) (hdf : d.params.defaults = []) (hr : Room k callerA) (hY : ∀ (w : World) (h : Heap), YP w h → (K w.params).In h) (hy : d.name = y)
    (G : ∀ (w : World) (mg : Str → Option Value) (h : Heap), (K w.params).In h → h.Ns mainGlobals mg → ∀ base : Heap, Cal l.prog w (K w.params) mg base y k [x] spd)
    (hsp : ∀ ns : List Int, ns.length ≤ n → spd [.p (.scr ns)] (fun b _ => b = .p (.bl true)) fun _ _ _ => False) :
    PySem.W.WalkO q loose XP YP l.row.toRowW d [] (fun f vs => PySem.call f vs) := by
  subst hy
  refine walk_g (spd := spd) (x := x) hn hn2 hdf hr hY (fun w mg h KX GG base _ _ => ?_) hsp
  obtain ⟨f, fd, g, hm, _, b⟩ := (G w mg h KX GG base).ex
  exact ⟨f, fd, g, hm, b⟩
/-- what the top has written, as k_is tells it -/
theorem defAt_of {K : PySem.W.Frag} {h : Heap} {mg : Str → Option Value} {x : Str} {st : Stmt} {f : Addr} {oc : Value} {od an : Option Addr} {osl : Array (Option Value)} {kV doc pm cdv ct : Value} (X : K.In h) (G : h.Ns mainGlobals mg)
    (a : PySem.W.nsIn K mainGlobals x = some (some (.ref f))) (l : K.lookup f = some ⟨oc, od, .func (PySem.W.fnOf x x (defArgs st) (defBody st) (defScope st) .none kV doc pm an cdv ct), osl⟩)
    (c : PySem.W.codeIn K cdv x = true) (k : PySem.W.keepIn K (.ref f) = true) : DefAt K mg x st := ⟨f, _, fun_mk l c k, PySem.W.mg_of X G a⟩
section
variable {X : Cx} {W : Fix} {E0 : Addr → List D → Env' → Prop} {k k' : Nat} {ps : List Str} {spd : Spd} {x : Str} {p pos : Pos} {e : Expr} {es : List Expr} {t : TDA}
theorem de_c (c : Cal X.prog X.w X.K X.mg X.base x k ps spd) (gu : X.A.guards = some []) (hr : Room k' X.A) (h : DA X W (e :: es) t) (hg : Gl X x := by exact rfl) (hk : k ≤ k' := by decide) (hdb : (x == ("__debug__" : Str)) = false := by decide)
    (he : starEach (e :: es) X.env = (false, eval e X.env) :: starEach es X.env := by rfl) (hpl : (backTo pos (starEach es X.env)).any (·.1) = false := by rfl) : DE X W (.Call (.Name x p) (e :: es) [] pos) (dCall spd [] (fun _ _ _ => False) t) := by
  obtain ⟨f, fd, G, hm, kp, b⟩ := c.ex
  exact de_call G gu (hr.mono hk) hg hm kp b .nil (fun _ => .nil) h hdb he hpl
theorem de_cX (te : TkE X W E0) (c : Cal X.prog X.w X.K X.mg X.base x k ps spd) (gu : X.A.guards = some []) (hr : Room k' X.A) (h : DA X W (e :: es) t) (hg : Gl X x := by exact rfl) (hk : k ≤ k' := by decide) (hdb : (x == ("__debug__" : Str)) = false := by decide)
    (he : starEach (e :: es) X.env = (false, eval e X.env) :: starEach es X.env := by rfl) (hpl : (backTo pos (starEach es X.env)).any (·.1) = false := by rfl) : DE X W (.Call (.Name x p) (e :: es) [] pos) (dCall spd [] E0 t) := by
  obtain ⟨f, fd, G, hm, kp, b⟩ := c.ex
  exact de_callX te G gu (hr.mono hk) hg hm kp b .nil (fun _ => .nil) h hdb he hpl
theorem de_cF (c : Cal X.prog X.w X.K X.mg X.base x k ps spd) (gu : X.A.guards = some []) (hr : Room k' X.A) (h : DA X W (e :: es) t) (hg : Gl X x := by exact rfl) (hk : k ≤ k' := by decide) (hdb : (x == ("__debug__" : Str)) = false := by decide)
    (he : starEach (e :: es) X.env = (false, eval e X.env) :: starEach es X.env := by rfl) (hpl : (backTo pos (starEach es X.env)).any (·.1) = false := by rfl) : DE X W (.Call (.Name x p) (e :: es) [] pos) (dCallF spd t) := by
  obtain ⟨f, fd, G, hm, kp, b⟩ := c.ex
  exact de_callF G gu (hr.mono hk) hg hm kp b h hdb he hpl
theorem de_cP {i : Nat} {xp : Str} {pp : Pos} (c : Cal X.prog X.w X.K X.mg X.base x k ps spd) (gu : X.A.guards = some []) (hr : Room k' X.A) (hN : X.N[i]? = some xp) (h : DA X W es t) (hv : Vis X.env.scope xp := by first | exact Or.inl rfl | exact Or.inr (Or.inl rfl) | exact Or.inr (Or.inr rfl))
    (hg : Gl X x := by exact rfl) (hk : k ≤ k' := by decide) (hdb : (x == ("__debug__" : Str)) = false := by decide) (hd1 : (xp == ("__debug__" : Str)) = false := by decide) (hcd : (xp == ("__classdict__" : Str)) = false := by decide)
    (he : starEach (.Name xp pp :: es) X.env = (false, eval (.Name xp pp) X.env) :: starEach es X.env := by rfl) (hpl : (backTo pos (starEach es X.env)).any (·.1) = false := by rfl) :
    DE X W (.Call (.Name x p) (.Name xp pp :: es) [] pos) (dCallP i spd [] (fun _ _ _ => False) t) := by
  obtain ⟨f, fd, G, hm, kp, b⟩ := c.ex
  exact de_callP G gu (hr.mono hk) hg hm kp hN hv b .nil (fun _ => .nil) h hdb hd1 hcd he hpl
/-- f() -/
def dCall0 (spd : Spd) : TD := fun δ Q => spd [] (fun b _ => b.isU = false ∧ Q b δ) fun _ _ _ => False
theorem de_c0 (c : Cal X.prog X.w X.K X.mg X.base x k ps spd) (gu : X.A.guards = some []) (hr : Room k' X.A) (hg : Gl X x := by exact rfl) (hk : k ≤ k' := by decide) (hdb : (x == ("__debug__" : Str)) = false := by decide) : DE X W (.Call (.Name x p) [] [] pos) (dCall0 spd) := by
  obtain ⟨f, fd, G, hm, kp, b⟩ := c.ex
  refine .of (pe_callG0 (X := X) (Es := fun _ _ _ _ => False) G gu (hr.mono hk) hg hm kp b .nil (fun σ => pass_none) hdb) fun F H σ δ Q S q => ?_
  refine ⟨F, none, _, _, _, S.fh, .nil, (fun p e => by cases e), q, fun v H' F' b m a r z => ?_, fun cls d H' F' C ds m a er z => z.elim⟩
  obtain ⟨r2, r3⟩ := RB.of_res S r
  exact ⟨F', b, δ, a.ff, S.after a, r2, r3, z.2⟩

/-- a new list of three ints is a purse -/
def dAsP (te : TD) : TD := fun δ Q => te δ fun b δ1 => ∃ (x y z : Int) (n : Nat), b = .o (.lst [.int x, .int y, .int z]) ∧ PWF n x y z ∧ Q (.u false n) δ1
theorem de_asPurse {a : Expr} {te : TD} (h : DE X W a te) : DE X W a (dAsP te) := by
  refine ⟨fun F H σ δ Q S q => (h.run F H σ δ _ S q).imp fun v H' z => ?_⟩
  obtain ⟨F', b, δ', e, S', r, hs, x, y, w, n, rfl, hp, q⟩ := z
  obtain ⟨c, rfl, h1, h2, xs, h3, h4⟩ := r
  have e3 : xs = [V.int x, V.int y, V.int w] := RpL.int (ns := [x, y, w]) h4
  rw [e3] at h3
  exact ⟨F', .u false n, δ', e, S', ⟨c, x, y, w, rfl, h1, by rw [if_neg Bool.false_ne_true]; exact h2, h3, hp⟩, hs, q⟩

/-! ### names -/
theorem de_v (i : Nat) {pos : Pos} (hN : X.N[i]? = some x := by rfl) (hv : Vis X.env.scope x := by first | exact Or.inl rfl | exact Or.inr (Or.inl rfl) | exact Or.inr (Or.inr rfl)) (hd : (x == ("__debug__" : Str)) = false := by decide) (hcd : (x == ("__classdict__" : Str)) = false := by decide) :
    DE X W (.Name x pos) (dV i) := de_var hN hv hd hcd
theorem de_m (i : Nat) {pos : Pos} (hN : X.N[i]? = some x := by rfl) (hv : Vis X.env.scope x := by first | exact Or.inl rfl | exact Or.inr (Or.inl rfl) | exact Or.inr (Or.inr rfl)) (hd : (x == ("__debug__" : Str)) = false := by decide) (hcd : (x == ("__classdict__" : Str)) = false := by decide) :
    DE X W (.Name x pos) (dM i) := de_move hN hv hd hcd
/-- a built-in class as a value -/
theorem de_ty {n : String} {pos : Pos} (hm : X.mg x = none) (hv : bootBuiltins x = some (.type n)) (hg : Gl X x := by exact rfl) (hn : x ≠ "__name__" := by decide) (hd : (x == ("__debug__" : Str)) = false := by decide) : DE X W (.Name x pos) (dC (.ty n)) :=
  de_bltn (v := .ty n) hg hm hv rfl (fun F => by unfold Rp; rfl) hn hd
/-- a module's constant -/
structure ConAt (K : PySem.W.Frag) (mg : Str → Option Value) (x : Str) (d : D) : Prop where
  ex : ∃ u v, mg x = some u ∧ RelV v u ∧ ∀ F, Rp K F d v
theorem de_con {d : D} {pos : Pos} (c : ConAt X.K X.mg x d) (hg : Gl X x := by exact rfl) (hd : (x == ("__debug__" : Str)) = false := by decide) : DE X W (.Name x pos) (dC d) := by
  obtain ⟨u, v, h1, h2, h3⟩ := c.ex
  exact de_glob hg h1 h2 h3 hd
theorem con_ref {K : PySem.W.Frag} {mg : Str → Option Value} {a : Addr} (h : mg x = some (.ref a)) : ConAt K mg x (.ref a) := ⟨_, .ref a, h, rfl, fun F => by unfold Rp; rfl⟩
theorem con_str {K : PySem.W.Frag} {mg : Str → Option Value} {z : Str} {tk : Tok} (h : mg x = some (.str z tk)) : ConAt K mg x (.str z) := ⟨_, .str z, h, ⟨tk, rfl⟩, fun F => by unfold Rp; rfl⟩
theorem con_int {K : PySem.W.Frag} {mg : Str → Option Value} {z : Int} {tk : Tok} (h : mg x = some (.int z tk)) : ConAt K mg x (.int z) := ⟨_, .int z, h, ⟨tk, rfl⟩, fun F => by unfold Rp; rfl⟩
theorem vals_strs : ∀ {vs : List Value} {ss : List Str}, Paired (fun (s : Str) (v : Value) => ∃ t, v = .str s t) ss vs → Vals (ss.map V.str) vs
  | _, _, .nil => .nil
  | _, _, .cons h t => .cons h (vals_strs t)
theorem con_strs {K : PySem.W.Frag} {mg : Str → Option Value} {a : Addr} {o : Obj} {vs : List Value} {n : Nat} {ss : List Str} (h : mg x = some (.ref a)) (hk : K.lookup a = some o) (hc : o.cls = .type "tuple") (hd : o.data = .seq vs.toArray n)
    (hz : vs.length ≤ sizeLine) (hs : Paired (fun (s : Str) (v : Value) => ∃ t, v = .str s t) ss vs) : ConAt K mg x (.tup (ss.map D.str)) := by
  refine ⟨_, .ref a, h, rfl, fun F => ?_⟩
  unfold Rp
  exact ⟨a, ss.map V.str, rfl, .inr ⟨o, vs.toArray, n, hk, hc, hd, by simpa using hz, by simpa using vals_strs hs⟩, .ofStr ss⟩

/-! ### built-in functions -/
theorem bt_len : bootBuiltins "len" = some (.builtin "len") := by decide +kernel
theorem bt_isinstance : bootBuiltins "isinstance" = some (.builtin "isinstance") := by decide +kernel
theorem bt_repr : bootBuiltins "repr" = some (.builtin "repr") := by decide +kernel
theorem bt_max : bootBuiltins "max" = some (.builtin "max") := by decide +kernel
theorem bt_sorted : bootBuiltins "sorted" = some (.builtin "sorted") := by decide +kernel
theorem bt_int : bootBuiltins "int" = some (.type "int") := by decide +kernel
theorem bt_bool : bootBuiltins "bool" = some (.type "bool") := by decide +kernel
theorem bt_str : bootBuiltins "str" = some (.type "str") := by decide +kernel
theorem bt_list : bootBuiltins "list" = some (.type "list") := by decide +kernel
theorem bt_tuple : bootBuiltins "tuple" = some (.type "tuple") := by decide +kernel
theorem bt_set : bootBuiltins "set" = some (.type "set") := by decide +kernel
end
end DD

set_option Elab.async false
set_option linter.all false
set_option maxRecDepth 100000
set_option maxHeartbeats 4000000
/-! DD16: what the readings come to. -/
namespace DD
open PySem PySem.Spec PyProof.Rows L2

/-! ### a list comprehension whose test and item are plain -/
theorem lcL_map {g : TGD} {tt : TDT} {te : TD} {vs : List Nat} {Q : List D → Env' → Prop} {δ : Env'} (f : D → Bool) (h : D → D) (e1 e2 : D → Env') : ∀ {ds acc : List D},
    (∀ d ∈ ds, ∀ (Y : D → Env' → Prop) (N : Env' → Prop), (f d = true → Y (h d) (e1 d)) → (f d = false → N (e2 d)) → g d δ fun δ1 => tt δ1 fun k δ2 => if k = true then dp te δ2 Y else N δ2) →
    (∀ d ∈ ds, wipeE (e1 d) vs = δ ∧ wipeE (e2 d) vs = δ) → acc.length + ds.length ≤ sizeLine → Q (acc ++ (ds.filter f).map h) δ → lcL g tt te vs Q ds acc δ
  | [], acc, _, _, _, q => by
    have q : Q (acc ++ []) δ := q
    rw [List.append_nil] at q
    exact q
  | d :: ds, acc, hs, hw, hz, q => by
    obtain ⟨w1, w2⟩ := hw d List.mem_cons_self
    rw [List.length_cons] at hz
    refine hs d List.mem_cons_self _ _ (fun hf => ⟨by omega, ?_⟩) fun hf => ?_
    · rw [w1]
      refine lcL_map f h e1 e2 (fun d' hd' => hs d' (List.mem_cons_of_mem _ hd')) (fun d' hd' => hw d' (List.mem_cons_of_mem _ hd')) (by rw [List.length_append, List.length_singleton]; omega) ?_
      rw [List.filter_cons_of_pos hf, List.map_cons] at q
      rw [List.append_assoc]
      exact q
    · rw [w2]
      refine lcL_map f h e1 e2 (fun d' hd' => hs d' (List.mem_cons_of_mem _ hd')) (fun d' hd' => hw d' (List.mem_cons_of_mem _ hd')) (by omega) ?_
      rw [List.filter_cons_of_neg (by rw [hf]; decide)] at q
      exact q

/-! ### isinstance of data -/
/-- data whose class is built in -/
def dat (d : D) : Bool := (tyD d).isSome
theorem isZ_iff {K : PySem.W.Frag} {d : D} {t u : String} {b : Bool} {Q : B → Prop} (hk : tyD d = some t) (hb : PySem.W.kitOne K (.type t) (.type u) = some b) : isZG K [d, .ty u] Q ↔ Q (.p (.bl b)) := by
  constructor
  · rintro (⟨x, c, t', u', b', e, h1, h2, h3, q⟩ | ⟨C, y, c, u', b', e, _⟩)
    · cases e
      rw [hk] at h1
      cases h1
      cases h2
      rw [hb] at h3
      cases h3
      exact q
    · cases e
      cases hk
  · exact fun q => .inl ⟨d, _, t, _, b, rfl, hk, rfl, hb, q⟩
def isInt : D → Bool
  | .int _ => true
  | .bl _ => true
  | _ => false
theorem isZ_Int {K : PySem.W.Frag} {d : D} {Q : B → Prop} (h : dat d = true) : isZG K [d, .ty "int"] Q ↔ Q (.p (.bl (isInt d))) := by
  cases d <;> first | (cases h; done) | skip
  · exact isZ_iff rfl (by first | rfl | kernel_rfl)
  · exact isZ_iff rfl (by first | rfl | kernel_rfl)
  · exact isZ_iff rfl (by first | rfl | kernel_rfl)
  · exact isZ_iff rfl (by first | rfl | kernel_rfl)
  · exact isZ_iff rfl (by first | rfl | kernel_rfl)
  · exact isZ_iff rfl (by first | rfl | kernel_rfl)
  · exact isZ_iff rfl (by first | rfl | kernel_rfl)
  · exact isZ_iff rfl (by first | rfl | kernel_rfl)
def isBool : D → Bool
  | .bl _ => true
  | _ => false
theorem isZ_Bool {K : PySem.W.Frag} {d : D} {Q : B → Prop} (h : dat d = true) : isZG K [d, .ty "bool"] Q ↔ Q (.p (.bl (isBool d))) := by
  cases d <;> first | (cases h; done) | skip
  · exact isZ_iff rfl (by first | rfl | kernel_rfl)
  · exact isZ_iff rfl (by first | rfl | kernel_rfl)
  · exact isZ_iff rfl (by first | rfl | kernel_rfl)
  · exact isZ_iff rfl (by first | rfl | kernel_rfl)
  · exact isZ_iff rfl (by first | rfl | kernel_rfl)
  · exact isZ_iff rfl (by first | rfl | kernel_rfl)
  · exact isZ_iff rfl (by first | rfl | kernel_rfl)
  · exact isZ_iff rfl (by first | rfl | kernel_rfl)
def isStr : D → Bool
  | .str _ => true
  | _ => false
theorem isZ_Str {K : PySem.W.Frag} {d : D} {Q : B → Prop} (h : dat d = true) : isZG K [d, .ty "str"] Q ↔ Q (.p (.bl (isStr d))) := by
  cases d <;> first | (cases h; done) | skip
  · exact isZ_iff rfl (by first | rfl | kernel_rfl)
  · exact isZ_iff rfl (by first | rfl | kernel_rfl)
  · exact isZ_iff rfl (by first | rfl | kernel_rfl)
  · exact isZ_iff rfl (by first | rfl | kernel_rfl)
  · exact isZ_iff rfl (by first | rfl | kernel_rfl)
  · exact isZ_iff rfl (by first | rfl | kernel_rfl)
  · exact isZ_iff rfl (by first | rfl | kernel_rfl)
  · exact isZ_iff rfl (by first | rfl | kernel_rfl)
def isLst : D → Bool
  | .lst _ => true
  | _ => false
theorem isZ_Lst {K : PySem.W.Frag} {d : D} {Q : B → Prop} (h : dat d = true) : isZG K [d, .ty "list"] Q ↔ Q (.p (.bl (isLst d))) := by
  cases d <;> first | (cases h; done) | skip
  · exact isZ_iff rfl (by first | rfl | kernel_rfl)
  · exact isZ_iff rfl (by first | rfl | kernel_rfl)
  · exact isZ_iff rfl (by first | rfl | kernel_rfl)
  · exact isZ_iff rfl (by first | rfl | kernel_rfl)
  · exact isZ_iff rfl (by first | rfl | kernel_rfl)
  · exact isZ_iff rfl (by first | rfl | kernel_rfl)
  · exact isZ_iff rfl (by first | rfl | kernel_rfl)
  · exact isZ_iff rfl (by first | rfl | kernel_rfl)
def isTup : D → Bool
  | .tup _ => true
  | _ => false
theorem isZ_Tup {K : PySem.W.Frag} {d : D} {Q : B → Prop} (h : dat d = true) : isZG K [d, .ty "tuple"] Q ↔ Q (.p (.bl (isTup d))) := by
  cases d <;> first | (cases h; done) | skip
  · exact isZ_iff rfl (by first | rfl | kernel_rfl)
  · exact isZ_iff rfl (by first | rfl | kernel_rfl)
  · exact isZ_iff rfl (by first | rfl | kernel_rfl)
  · exact isZ_iff rfl (by first | rfl | kernel_rfl)
  · exact isZ_iff rfl (by first | rfl | kernel_rfl)
  · exact isZ_iff rfl (by first | rfl | kernel_rfl)
  · exact isZ_iff rfl (by first | rfl | kernel_rfl)
  · exact isZ_iff rfl (by first | rfl | kernel_rfl)

/-! ### == of data -/
theorem eqD_str {a b : Str} : eqD (.str a) (.str b) = some (decide (a = b)) := by
  unfold eqD
  have h : (flatD (.str a) && flatD (.str b) && scal (flatV' (.str a)) (flatV' (.str b))) = true := rfl
  rw [if_pos h]
  by_cases e : a = b
  · rw [e]
    simp [flatV']
  · have e2 : ¬ flatV' (.str a) = flatV' (.str b) := fun z => e (V.str.inj z)
    rw [decide_eq_false e, decide_eq_false e2]
theorem eqD_int {a b : Int} : eqD (.int a) (.int b) = some (decide (a = b)) := by
  unfold eqD
  have h : (flatD (.int a) && flatD (.int b) && scal (flatV' (.int a)) (flatV' (.int b))) = true := rfl
  rw [if_pos h]
  by_cases e : a = b
  · rw [e]
    simp [flatV']
  · have e2 : ¬ flatV' (.int a) = flatV' (.int b) := fun z => e (V.int.inj z)
    rw [decide_eq_false e, decide_eq_false e2]
/-- data that == may walk -/
def Sh (k : Nat) (d : D) : Prop := ∃ c, toPy d = some c ∧ c.canLay0 = true ∧ c.depth ≤ k
theorem sh_all {k : Nat} : ∀ {ds : List D}, (∀ d ∈ ds, Sh k d) → ∃ cs, toPyL ds = some cs ∧ PyData.canLayAll0 cs = true ∧ PyData.depthAll cs ≤ k ∧ cs.length = ds.length
  | [], _ => ⟨[], rfl, rfl, Nat.zero_le _, rfl⟩
  | d :: ds, h => by
    obtain ⟨c, h1, h2, h3⟩ := h d List.mem_cons_self
    obtain ⟨cs, h4, h5, h6, h7⟩ := sh_all (ds := ds) fun d' hd => h d' (List.mem_cons_of_mem _ hd)
    refine ⟨c :: cs, ?_, ?_, Nat.max_le.mpr ⟨h3, h6⟩, by rw [List.length_cons, List.length_cons, h7]⟩
    · show (toPy d).bind (fun x => (toPyL ds).map fun xs => x :: xs) = _
      rw [h1, h4]
      rfl
    · show (c.canLay0 && PyData.canLayAll0 cs) = true
      rw [h2, h5]
      rfl
theorem sh_lst {k : Nat} {ds : List D} (h : ∀ d ∈ ds, Sh k d) : Sh (k + 1) (.lst ds) := by
  obtain ⟨cs, h1, h2, h3, _⟩ := sh_all h
  exact ⟨.list cs, by show (toPyL ds).map _ = _; rw [h1]; rfl, h2, Nat.succ_le_succ h3⟩
theorem sh_tup {k : Nat} {ds : List D} (h : ∀ d ∈ ds, Sh k d) : Sh (k + 1) (.tup ds) := by
  obtain ⟨cs, h1, h2, h3, _⟩ := sh_all h
  exact ⟨.tuple cs, by show (toPyL ds).map _ = _; rw [h1]; rfl, h2, Nat.succ_le_succ h3⟩
theorem Sh.mono {k k' : Nat} {d : D} (h : Sh k d) (hk : k ≤ k') : Sh k' d := by
  obtain ⟨c, h1, h2, h3⟩ := h
  exact ⟨c, h1, h2, Nat.le_trans h3 hk⟩
theorem sh_int {i : Int} : Sh 0 (.int i) := ⟨_, rfl, rfl, Nat.le_refl _⟩
theorem sh_bl {i : Bool} : Sh 0 (.bl i) := ⟨_, rfl, rfl, Nat.le_refl _⟩
theorem sh_non : Sh 0 .non := ⟨_, rfl, rfl, Nat.le_refl _⟩
theorem sh_str {x : Str} (h : ∀ c ∈ x.cps.toList, c < 1114112) : Sh 0 (.str x) := by
  refine ⟨_, rfl, ?_, Nat.le_refl _⟩
  show PyData.strOk x = true
  unfold PyData.strOk
  rw [Array.all_eq_true_iff_forall_mem]
  intro c hc
  exact decide_eq_true (h c (Array.mem_toList_iff.mpr hc))
theorem eqD_nil {k : Nat} {ds : List D} (hk : k ≤ 60) (h : ∀ d ∈ ds, Sh k d) : eqD (.lst ds) (.lst []) = some ds.isEmpty := by
  obtain ⟨cs, h1, h2, h3, h4⟩ := sh_all h
  unfold eqD
  rw [if_neg (by simp [flatD])]
  have e1 : toPy (.lst ds) = some (.list cs) := by
    show (toPyL ds).map _ = _
    rw [h1]
    rfl
  rw [e1]
  show (if (SeqAt.shaped (.list cs) && SeqAt.shaped (.list [])) = true then some (PyData.eqv (.list cs) (.list [])) else none) = _
  have s1 : SeqAt.shaped (.list cs) = true := by
    unfold SeqAt.shaped
    rw [Bool.and_eq_true]
    exact ⟨h2, decide_eq_true (by show PyData.depthAll cs + 1 ≤ 64; omega)⟩
  rw [s1, if_pos (by rfl)]
  cases ds with
  | nil =>
    have : cs = [] := List.length_eq_zero_iff.mp h4
    rw [this]
    rfl
  | cons d ds =>
    cases cs with
    | nil => cases h4
    | cons c cs => rfl

/-! ### for, by what stays true -/
theorem forL_inv (I : Env' → Prop) {g : TGD} {tb : TSD} {Z : EndsD} : ∀ {ds : List D}, (∀ d ∈ ds, ∀ δ, I δ → ∀ N : Env' → Prop, (∀ δ', I δ' → N δ') → g d δ fun δ1 => tb { Z with nx := N, ct := N, bk := Z.nx } δ1) → (∀ δ, I δ → Z.nx δ) → ∀ {δ}, I δ → forL g tb Z ds δ
  | [], _, hz, δ, h => hz δ h
  | d :: ds, hs, hz, δ, h => hs d List.mem_cons_self δ h _ fun δ' h' => forL_inv I (ds := ds) (fun d' hd => hs d' (List.mem_cons_of_mem _ hd)) hz h'
end DD

set_option Elab.async false
set_option linter.all false
set_option maxRecDepth 100000
set_option maxHeartbeats 4000000
/-! DD17: repr((x, y)) of two names, which stay one's own. -/
namespace DD
open PySem PySem.Spec PyProof.Rows L2
section
variable {K : PySem.W.Frag} {W : Fix} {F H : Hp} {σ : L2.St} {δ : Env'}
/-- data of a slot, read over a larger frozen part -/
theorem RB.reads {b : B} {v : V} (h : RB K W F H b v) (hu : b.isU = false) (fh : Same F H) : ∃ F', Same F F' ∧ Same F' H ∧ Rp K F' b.d v := by
  cases b with
  | p d => exact ⟨F, Same.refl F, fh, h⟩
  | u w n => cases hu
  | s d => cases hu
  | n ds =>
    obtain ⟨t, xs, rfl, h1, h2, _⟩ := h
    refine ⟨F, Same.refl F, fh, ?_⟩
    show Rp K F (.tup ds) (.ref t)
    unfold Rp
    exact ⟨t, xs, rfl, h1, h2⟩
  | o d =>
    obtain ⟨a, rfl, h1, h2, h3⟩ := h
    obtain ⟨o, ho⟩ := h3.some
    refine ⟨upd F a o, same_upd h1, fun c u e => ?_, own_frozen h3 ho h1⟩
    by_cases q : c = a
    · subst q
      rw [upd_same] at e
      rw [ho]
      exact e
    · rw [upd_ne q] at e
      exact fh c u e
end
section
variable {X : Cx} {W : Fix} {x y : Str} {i j : Nat} {p p1 p2 p3 pos : Pos} {kk : Nat}
def dReprPair (i j : Nat) : TD := fun δ Q => ∃ b1 b2 c, δ[i]? = some (some b1) ∧ δ[j]? = some (some b2) ∧ b1.isU = false ∧ b2.isU = false ∧ toPyR (.tup [b1.d, b2.d]) = some c ∧ Shw c ∧ Q (.p (.str c.shown)) δ
theorem de_reprPair (gu : X.A.guards = some []) (hu : X.A.units + 64 < cLine) (hsy : ∃ o, X.K.lookup sysModules = some o) (hm : X.mg "repr" = none) (hi : X.N[i]? = some x) (hj : X.N[j]? = some y) (hg : Gl X "repr" := by exact rfl)
    (hv : Vis X.env.scope x := by first | exact Or.inl rfl | exact Or.inr (Or.inl rfl) | exact Or.inr (Or.inr rfl)) (hw : Vis X.env.scope y := by first | exact Or.inl rfl | exact Or.inr (Or.inl rfl) | exact Or.inr (Or.inr rfl))
    (d1 : (x == ("__debug__" : Str)) = false := by decide) (d2 : (x == ("__classdict__" : Str)) = false := by decide) (d3 : (y == ("__debug__" : Str)) = false := by decide) (d4 : (y == ("__classdict__" : Str)) = false := by decide) :
    DE X W (.Call (.Name "repr" p) [.Tuple [.Name x p1, .Name y p2] kk p3] [] pos) (dReprPair i j) :=
  .of (pe_callB (X := X) (call_repr gu hu hsy) hg hm bt_repr (pa_cons (pe_tup (pa_cons (pe_var hi hv d1 d2) (pa_cons (pe_var hj hw d3 d4) pa_nil))) pa_nil)) fun F H σ δ Q S q => by
    obtain ⟨b1, b2, c, e1, e2, u1, u2, tc, sh, q⟩ := q
    obtain ⟨v1, g1, r1⟩ := S.get i _ e1
    obtain ⟨v2, g2, r2⟩ := S.get j _ e2
    refine ⟨v1, g1, v2, g2, by show 2 ≤ sizeLine; decide, fun t ht => ?_⟩
    obtain ⟨F1, s1, s2, z1⟩ := r1.reads u1 S.fh
    have r2' : ∃ F2, Same F1 F2 ∧ Same F2 H ∧ Rp X.K F2 b2.d v2 := by
      obtain ⟨F2, t1, t2, z2⟩ := r2.reads u2 S.fh
      refine ⟨fun a => match F1 a with | some o => some o | none => F2 a, fun a o h => by simp only [h], fun a o h => ?_, Rp.mono (fun a o h => ?_) _ _ z2⟩
      · cases e : F1 a with
        | some u =>
          simp only [e] at h
          cases h
          exact s2 a o e
        | none =>
          simp only [e] at h
          exact t2 a o h
      · cases e : F1 a with
        | some u =>
          have h3 := s2 a u e
          rw [t2 a o h] at h3
          exact h3.symm
        | none => exact h
    obtain ⟨F2, s3, s4, z2⟩ := r2'
    have nF2 : F2 t = none := s4.free ht
    refine ⟨.ref t, c, rfl, ⟨upd F2 t (.tup [v1, v2]), .tup [b1.d, b2.d], fun a o h => ?_, ?_, tc⟩, sh, ?_⟩
    · by_cases e : a = t
      · subst e
        rw [upd_same] at h ⊢
        exact h
      · rw [upd_ne e] at h ⊢
        exact s4 a o h
    · unfold Rp
      have m := same_upd (o := .tup [v1, v2]) nF2
      exact ⟨t, _, rfl, .inl (.inl upd_same), .cons (Rp.mono (s3.trans m) _ _ z1) (.cons (Rp.mono m _ _ z2) .nil)⟩
    · exact .mk (S.newO ht) (by unfold Rp; rfl) q
end
end DD

set_option Elab.async false
set_option linter.all false
set_option maxRecDepth 100000
set_option maxHeartbeats 4000000
/-! DD18: what may be shown, by data; dict displays; d[k]; str(int). -/
namespace DD
open PySem PySem.Spec PyProof.Rows L2

/-! ### data that may be shown -/
structure Rs (n k : Nat) (d : D) : Prop where
  ex : ∃ c, toPyR d = some c ∧ c.showable = true ∧ c.depth ≤ k ∧ c.leavesShort 60 = true ∧ c.bulk ≤ n
theorem Rs.mono {n k n' k' : Nat} {d : D} (h : Rs n k d) (hn : n ≤ n') (hk : k ≤ k') : Rs n' k' d := by
  obtain ⟨c, h1, h2, h3, h4, h5⟩ := h.ex
  exact ⟨c, h1, h2, Nat.le_trans h3 hk, h4, Nat.le_trans h5 hn⟩
theorem Rs.shw {n k : Nat} {d : D} (h : Rs n k d) (hk : k ≤ 50) (hn : n ≤ 100000) : ∃ c, toPyR d = some c ∧ Shw c := by
  obtain ⟨c, h1, h2, h3, h4, h5⟩ := h.ex
  refine ⟨c, h1, h2, Nat.le_trans h3 hk, ?_⟩
  have := PyData.shown_le_bulk 60 (by decide) c h4
  rw [sizeLine_eq]
  have h6 : (60 + 2) * c.bulk ≤ 62 * 100000 := Nat.mul_le_mul (Nat.le_refl _) (Nat.le_trans h5 hn)
  omega
theorem rs_non : Rs 0 0 .non := ⟨_, rfl, rfl, Nat.le_refl _, rfl, Nat.le_refl _⟩
theorem rs_bl {b : Bool} : Rs 0 0 (.bl b) := ⟨_, rfl, rfl, Nat.le_refl _, rfl, Nat.le_refl _⟩
theorem rs_int {i : Int} (h : i.natAbs < 10 ^ 50) : Rs 0 0 (.int i) := by
  refine ⟨_, rfl, ?_, Nat.le_refl _, ?_, Nat.le_refl _⟩
  · refine decide_eq_true ?_
    by_cases h0 : i.natAbs = 0
    · rw [h0]
      decide
    · exact (Nat.log2_lt h0).mpr (Nat.lt_of_lt_of_le h (by decide +kernel))
  · show decide _ = true
    refine decide_eq_true ?_
    have := int_text_length_le10 (k := 50) (by decide) h
    show (Str.ofString (toString i)).length ≤ 60
    rw [PySem.ofString_length]
    omega
theorem rs_str {x : Str} {n : Nat} (h : ∀ c ∈ x.cps.toList, c < 1114112) (hl : x.length ≤ n) : Rs n 0 (.str x) := by
  refine ⟨_, rfl, rfl, Nat.le_refl _, ?_, hl⟩
  simp only [PyData.leavesShort, List.all_eq_true, decide_eq_true_eq]
  intro c hc
  exact Nat.lt_of_lt_of_le (h c hc) (by decide)
theorem rs_all {n k : Nat} : ∀ {ds : List D}, (∀ d ∈ ds, Rs n k d) → ∃ cs, toPyRL ds = some cs ∧ PyData.showableAll cs = true ∧ PyData.depthAll cs ≤ k ∧ PyData.leavesShortAll 60 cs = true ∧ PyData.bulkAll cs ≤ ds.length * (n + 1)
  | [], _ => ⟨[], rfl, rfl, Nat.zero_le _, rfl, Nat.zero_le _⟩
  | d :: ds, h => by
    obtain ⟨cs, h1, h2, h3, h4, h5⟩ := rs_all (ds := ds) fun d hd => h d (List.mem_cons_of_mem _ hd)
    obtain ⟨c, g1, g2, g3, g4, g5⟩ := (h d List.mem_cons_self).ex
    refine ⟨c :: cs, ?_, by simp only [PyData.showableAll, g2, h2, Bool.and_self], Nat.max_le.mpr ⟨g3, h3⟩, by simp only [PyData.leavesShortAll, g4, h4, Bool.and_self], ?_⟩
    · show (toPyR d).bind _ = _
      rw [g1, Option.bind_some, h1] <;> rfl
    · show c.bulk + 1 + PyData.bulkAll cs ≤ (ds.length + 1) * (n + 1)
      rw [Nat.add_mul]
      omega
theorem rs_lst {n k m : Nat} {ds : List D} (h : ∀ d ∈ ds, Rs n k d) (hm : ds.length ≤ m) : Rs (m * (n + 1)) (k + 1) (.lst ds) := by
  obtain ⟨cs, h1, h2, h3, h4, h5⟩ := rs_all h
  refine ⟨.list cs, ?_, h2, Nat.succ_le_succ h3, h4, Nat.le_trans h5 (Nat.mul_le_mul_right _ hm)⟩
  show (toPyRL ds).map _ = _
  rw [h1] <;> rfl
theorem rs_tup {n k m : Nat} {ds : List D} (h : ∀ d ∈ ds, Rs n k d) (hm : ds.length ≤ m) : Rs (m * (n + 1)) (k + 1) (.tup ds) := by
  obtain ⟨cs, h1, h2, h3, h4, h5⟩ := rs_all h
  refine ⟨.tuple cs, ?_, h2, Nat.succ_le_succ h3, h4, Nat.le_trans h5 (Nat.mul_le_mul_right _ hm)⟩
  show (toPyRL ds).map _ = _
  rw [h1] <;> rfl
theorem rs_dct0 : Rs 0 1 (.dct [] []) := ⟨_, rfl, rfl, by decide, rfl, Nat.le_refl _⟩

/-! ### == of equal data -/
theorem eqD_same {k : Nat} {d : D} (hk : k ≤ 60) (h : Sh k d) : eqD d d = some true := by
  obtain ⟨c, h1, h2, h3⟩ := h
  unfold eqD
  split
  · rw [decide_eq_true rfl]
  · have hs : SeqAt.shaped c = true := by
      unfold SeqAt.shaped
      rw [h2, decide_eq_true (show c.depth ≤ 64 by omega)]
      rfl
    rw [h1, Option.bind_some, Option.bind_some, hs, if_pos (by rfl), SeqAt.eqv_refl c h2]

/-! ### dicts as they are written -/
section
variable {X : Cx} {W : Fix} {pos : Pos}
structure DV (X : Cx) (ks : List Key) (keys : List (Option Expr)) (values : List Expr) (trs : List (TE × TE)) (t : TDA) : Prop where
  pp : ∀ pos, PPs X pos keys values trs
  run : ∀ (W : Fix) (F H : Hp) (σ : L2.St) (δ : Env') (Q : List D → Env' → Prop), SD X.K W F H σ δ → t δ Q →
    tPairs trs σ H fun ps H' => ∃ (F' : Hp) (xs : List V) (ds : List D) (δ' : Env'), ps = (ks.zip xs).map (fun kv => (kV kv.1, kv.2)) ∧ xs.length = ks.length ∧ Same F F' ∧ SD X.K W F' H' σ δ' ∧ RpL X.K F' ds xs ∧ Q ds δ'
theorem tPairs_imp : ∀ {trs : List (TE × TE)} {σ : L2.St} {H : Hp} {Q Q' : List (V × V) → Hp → Prop}, (∀ p ∈ trs, ∀ (σ : L2.St) (H : Hp) (Q Q' : VK), p.1 σ H Q → (∀ v H', Q v H' → Q' v H') → p.1 σ H Q') → (∀ p ∈ trs, ∀ (σ : L2.St) (H : Hp) (Q Q' : VK), p.2 σ H Q → (∀ v H', Q v H' → Q' v H') → p.2 σ H Q') →
    tPairs trs σ H Q → (∀ ps H', Q ps H' → Q' ps H') → tPairs trs σ H Q'
  | [], _, _, _, _, _, _, h, i => i _ _ h
  | (tk, tv) :: r, σ, H, Q, Q', m1, m2, h, i => m1 _ List.mem_cons_self _ _ _ _ h fun x H1 h1 => m2 _ List.mem_cons_self _ _ _ _ h1 fun y H2 h2 =>
    tPairs_imp (fun p hp => m1 p (List.mem_cons_of_mem _ hp)) (fun p hp => m2 p (List.mem_cons_of_mem _ hp)) h2 fun ps H3 h3 => i _ _ h3
structure DVm (trs : List (TE × TE)) : Prop where
  m1 : ∀ p ∈ trs, ∀ (σ : L2.St) (H : Hp) (Q Q' : VK), p.1 σ H Q → (∀ v H', Q v H' → Q' v H') → p.1 σ H Q'
  m2 : ∀ p ∈ trs, ∀ (σ : L2.St) (H : Hp) (Q Q' : VK), p.2 σ H Q → (∀ v H', Q v H' → Q' v H') → p.2 σ H Q'
structure DVs (X : Cx) (ks : List Key) (keys : List (Option Expr)) (values : List Expr) (t : TDA) : Prop where
  ex : ∃ trs, DV X ks keys values trs t ∧ DVm trs
theorem dv_nil : DVs X [] [] [] dNil := ⟨[], ⟨fun _ => pps_nil, fun W F H σ δ Q S q => ⟨F, [], [], δ, rfl, rfl, Same.refl F, S, .nil, q⟩⟩, ⟨(fun _ h => by cases h), fun _ h => by cases h⟩⟩
theorem dv_cons {ek e : Expr} {k : Key} {ks : List Key} {keys : List (Option Expr)} {values : List Expr} {te : TD} {t : TDA} (hk : keyE ek = some k) (h : ∀ W, DE X W e te) (g : DVs X ks keys values t) : DVs X (k :: ks) (some ek :: keys) (e :: values) (dCons te t) := by
  obtain ⟨trs, g, m⟩ := g.ex
  refine ⟨(tC (kV k), cE X e) :: trs, ⟨fun pos => pps_cons (key_pe hk) cE_pe (g.pp pos), fun W F H σ δ Q S q => ?_⟩, ⟨fun p hp => ?_, fun p hp => ?_⟩⟩
  · refine ((h W).plain S q).imp fun y H2 h2 => ?_
    obtain ⟨F1, d, δ1, e1, S1, r1, q1⟩ := h2
    refine tPairs_imp m.m1 m.m2 (g.run W F1 H2 σ δ1 _ S1 q1) fun ps H3 h3 => ?_
    obtain ⟨F2, xs, ds, δ2, rfl, hl, e2, S2, r2, q2⟩ := h3
    exact ⟨F2, y :: xs, d :: ds, δ2, rfl, by rw [List.length_cons, List.length_cons, hl], e1.trans e2, S2, .cons (Rp.mono e2 d y r1) r2, q2⟩
  · rcases List.mem_cons.mp hp with rfl | hp
    · exact fun σ H Q Q' h i => i _ _ h
    · exact m.m1 p hp
  · rcases List.mem_cons.mp hp with rfl | hp
    · exact fun σ H Q Q' h i => cE.imp h i
    · exact m.m2 p hp
theorem mergeK_new : ∀ {more kvs : List (Key × V)}, (more.map (·.1)).Nodup → (∀ kv ∈ more, valV kvs kv.1 = none) → mergeK kvs more = kvs ++ more
  | [], kvs, _, _ => (List.append_nil _).symm
  | (k, v) :: more, kvs, nd, hn => by
    have e : mergeK kvs ((k, v) :: more) = mergeK (putK kvs k v) more := rfl
    rw [e, putK_new v (hn _ List.mem_cons_self)]
    have nd' := List.nodup_cons.mp (show (k :: more.map (·.1)).Nodup from nd)
    rw [mergeK_new nd'.2 fun kv hkv => ?_, List.append_assoc]
    · rfl
    · have h1 := hn kv (List.mem_cons_of_mem _ hkv)
      have h2 : ¬ k = kv.1 := fun z => nd'.1 (by rw [z]; exact List.mem_map_of_mem hkv)
      unfold valV at h1 ⊢
      rw [List.find?_append]
      cases hf : kvs.find? fun p => decide (p.1 = kv.1) with
      | some p =>
        rw [hf] at h1
        cases h1
      | none => simp [h2]
theorem zip_keys : ∀ {ks : List Key} {xs : List V}, xs.length = ks.length → (ks.zip xs).map (·.1) = ks
  | [], _, _ => rfl
  | k :: ks, [], h => by simp at h
  | k :: ks, x :: xs, h => by rw [List.zip_cons_cons, List.map_cons, zip_keys (ks := ks) (xs := xs) (by simpa using h)]
def dDctN (ks : List Key) (t : TDA) : TD := fun δ Q => t δ fun ds δ1 => Q (.o (.dct ks ds)) δ1
theorem de_dctN {keys : List (Option Expr)} {values : List Expr} {ks : List Key} {t : TDA} (g : DVs X ks keys values t) (nd : ks.Nodup) (hall : keys.all (·.isSome) = true) (hl : keys.length = values.length) (h0 : keys ≠ []) (h15 : keys.length ≤ 15) (hk : ks.length ≤ 15) : DE X W (.Dict keys values pos) (dDctN ks t) := by
  obtain ⟨trs, g, m⟩ := g.ex
  refine .of (pe_disp (X := X) (g.pp pos) hall hl h0 h15) fun F H σ δ Q S q p hp => ?_
  have S1 := S.newO (o := .dK []) hp
  have h0 := S.fresh0 hp
  have hF := S.freshF hp
  have hP : W.P ≠ some p := fun z => by
    obtain ⟨_, ⟨o, z2⟩, _⟩ := S.fp p z
    rw [hp] at z2
    cases z2
  have Sh := S1.held (o := .dK []) upd_same h0 hF hP fun j c h1 h2 h3 => by
    obtain ⟨u, h4, h5⟩ := S.get j c h1
    rw [h3] at h4
    cases h4
    obtain ⟨a', o, z, h6, _⟩ := h5.there h2
    cases z
    rw [hp] at h6
    cases h6
  refine tPairs_imp m.m1 m.m2 (g.run (W.hold p (.dK [])) F _ σ δ _ Sh q) fun ps H1 h1 => ?_
  obtain ⟨F1, xs, ds, δ1, rfl, hlx, e1, S2, r1, q1⟩ := h1
  obtain ⟨S3, h3, hF1, hn⟩ := S2.unheld h0 (S.f0.free hF) hP
  refine ⟨h3, ks.zip xs, rfl, by rw [List.length_zip]; omega, ?_⟩
  have em : mergeK [] (ks.zip xs) = ks.zip xs := by
    rw [mergeK_new (by rw [zip_keys hlx]; exact nd) (fun _ _ => rfl), List.nil_append]
  rw [em]
  exact ⟨F1, .o (.dct ks ds), δ1, e1, S3.turn h0 hF1 hn, ⟨p, rfl, hF1, h0, xs, upd_same, r1, hlx.symm⟩, fun _ => hn, q1⟩

/-! ### d[k], too -/
def keyD : D → Option Key
  | .int i => some (.inl i)
  | .str x => some (.inr x)
  | _ => none
def lookD : List Key → List D → Key → Option D
  | k :: ks, d :: ds, j => if k = j then some d else lookD ks ds j
  | _, _, _ => none
theorem rp_key {K : PySem.W.Frag} {F : Hp} {d : D} {v : V} {k : Key} (h : Rp K F d v) (e : keyD d = some k) : v = kV k := by
  cases d <;> first | (cases e; done) | skip
  · cases e
    exact rpInt h
  · cases e
    exact rpStr h
theorem look_val {K : PySem.W.Frag} {F : Hp} : ∀ {ks : List Key} {ds : List D} {xs : List V} {k : Key} {d : D}, RpL K F ds xs → lookD ks ds k = some d → ∃ x, valV (ks.zip xs) k = some x ∧ Rp K F d x
  | [], _, _, _, _, _, e => by cases e
  | _ :: _, [], _, _, _, _, e => by cases e
  | j :: ks, d' :: ds, xs, k, d, h, e => by
    unfold RpL at h
    obtain ⟨x, r, rfl, h1, h2⟩ := h
    unfold lookD at e
    rw [List.zip_cons_cons]
    by_cases hj : j = k
    · rw [if_pos hj] at e
      cases e
      exact ⟨x, valV_pos hj, h1⟩
    · rw [if_neg hj] at e
      obtain ⟨y, e1, e2⟩ := look_val h2 e
      exact ⟨y, by rw [valV_neg hj]; exact e1, e2⟩
def rIxDct : R2 := fun x y H Q => ∃ a v, x = .ref a ∧ DGet H a y (some v) ∧ Q v H
theorem ix_dct (hu : X.A.units + 64 < cLine) : IxR X rIxDct := by
  intro value slice pins s σ H x y v u Q I rx ry h hs
  obtain ⟨a, z, rfl, g, q⟩ := h
  cases rx
  exact tail_any (dict_typeIs I g) PySem.F.slot_dict_getitem.lookup (d_getItem (by omega) I g ry fun w' s' I' r' => ⟨z, H, I', r', q⟩) hs
def itemD2 : D → D → Option D
  | .dct ks ds, y => (keyD y).bind (lookD ks ds)
  | x, y => itemD x y
def ixG2 : D → D → (B → Prop) → Prop := fun x y Q => ∃ d, itemD2 x y = some d ∧ Q (.p d)
theorem rd_ix2 {K : PySem.W.Frag} : RD K (fun x y H Q => rIx K x y H Q ∨ rIxDct x y H Q) ixG2 := by
  intro W F H σ δ x y c d Q Z S rc rd g hZ
  obtain ⟨e, he, q⟩ := g
  have other : itemD c d = some e → rIx K x y H Z := fun he => rd_ix W F H σ δ x y c d Q Z S rc rd ⟨e, he, q⟩ hZ
  cases c <;> first | exact .inl (other he) | skip
  rename_i ks ds
  have he : (keyD d).bind (lookD ks ds) = some e := he
  cases hk : keyD d with
  | none =>
    rw [hk] at he
    cases he
  | some k =>
    rw [hk] at he
    unfold Rp at rc
    obtain ⟨a, xs, rfl, h1, h2, _⟩ := rc
    obtain ⟨v, e1, e2⟩ := look_val h2 (show lookD ks ds k = some e from he)
    have ey := rp_key rd hk
    subst ey
    refine .inr ⟨a, v, rfl, ?_, hZ _ _ (mkP S e2 q)⟩
    rw [← e1]
    exact DGet.k (S.fh _ _ h1)
theorem de_ix2 {a b : Expr} {ta tb : TD} (hu : X.A.units + 64 < cLine) (ha : DE X W a ta) (hb : DE X W b tb) (hs : PlainIx b) : DE X W (.Subscript a b pos) (dOp ixG2 ta tb) :=
  .of (pe_ix (X := X) (ix_seq.or (ix_dct hu)) cE_pe cE_pe hs) fun _ _ _ _ _ S q => two ha hb rd_ix2 S q

/-! ### str(i) -/
def rStr2 : List V → Hp → VK → Prop := fun xs H Q => (∃ a, xs = [.str a] ∧ Q (.str a) H) ∨ ∃ i, xs = [.int i] ∧ i.natAbs.log2 < 1920 ∧ Q (.str (toString i)) H
theorem call_str2 : CallR X (.type "str") rStr2 := by
  intro pins s σ H xs us Q I r h
  rcases h with h | h
  · exact SkE.call_str_str pins s σ H xs us Q I r h
  · exact call_str_int pins s σ H xs us Q I r h
def strG2 : List D → (B → Prop) → Prop := fun ds Q => ∃ d, ds = [d] ∧ match d with
  | .str s => Q (.p (.str s))
  | .int i => i.natAbs.log2 < 1920 ∧ Q (.p (.str (Str.ofString (toString i))))
  | _ => False
theorem rc_str2 {K : PySem.W.Frag} : RC K rStr2 strG2 := by
  intro W F H σ δ xs ds Q Z S r g hZ
  obtain ⟨d, rfl, g⟩ := g
  obtain ⟨y, rfl, ry⟩ := rpL1x r
  cases d <;> first | exact g.elim | skip
  · rename_i i
    rw [rpInt ry]
    exact .inr ⟨i, rfl, g.1, hZ _ _ (mkP S (by unfold Rp; rfl) g.2)⟩
  · rename_i x
    rw [rpStr ry]
    exact .inl ⟨x, rfl, hZ _ _ (mkP S (by unfold Rp; rfl) g)⟩
end
/-! ### slices from the start, to the end -/
theorem cutD_take {ds : List D} {k : Nat} (h : k ≤ ds.length) : cutD ds none (some (k : Int)) = ds.take k := by
  unfold cutD
  rw [HT.sIx_nat, HT.sIx_none, List.drop_zero, Nat.sub_zero, Nat.min_eq_left h]
theorem cutD_drop {ds : List D} {k : Nat} (h : k ≤ ds.length) : cutD ds (some (k : Int)) none = ds.drop k := by
  unfold cutD
  rw [HT.sIx_nat, HT.sIx_none, Nat.min_eq_left h]
  exact List.take_of_length_le (by rw [List.length_drop]; omega)
/-! ### for, by what stays true of what was walked -/
theorem forL_pre (I : List D → Env' → Prop) {g : TGD} {tb : TSD} {Z : EndsD} : ∀ {ds pre : List D}, (∀ (p : List D) (d : D) (r : List D) (δ : Env'), pre ++ ds = p ++ d :: r → I p δ → ∀ N : Env' → Prop, (∀ δ', I (p ++ [d]) δ' → N δ') → g d δ fun δ1 => tb { Z with nx := N, ct := N, bk := Z.nx } δ1) → (∀ δ, I (pre ++ ds) δ → Z.nx δ) → ∀ {δ}, I pre δ → forL g tb Z ds δ
  | [], pre, _, hz, δ, h => hz δ (by rw [List.append_nil]; exact h)
  | d :: ds, pre, hs, hz, δ, h => hs pre d ds δ rfl h _ fun δ' h' => forL_pre I (ds := ds) (pre := pre ++ [d]) (fun p d' r δ e => hs p d' r δ (by rw [← e, List.append_assoc]; rfl)) (fun δ q => hz δ (by rw [List.append_assoc] at q; exact q)) h'
/-- one statement at a time -/
theorem dseq {t u : TSD} {Z : EndsD} {δ : Env'} (h : t { Z with nx := u Z } δ) : dSeq t u Z δ := h
/-- a comprehension, by what stays true of what was walked and made -/
theorem lcL_pre (I : List D → List D → Env' → Prop) {g : TGD} {tt : TDT} {te : TD} {vs : List Nat} {Q : List D → Env' → Prop} (hz : ∀ p acc δ, I p acc δ → acc.length < sizeLine) : ∀ {ds pre acc : List D} {δ : Env'},
    (∀ (p : List D) (d : D) (r acc : List D) (δ : Env'), pre ++ ds = p ++ d :: r → I p acc δ → ∀ (N : D → Env' → Prop) (M : Env' → Prop), (∀ y δ', I (p ++ [d]) (acc ++ [y]) (wipeE δ' vs) → N y δ') → (∀ δ', I (p ++ [d]) acc (wipeE δ' vs) → M δ') → g d δ fun δ1 => tt δ1 fun k δ2 => if k = true then dp te δ2 N else M δ2) →
    (∀ acc δ, I (pre ++ ds) acc δ → Q acc δ) → I pre acc δ → lcL g tt te vs Q ds acc δ
  | [], pre, acc, δ, _, hq, h => hq acc δ (by rw [List.append_nil]; exact h)
  | d :: ds, pre, acc, δ, hs, hq, h => by
    have more : ∀ acc' δ', I (pre ++ [d]) acc' δ' → lcL g tt te vs Q ds acc' δ' := fun acc' δ' h' => lcL_pre I hz (pre := pre ++ [d]) (fun p d' r a e q => hs p d' r a e (by rw [← q, List.append_assoc]; rfl)) (fun a e q => hq a e (by rw [List.append_assoc] at q; exact q)) h'
    exact hs pre d ds acc δ rfl h (fun y δ3 => acc.length < sizeLine ∧ lcL g tt te vs Q ds (acc ++ [y]) (wipeE δ3 vs)) (fun δ2 => lcL g tt te vs Q ds acc (wipeE δ2 vs)) (fun y δ' q => ⟨hz _ _ _ h, more _ _ q⟩) fun δ' q => more _ _ q
end DD

set_option Elab.async false
set_option linter.all false
set_option maxRecDepth 100000
set_option maxHeartbeats 4000000
/-! DD19: instances of own classes: fields, properties, methods, __init__, isinstance. -/
namespace DD
open PySem PySem.Spec PyProof.Rows L2

/-! ### fields -/
def lookF : List Str → List D → Str → Option D
  | n :: ns, d :: ds, f => if f = n then some d else lookF ns ds f
  | _, _, _ => none
theorem lookF_val {K : PySem.W.Frag} {F : Hp} : ∀ {ns : List Str} {ds : List D} {xs : List V} {f : Str} {d : D}, RpL K F ds xs → lookF ns ds f = some d → ∃ x, (ns.zip xs).lookup f = some x ∧ Rp K F d x
  | [], _, _, _, _, _, e => by cases e
  | _ :: _, [], _, _, _, _, e => by cases e
  | n :: ns, d' :: ds, xs, f, d, h, e => by
    unfold RpL at h
    obtain ⟨x, r, rfl, h1, h2⟩ := h
    unfold lookF at e
    rw [List.zip_cons_cons, List.lookup_cons]
    by_cases hj : f = n
    · rw [if_pos hj] at e
      cases e
      have hb : (f == n) = true := beq_iff_eq.mpr hj
      rw [hb]
      exact ⟨x, rfl, h1⟩
    · rw [if_neg hj] at e
      obtain ⟨y, e1, e2⟩ := lookF_val h2 e
      have hb : (f == n) = false := beq_eq_false_iff_ne.mpr hj
      rw [hb]
      exact ⟨y, e1, e2⟩
structure FldOk (K : PySem.W.Frag) (C : Addr) (f : Str) : Prop where
  c : Cls K C
  n : NoAttr K C f
section
variable {X : Cx} {W : Fix} {e : Expr} {te : TD} {f : Str} {pos : Pos}
def dFld (K : PySem.W.Frag) (f : Str) (te : TD) : TD := fun δ Q => dp te δ fun d δ1 => ∃ C ns ds y, d = .ins C ns ds ∧ FldOk K C f ∧ lookF ns ds f = some y ∧ Q (.p y) δ1
theorem de_fld (h : DE X W e te) (hb : attributeBase e f X.env (eval e X.env) = eval e X.env := by rfl) : DE X W (.Attribute e f pos) (dFld X.K f te) :=
  .of (pe_fld (X := X) cE_pe hb) fun F H σ δ Q S q => by
    refine (h.plain S q).imp fun v H1 h1 => ?_
    obtain ⟨F1, d, δ1, e1, S1, r1, C, ns, ds, y, rfl, ok, l, q1⟩ := h1
    unfold Rp at r1
    obtain ⟨a, dx, xs, rfl, g1, g2, _⟩ := r1
    obtain ⟨x, g4, g5⟩ := lookF_val g2 l
    exact ⟨a, C, dx, _, x, rfl, S1.fh _ _ g1, ok.c, ok.n, g4, (DQ.mk S1 g5 q1).back e1⟩
end

/-! ### the field of a slot's own object is set -/
def setF (f : Str) (y : D) : List Str → List D → List Str × List D
  | n :: ns, d :: ds => if n = f then (n :: ns, y :: ds) else ((n :: (setF f y ns ds).1), d :: (setF f y ns ds).2)
  | _, _ => ([f], [y])
theorem setF_ok {K : PySem.W.Frag} {F : Hp} {f : Str} {y : D} {v : V} (hy : Rp K F y v) : ∀ {ns : List Str} {ds : List D} {xs : List V}, RpL K F ds xs → ns.length = xs.length →
    ∃ ys, putF f v (ns.zip xs) = (setF f y ns ds).1.zip ys ∧ RpL K F (setF f y ns ds).2 ys ∧ (setF f y ns ds).1.length = ys.length
  | [], ds, xs, h, hl => by
    cases xs with
    | cons x xs => cases hl
    | nil =>
      have : ds = [] := List.length_eq_zero_iff.mp (by rw [← h.length]; rfl)
      subst this
      exact ⟨[v], rfl, .cons hy .nil, rfl⟩
  | n :: ns, [], xs, h, hl => by
    unfold RpL at h
    subst h
    cases hl
  | n :: ns, d :: ds, xs, h, hl => by
    unfold RpL at h
    obtain ⟨x, r, rfl, h1, h2⟩ := h
    by_cases e : n = f
    · refine ⟨v :: r, ?_, ?_, ?_⟩
      · show (if n = f then (n, v) :: ns.zip r else (n, x) :: putF f v (ns.zip r)) = (if n = f then (n :: ns, y :: ds) else _).1.zip (v :: r)
        rw [if_pos e, if_pos e]
        rfl
      · show RpL K F (if n = f then (n :: ns, y :: ds) else _).2 (v :: r)
        rw [if_pos e]
        exact .cons hy h2
      · show (if n = f then (n :: ns, y :: ds) else _).1.length = _
        rw [if_pos e]
        exact hl
    · obtain ⟨ys, g1, g2, g3⟩ := setF_ok (f := f) (y := y) hy h2 (by simpa using hl)
      refine ⟨x :: ys, ?_, ?_, ?_⟩
      · show (if n = f then (n, v) :: ns.zip r else (n, x) :: putF f v (ns.zip r)) = (if n = f then _ else (n :: (setF f y ns ds).1, d :: (setF f y ns ds).2)).1.zip (x :: ys)
        rw [if_neg e, if_neg e, g1]
        rfl
      · show RpL K F (if n = f then _ else (n :: (setF f y ns ds).1, d :: (setF f y ns ds).2)).2 (x :: ys)
        rw [if_neg e]
        exact .cons h1 g2
      · show (if n = f then _ else (n :: (setF f y ns ds).1, d :: (setF f y ns ds).2)).1.length = _
        rw [if_neg e]
        show (setF f y ns ds).1.length + 1 = ys.length + 1
        rw [g3]
/-- a slot's borrowed object turns -/
theorem SD.s_turn {K : PySem.W.Frag} {W : Fix} {F H : Hp} {σ : L2.St} {δ : Env'} {i : Nat} {d d' : D} {a : Addr} {o : HO} (S : SD K W F H σ δ) (hi : δ[i]? = some (some (.s d))) (ha : σ[i]? = some (some (.ref a))) (ho : Own K F (upd H a o) d' a) :
    SD K W F (upd H a o) σ (δ.set i (some (.s d'))) := by
  obtain ⟨v, e1, a', rfl, hF, hP, hO⟩ := S.get i _ hi
  rw [ha] at e1
  cases e1
  have hli : i < δ.length := (List.getElem?_eq_some_iff.mp hi).1
  have aux : ∀ (j : Nat) (c : B), (δ.set i (some (.s d')))[j]? = some (some c) → (j = i ∧ c = .s d') ∨ (j ≠ i ∧ δ[j]? = some (some c)) := fun j c h => by
    by_cases e : j = i
    · subst e
      rw [List.getElem?_set_self hli] at h
      cases h
      exact .inl ⟨rfl, rfl⟩
    · rw [List.getElem?_set_ne (Ne.symm e)] at h
      exact .inr ⟨e, h⟩
  refine ⟨S.f0, fun b u h n => ?_, fun b u h => ?_, S.fr, fun b h => ?_, by rw [List.length_set]; exact S.len, fun j c h => ?_, fun j k c e v ne h1 h2 h3 h4 h5 => ?_⟩
  · rw [upd_ne (fun z => n (by rw [z, hP]))]
    exact S.h0 b u h n
  · rw [upd_ne (fun z => by rw [z, hF] at h; cases h)]
    exact S.fh b u h
  · obtain ⟨h1, ⟨u, h2⟩, h3⟩ := S.fp b h
    refine ⟨h1, ?_, h3⟩
    by_cases e : b = a
    · rw [e]
      exact ⟨o, upd_same⟩
    · exact ⟨u, by rw [upd_ne e]; exact h2⟩
  · rcases aux j c h with ⟨rfl, rfl⟩ | ⟨hj, h⟩
    · exact ⟨.ref a, ha, a, rfl, hF, hP, ho⟩
    · obtain ⟨v, h1, h2⟩ := S.get j c h
      refine ⟨v, h1, h2.keep (Same.refl F) (fun b u hv hb h3 => ?_) fun b hv hb h3 => h3⟩
      rw [upd_ne (fun z => ?_)]
      · exact h3
      · subst z
        rw [hv] at h1
        exact S.sep i j _ c _ (Ne.symm hj) hi rfl h hb ha h1
  · have g1 : ∃ c', δ[j]? = some (some c') ∧ c'.own = true := by
      rcases aux j c h1 with ⟨rfl, rfl⟩ | ⟨_, h⟩
      · exact ⟨_, hi, rfl⟩
      · exact ⟨c, h, h2⟩
    have g2 : ∃ c', δ[k]? = some (some c') ∧ c'.own = true := by
      rcases aux k e h3 with ⟨rfl, rfl⟩ | ⟨_, h⟩
      · exact ⟨_, hi, rfl⟩
      · exact ⟨e, h, h4⟩
    obtain ⟨c', g1, g1'⟩ := g1
    obtain ⟨d', g2, g2'⟩ := g2
    exact S.sep j k c' d' v ne g1 g1' g2 g2' h5
section
variable {X : Cx} {W : Fix} {x : Str} {i : Nat} {e : Expr} {te : TD} {f : Str} {px pos' pos : Pos}
/-- self.f = e, self borrowed in slot i -/
def dSetF (K : PySem.W.Frag) (i : Nat) (f : Str) (te : TD) : TSD := fun Z δ => dp te δ fun y δ1 => ∃ C ns ds, δ1[i]? = some (some (.s (.ins C ns ds))) ∧ FldOk K C f ∧ ns.length < 1000 ∧ Z.nx (δ1.set i (some (.s (.ins C (setF f y ns ds).1 (setF f y ns ds).2))))
theorem ds_setF (hN : X.N[i]? = some x) (h : DE X W e te) (hv : Vis X.env.scope x := by first | exact Or.inl rfl | exact Or.inr (Or.inl rfl) | exact Or.inr (Or.inr rfl)) (hd : (x == ("__debug__" : Str)) = false := by decide) (hcd : (x == ("__classdict__" : Str)) = false := by decide)
    (hs : swapsWith e (some (.Attribute (.Name x px) f pos')) pos.line X.env = pure false := by rfl) : DS X W (.Assign [.Attribute (.Name x px) f pos'] e pos) (dSetF X.K i f te) :=
  .of (ps_fld (X := X) (pe_var (X := X) hN hv hd hcd) cE_pe hs) fun F H σ δ Z S q => by
    refine (h.plain S q).imp fun v H1 h1 => ?_
    obtain ⟨F1, y, δ1, e1, S1, r1, C, ns, ds, hi, ok, hl, q1⟩ := h1
    obtain ⟨u, hu, a, rfl, hF, hP, dx, xs, g1, g2, g3⟩ := S1.get i _ hi
    obtain ⟨ys, g4, g5, g6⟩ := setF_ok (f := f) r1 g2 g3
    refine ⟨.ref a, hu, a, C, dx, _, rfl, g1, ok.c, ok.n, by rw [List.length_zip]; omega, ?_⟩
    rw [g4]
    exact ⟨F1, _, S1.s_turn (d' := .ins C (setF f y ns ds).1 (setF f y ns ds).2) hi hu ⟨dx, ys, upd_same, g5, g6⟩, q1⟩
end
end DD

set_option Elab.async false
set_option linter.all false
set_option maxRecDepth 100000
set_option maxHeartbeats 4000000
/-! DD20: defs with a borrowed self (an __init__, a method that changes its object); C(..); properties; methods. -/
namespace DD
open PySem PySem.Spec PyProof.Rows L2

/-- a promise: self's data, the arguments, the wish for the answer and self's data behind it, the wish for an exception -/
abbrev SpdS := D → List D → (B → D → Prop) → (Addr → List D → D → Prop) → Prop
structure AftS (F H : Hp) (x : Addr) (F' H' : Hp) : Prop where
  ff : Same F F'
  fh : Same F' H'
  keep : ∀ a o, H a = some o → a ≠ x → H' a = some o
  new : ∀ a o, F' a = some o → F a = some o ∨ H a = none
def toSpS (K : PySem.W.Frag) (spd : SpdS) : Sp := fun vs H Q E => ∃ (x : Addr) (F : Hp) (d0 : D) (ds : List D) (us : List V) (R : B → D → Prop) (ED : Addr → List D → D → Prop),
  vs = .ref x :: us ∧ Same F H ∧ F x = none ∧ Own K F H d0 x ∧ RpL K F ds us ∧ spd d0 ds R ED ∧
  (∀ v H' F' b d', AftS F H x F' H' → Own K F' H' d' x → F' x = none → Res K H F' H' b v → R b d' → Q v H') ∧
  (∀ cls d H' F' C es d', AftS F H x F' H' → Own K F' H' d' x → F' x = none → ExcRep K F' C es cls d → ED C es d' → E cls d H')
/-- THE RULE -/
theorem gs_of {P : Program} {w : World} {K : PySem.W.Frag} {mg : Str → Option Value} {base : Heap} {y qual : Str} {params : Arguments} {body : List Stmt} {scope : Scope} {dvs : List V} {kws : List (Str × V)} {f : Addr} {fd : FuncData} {N ps : List Str} {k : Nat} {spd : SpdS}
    (F : FunD K y qual params body scope dvs kws f fd) (S : FnScope N ps scope) (len : ∀ d0 ds R E, spd d0 ds R E → ds.length + 1 = ps.length)
    (hbody : ∀ (cdv : Value) (A : Around) (outer : List Env) (s : Shared) (H : Hp) (E : XK) (W : Fix) (d0 : D) (ds : List D) (R : B → D → Prop) (ED : Addr → List D → D → Prop), A.guards = some [] →
      Room k (A.deeper (envOfC qual scope s.heap.objs.size f cdv)) → TkE (cxOf (L2.CX P w) P w K mg base N qual scope f cdv A outer s H E) W (fun C es δ => ∃ d', δ[0]? = some (some (.s d')) ∧ ED C es d') → spd d0 ds R ED → Same W.F0 W.H0 →
      ∃ t, DSs (cxOf (L2.CX P w) P w K mg base N qual scope f cdv A outer s H E) W body t ∧
        t { nx := fun δ => ∃ d', δ[0]? = some (some (.s d')) ∧ R (.p .non) d', rt := fun b δ => b.isU = false ∧ ∃ d', δ[0]? = some (some (.s d')) ∧ R b d' } (startD N (.s d0 :: ds.map .p))) :
    GnOk P w K mg base (k + 1) f fd ps (toSpS K spd) := by
  obtain ⟨oc, od, dV, kV, doc, pm, an, cdv, ct, osl, rfl, lk, hcd, hD, hK⟩ := F.ex
  refine ⟨fun vs H Q E h => ?_, ?_⟩
  · obtain ⟨x, F0, d0, ds, us, R, ED, rfl, _, _, _, r, h, _⟩ := h
    rw [List.length_cons, r.length]
    exact len d0 ds R ED h
  intro A outer s H args us' vs Q E hg hr e0 hb r hsp
  obtain ⟨x, F0, d0, ds, us, R, ED, rfl, fh, hF, hO, ra, h, hQ, hE⟩ := hsp
  have kin : K.In s.heap := e0.mod.kin.keeps fun b o e => (e0.bs b o e).1
  refine codeAny_call_function hr.depth (kin _ _ lk) rfl S.co S.gen rfl (PySem.W.codeRec_of kin hcd) (hb _ _ _ _ ?_)
  have hk : ∀ y ∈ ps.zip us', scope.names.lookup y.1 = some .local ∨ (scope.names.lookup y.1 = some .cell ∧ ((cellsFrom (s.heap.objs.size + 1) scope.names []).lookup y.1).isSome = true) := by
    rintro ⟨n, v⟩ hy
    rcases S.par n (List.of_mem_zip hy).1 with q | q
    · exact Or.inl q
    · exact Or.inr ⟨q, PySem.W.cellsFrom_some _ _ _ (Or.inl q)⟩
  refine wpAny_newFunctionEnv_cells S.kind hk ?_
  intro env he s1 x1
  subst he
  refine ⟨(e0.mod.nolimit.keeps fun b o e => (e0.bs b o e).1).keeps x1.toInCall.keep, codeAny_func ?_⟩
  have S0 : SD K ⟨F0, H, some x, fun C es δ => ∃ d', δ[0]? = some (some (.s d')) ∧ ED C es d'⟩ F0 H (L2.start N (.ref x :: us)) (startD N (.s d0 :: ds.map .p)) := by
    refine .start fh (.cons (show Arg K F0 H (some x) (.s d0) (.ref x) from ⟨x, rfl, hF, rfl, hO⟩) (paired_p ra)) (fun p e => by cases e; exact ⟨hF, hO.some⟩) (pi := some 0) fun j b e hb => ?_
    cases j with
    | zero => rfl
    | succ j =>
      rw [List.getElem?_cons_succ, List.getElem?_map] at e
      cases q : ds[j]? with
      | none =>
        rw [q] at e
        cases e
      | some d =>
        rw [q] at e
        cases e
        cases hb
  have aft : ∀ {F' H' : Hp} {σ' : L2.St} {δ' : Env'} {d' : D}, SD K ⟨F0, H, some x, fun C es δ => ∃ d', δ[0]? = some (some (.s d')) ∧ ED C es d'⟩ F' H' σ' δ' → δ'[0]? = some (some (.s d')) → AftS F0 H x F' H' ∧ Own K F' H' d' x ∧ F' x = none := fun {F' H' σ' δ' d'} S' hi => by
    obtain ⟨v, h1, a, rfl, h2, h3, h4⟩ := S'.get 0 _ hi
    have h3 : some x = some a := h3
    cases h3
    exact ⟨⟨S'.f0, S'.fh, fun a o e n => S'.h0 a o e (fun z => n (Option.some.inj z).symm), S'.fr⟩, h4, h2⟩
  have tk : Takes (cxOf (L2.CX P w) P w K mg base N qual scope f cdv A outer s H E) (WXd K ⟨F0, H, some x, fun C es δ => ∃ d', δ[0]? = some (some (.s d')) ∧ ED C es d'⟩) := by
    refine (takes_of rfl rfl rfl rfl).imp fun cls d σ H' z => ?_
    obtain ⟨F', δ', C, es, S', er, d', hm, he⟩ := z
    obtain ⟨g1, g2, g3⟩ := aft S' hm
    exact hE cls d H' F' C es d' g1 g2 g3 er he
  obtain ⟨t, ht, q⟩ := hbody cdv A outer s H E _ d0 ds R ED hg (hr.deeper _) ⟨rfl, tk⟩ h fh
  have I := inv_start (CX := L2.CX P w) (P := P) (w := w) (mg := mg) (base := base) (E := E) S hr.hd e0 (show (V.ref x :: us).length = ps.length by rw [List.length_cons, ra.length]; exact len d0 ds R ED h) r x1
  refine wpAny_mono (ht.run F0 H _ _ _ S0 q [] s1 I) ?_ (fun e s' hs => hs)
  intro fl s' hs
  cases fl with
  | ret u =>
    obtain ⟨v, σ', H', J, rv, q⟩ := hs
    refine ⟨v, H', J.os, J.bare, J.base, J.hok, rv, ?_⟩
    obtain ⟨_, σ2, F', b, δ', e', S', rb, _, hu, d', hm, r'⟩ := q
    obtain ⟨g1, g2, g3⟩ := aft S' hm
    refine hQ v H' F' b d' g1 g2 g3 ?_ r'
    cases b with
    | p d => exact rb
    | n ds => exact rb
    | o d => exact rb
    | u w n => cases hu
    | s d => cases hu
  | next =>
    obtain ⟨σ', H', J, q⟩ := hs
    refine ⟨V.non, H', J.os, J.bare, J.base, J.hok, rfl, ?_⟩
    obtain ⟨F', δ', S', d', hm, r'⟩ := q
    obtain ⟨g1, g2, g3⟩ := aft S' hm
    exact hQ .non H' F' (.p .non) d' g1 g2 g3 (by unfold Res Rp; rfl) r'
  | brk =>
    obtain ⟨_, _, _, q⟩ := hs
    obtain ⟨_, _, _, q⟩ := q
    exact q.elim
  | cont =>
    obtain ⟨_, _, _, q⟩ := hs
    obtain ⟨_, _, _, q⟩ := q
    exact q.elim
end DD

set_option Elab.async false
set_option linter.all false
set_option maxRecDepth 100000
set_option maxHeartbeats 4000000
/-! DD21: C(..), properties, methods of frozen objects, isinstance, over data. -/
namespace DD
open PySem PySem.Spec PyProof.Rows L2

/-- behind a call that may change the object at x, which no slot owns -/
theorem SD.afterX {K : PySem.W.Frag} {W : Fix} {F H F' H' : Hp} {σ : L2.St} {δ : Env'} {x : Addr} (S : SD K W F H σ δ) (h0 : W.H0 x = none) (hP : W.P ≠ some x)
    (hn : ∀ (j : Nat) (c : B), δ[j]? = some (some c) → c.own = true → σ[j]? ≠ some (some (.ref x))) (a : AftS F H x F' H') : SD K W F' H' σ δ where
  f0 := S.f0.trans a.ff
  h0 := fun b o h n => a.keep b o (S.h0 b o h n) fun z => by rw [z, h0] at h; cases h
  fh := a.fh
  fr := fun b o h => by
    rcases a.new b o h with h1 | h1
    · exact S.fr b o h1
    · exact .inr (S.fresh0 h1)
  fp := fun b h => by
    obtain ⟨h1, ⟨o, h2⟩, h3⟩ := S.fp b h
    refine ⟨?_, ⟨o, a.keep b o h2 fun z => hP (by rw [h, z])⟩, h3⟩
    cases q : F' b with
    | none => rfl
    | some u =>
      rcases a.new b u q with h4 | h4
      · rw [h1] at h4
        cases h4
      · rw [h2] at h4
        cases h4
  len := S.len
  get := fun i b h => by
    obtain ⟨v, h1, h2⟩ := S.get i b h
    refine ⟨v, h1, h2.keep a.ff (fun c o hv hb h3 => a.keep c o h3 fun z => ?_) fun c hv hb h3 => ?_⟩
    · rw [z] at hv
      rw [hv] at h1
      exact hn i b h hb h1
    · obtain ⟨c', o, e1, h4, _⟩ := h2.there hb
      rw [hv] at e1
      cases e1
      cases q : F' c with
      | none => rfl
      | some u =>
        rcases a.new c u q with h5 | h5
        · rw [h3] at h5
          cases h5
        · rw [h4] at h5
          cases h5
  sep := S.sep
theorem free_slots {K : PySem.W.Frag} {W : Fix} {F H : Hp} {σ : L2.St} {δ : Env'} {x : Addr} (S : SD K W F H σ δ) (hx : H x = none) : ∀ (j : Nat) (c : B), δ[j]? = some (some c) → c.own = true → σ[j]? ≠ some (some (.ref x)) := fun j c h1 h2 h3 => by
  obtain ⟨u, h4, h5⟩ := S.get j c h1
  rw [h3] at h4
  cases h4
  obtain ⟨a', o, e, h6, _⟩ := h5.there h2
  cases e
  rw [hx] at h6
  cases h6
theorem make_guards {A : Around} {C : Addr} {us : List Value} {kw : List (Str × Value)} : (A.under (.builtin "type.__call__" ⟨.ref C :: us, kw⟩)).guards = A.guards := by
  first | rfl | simp [Around.under, Code.weight, Code.isCreation, Code.isGuard, Code.isCaller, Code.frames, Code.isFrame, guardIds]

/-! ### C(..) -/
section
variable {X : Cx} {k : Nat} {f C : Addr} {fd : FuncData} {ps ks : List Str} {sp : Sp} {E : XK} {x : Str} {p pos : Pos} {e : Expr} {es : List Expr} {kws : List Keyword} {t tk : TA} {g : List Value → List Value → List Value} {gV : List V → List V → List V} {dvs : List V} {dfs : List Value}
theorem run_makeG {pins : List (Addr × Obj)} {σ : L2.St} {H : Hp} {s : Shared} {Q : VK} {us ws : List Value} {binds : List Value} {vs : List V} (gu : X.A.guards = some []) (M : Mk X.K C f) (G : GnOk X.prog X.w X.K X.mg X.base k f fd ps sp) (hr : Room (k + 1) X.A)
    (hb : ∀ (s : Shared) (y : Value), X.K.In s.heap → BindsTo s fd ⟨y :: us, ks.zip ws⟩ (ps.zip (y :: binds))) (hx : PassesAt (L2.CX X.prog X.w) X σ E)
    (I : Inv X pins σ H s) (r : Vals vs binds)
    (h : ∀ x dx, H x = none → H dx = none → dx ≠ x → sp (.ref x :: vs) (upd (upd H dx (.own x)) x (.ins C dx [])) (fun v H2 => v = .non ∧ Q (.ref x) H2) E) :
    wpAny (model X.prog X.w) X.A (call (.ref C) us (ks.zip ws)) (EP X pins σ Q) X.xe s := by
  have hq := h (s.heap.objs.size + 1) s.heap.objs.size (I.hok.fresh (Nat.le_succ _)) (I.hok.fresh (Nat.le_refl _)) (Nat.ne_of_lt (Nat.lt_succ_self _))
  have I2 := Inv.made (C := C) I
  have r1 : Vals (V.ref (s.heap.objs.size + 1) :: vs) (Value.ref (s.heap.objs.size + 1) :: binds) := .cons rfl r
  refine wpAny_call (make_map (f := f) I.kIn M.makes M.init (beq_iff_eq.mp M.fn) (codeAny_mono (G.run _ X.stack _ _ ⟨Value.ref (s.heap.objs.size + 1) :: us, ks.zip ws⟩ (Value.ref (s.heap.objs.size + 1) :: binds) _ _ E (by rw [make_guards]; exact gu) (hr.make C us (ks.zip ws))
    (I2.env0.make C us (ks.zip ws)) (hb _ _ I2.kIn) r1 hq) fun r s' hq' => ?_))
  cases r with
  | error e => exact hx pins _ _ e s' I2 hq'
  | ok fl =>
    cases fl with
    | ret u =>
      obtain ⟨v, H', I3, rv, ev, q3⟩ := I2.after hq'
      subst ev
      exact ⟨rv, ⟨V.ref (s.heap.objs.size + 1), H', I3, rfl, q3⟩⟩
    | next => exact False.elim hq'
    | brk => exact False.elim hq'
    | cont => exact False.elim hq'
/-- C(e, ..), the rest by defaults -/
def tMakeG (C : Addr) (sp : Sp) (dvs : List V) (Es : L2.St → XK) (t : TA) : TE := fun σ H Q => t σ H fun vs H1 => ∀ x dx, H1 x = none → H1 dx = none → dx ≠ x →
  sp (.ref x :: (vs ++ dvs)) (upd (upd H1 dx (.own x)) x (.ins C dx [])) (fun v H2 => v = .non ∧ Q (.ref x) H2) (Es σ)
theorem pe_makeG {Es : L2.St → XK} (gu : X.A.guards = some []) (M : Mk X.K C f) (G : GnOk X.prog X.w X.K X.mg X.base k f fd ps sp) (hr : Room (k + 1) X.A) (hg : Gl X x) (hm : X.mg x = some (.ref C)) (hb : Binds X.K fd ps dfs) (hd : Vals dvs dfs) (hx : ∀ σ, PassesAt (L2.CX X.prog X.w) X σ (Es σ))
    (ha : PA X (e :: es) t) (hdb : (x == ("__debug__" : Str)) = false := by decide) (he : starEach (e :: es) X.env = (false, eval e X.env) :: starEach es X.env := by rfl) (hpl : (backTo pos (starEach es X.env)).any (·.1) = false := by rfl) :
    PE X (.Call (.Name x p) (e :: es) [] pos) (tMakeG C sp dvs Es t) := by
  refine ⟨fun pins s σ H Q I h => ?_⟩
  refine wpAny_Call_Name_kw (ld_glob I hg hm ?_ hdb)
  refine PySem.W.callWith_K (h₀ := X.base) I.ok.mod.kin M.kp (thn (ha.run pos pins s σ H _ I h) fun us s1 ⟨vs, H1, I1, r, q⟩ => ⟨I1.kIn, ?_⟩) he hpl
  have hq := q (s1.heap.objs.size + 1) s1.heap.objs.size (I1.hok.fresh (Nat.le_succ _)) (I1.hok.fresh (Nat.le_refl _)) (Nat.ne_of_lt (Nat.lt_succ_self _))
  have r2 : Vals (vs ++ dvs) (us ++ dfs) := r.append hd
  have hl : ∀ y : Value, ((y :: us) ++ dfs).length = ps.length := fun y => by
    have := G.len _ _ _ _ hq
    rw [List.length_cons, r2.length] at this
    exact this
  exact run_makeG (us := us) (ws := []) (ks := []) (binds := us ++ dfs) gu M G hr (fun s y kin => hb s (y :: us) kin (hl y)) (hx σ) I1 r2 q
/-- C(e, .., k = v, ..) -/
def tMakeKG (C : Addr) (n m : Nat) (sp : Sp) (gV : List V → List V → List V) (Es : L2.St → XK) (t tk : TA) : TE := fun σ H Q => t σ H fun vs H1 => tk σ H1 fun zs H2 => vs.length = n ∧ zs.length = m ∧ ∀ x dx, H2 x = none → H2 dx = none → dx ≠ x →
  sp (.ref x :: gV vs zs) (upd (upd H2 dx (.own x)) x (.ins C dx [])) (fun v H3 => v = .non ∧ Q (.ref x) H3) (Es σ)
/-- how a call's values become the parameters: n behind self, keywords ks -/
structure KBg (K : PySem.W.Frag) (fd : FuncData) (ps : List Str) (n : Nat) (ks : List Str) (gV : List V → List V → List V) (gD : List D → List D → List D) : Prop where
  ex : ∃ g : List Value → List Value → List Value, (∀ (s : Shared) (y : Value) (us ws : List Value), K.In s.heap → us.length = n → ws.length = ks.length → BindsTo s fd ⟨y :: us, ks.zip ws⟩ (ps.zip (y :: g us ws))) ∧
    (∀ {vs : List V} {us : List Value} {zs : List V} {ws : List Value}, Vals vs us → Vals zs ws → us.length = n → ws.length = ks.length → Vals (gV vs zs) (g us ws))
  rp : ∀ {F : Hp} {ds es : List D} {us zs : List V}, RpL K F ds us → RpL K F es zs → us.length = n → zs.length = ks.length → RpL K F (gD ds es) (gV us zs)
theorem pe_makeKG {Es : L2.St → XK} {n : Nat} {gD : List D → List D → List D} (gu : X.A.guards = some []) (M : Mk X.K C f) (G : GnOk X.prog X.w X.K X.mg X.base k f fd ps sp) (hr : Room (k + 1) X.A) (hg : Gl X x) (hm : X.mg x = some (.ref C)) (hb : KBg X.K fd ps n ks gV gD) (hx : ∀ σ, PassesAt (L2.CX X.prog X.w) X σ (Es σ))
    (ha : PA X (e :: es) t) (hkw : PK X kws tk)
    (hall : (backToKw pos (keywordEach kws X.env)).all (·.1.isSome) = true := by rfl) (hks : (backToKw pos (keywordEach kws X.env)).filterMap (·.1) = ks := by rfl) (hdb : (x == ("__debug__" : Str)) = false := by decide)
    (he : starEach (e :: es) X.env = (false, eval e X.env) :: starEach es X.env := by rfl) (hpl : ((backTo pos (starEach (e :: es) X.env)).any (·.1) || (backToKw pos (keywordEach kws X.env)).any (·.1.isNone)) = false := by rfl) :
    PE X (.Call (.Name x p) (e :: es) kws pos) (tMakeKG C n ks.length sp gV Es t tk) := by
  refine ⟨fun pins s σ H Q I h => ?_⟩
  refine wpAny_Call_Name_kw (ld_glob I hg hm ?_ hdb)
  refine PySem.W.callWith_KW (h₀ := X.base) I.ok.mod.kin M.kp hall (thn (ha.run pos pins s σ H _ I h) fun us s1 ⟨vs, H1, I1, r, q⟩ => ?_) hpl he
  refine thn (hkw.run pos pins s1 σ H1 _ I1 q) fun ws s2 ⟨zs, H2, I2, rz, l1, l2, q2⟩ => ⟨I2.kIn, ?_⟩
  rw [hks]
  obtain ⟨g, b1, b2⟩ := hb.ex
  have n1 : us.length = n := r.length.symm.trans l1
  have n2 : ws.length = ks.length := rz.length.symm.trans l2
  exact run_makeG (us := us) (ws := ws) (binds := g us ws) gu M G hr (fun s y kin => b1 s y us ws kin n1 n2) (hx σ) I2 (b2 r rz n1 n2) q2
end
/-- a class of the text: its __init__'s promise -/
structure MakC (P : Program) (w : World) (K : PySem.W.Frag) (mg : Str → Option Value) (base : Heap) (x : Str) (C : Addr) (k : Nat) (ps : List Str) (dds : List D) (spd : SpdS) : Prop where
  ex : ∃ f fd dfs dvs, GnOk P w K mg base k f fd ps (toSpS K spd) ∧ Mk K C f ∧ mg x = some (.ref C) ∧ Binds K fd ps dfs ∧ Vals dvs dfs ∧ ∀ F, RpL K F dds dvs
structure MakK (P : Program) (w : World) (K : PySem.W.Frag) (mg : Str → Option Value) (base : Heap) (x : Str) (C : Addr) (k n : Nat) (ks : List Str) (gD : List D → List D → List D) (spd : SpdS) : Prop where
  ex : ∃ f fd ps gV, GnOk P w K mg base k f fd ps (toSpS K spd) ∧ Mk K C f ∧ mg x = some (.ref C) ∧ KBg K fd ps n ks gV gD
section
variable {X : Cx} {W : Fix} {E0 : Addr → List D → Env' → Prop} {k k' n : Nat} {C : Addr} {ps ks : List Str} {dds : List D} {spd : SpdS} {x : Str} {p pos : Pos} {e : Expr} {es : List Expr} {kws : List Keyword} {t tk : TDA} {gD : List D → List D → List D}
def dMake (C : Addr) (spd : SpdS) (dds : List D) (Ew : Addr → List D → Env' → Prop) (t : TDA) : TD := fun δ Q => t δ fun ds δ1 => spd (.ins C [] []) (ds ++ dds) (fun b d => b = .p .non ∧ Q (.o d) δ1) fun C' es _ => Ew C' es δ1
/-- what comes of the making -/
theorem make_fin {K : PySem.W.Frag} {P : Program} {F1 H1 : Hp} {σ : L2.St} {δ1 : Env'} {ds : List D} {vs : List V} {Q : B → Env' → Prop} {Ew : Addr → List D → Env' → Prop} {Z : VK} {Ex : XK} (S1 : SD K W F1 H1 σ δ1) (r : RpL K F1 ds vs)
    (h : spd (.ins C [] []) ds (fun b d => b = .p .non ∧ Q (.o d) δ1) fun C' es _ => Ew C' es δ1)
    (hZ : ∀ v H', DQ K W F1 σ Q v H' → Z v H') (hE : ∀ cls d H', (∃ (F' : Hp) (C' : Addr) (es : List D), Same F1 F' ∧ SD K W F' H' σ δ1 ∧ ExcRep K F' C' es cls d ∧ Ew C' es δ1) → Ex cls d H') :
    ∀ x dx, H1 x = none → H1 dx = none → dx ≠ x → toSpS K spd (.ref x :: vs) (upd (upd H1 dx (.own x)) x (.ins C dx [])) (fun v H2 => v = .non ∧ Z (.ref x) H2) Ex := by
  intro x dx hx hdx ne
  have hx2 : (upd H1 dx (HO.own x)) x = none := by rw [upd_ne (Ne.symm ne)]; exact hx
  have S2 : SD K W F1 (upd (upd H1 dx (.own x)) x (.ins C dx [])) σ δ1 := (S1.newO hdx).newO hx2
  have hP : W.P ≠ some x := fun z => by
    obtain ⟨_, ⟨o, z2⟩, _⟩ := S1.fp x z
    rw [hx] at z2
    cases z2
  have hn := free_slots S1 hx
  refine ⟨x, F1, .ins C [] [], ds, vs, _, _, rfl, S2.fh, S1.freshF hx, ⟨dx, [], upd_same, .nil, rfl⟩, r, h, fun v H' F' b d' a ow hF r z => ?_, fun cls d H' F' C' es d' a ow hF er z => ?_⟩
  · obtain ⟨rfl, q⟩ := z
    have S3 := S2.afterX (S1.fresh0 hx) hP hn a
    have rv : v = .non := by
      have r : Rp K F' .non v := r
      unfold Rp at r
      exact r
    exact ⟨rv, hZ _ _ ⟨F', .o d', δ1, a.ff, S3, ⟨x, rfl, hF, S1.fresh0 hx, ow⟩, fun _ => hn, q⟩⟩
  · have S3 := S2.afterX (S1.fresh0 hx) hP hn a
    exact hE cls d H' ⟨F', C', es, a.ff, S3, er, z⟩
theorem de_make (c : MakC X.prog X.w X.K X.mg X.base x C k ps dds spd) (gu : X.A.guards = some []) (hr : Room k' X.A) (h : DA X W (e :: es) t) (hg : Gl X x := by exact rfl) (hk : k + 1 ≤ k' := by decide) (hdb : (x == ("__debug__" : Str)) = false := by decide)
    (he : starEach (e :: es) X.env = (false, eval e X.env) :: starEach es X.env := by rfl) (hpl : (backTo pos (starEach es X.env)).any (·.1) = false := by rfl) : DE X W (.Call (.Name x p) (e :: es) [] pos) (dMake C spd dds (fun _ _ _ => False) t) := by
  obtain ⟨f, fd, dfs, dvs, G, M, hm, b, hd, hdd⟩ := c.ex
  refine .of (pe_makeG (X := X) (Es := fun _ _ _ _ => False) gu M G (hr.mono hk) hg hm b hd (fun σ => pass_none) cA_pa hdb he hpl) fun F H σ δ Q S q => ?_
  refine (h.run F H σ δ _ S q).imp fun vs H1 h1 => ?_
  obtain ⟨F1, ds, δ1, e1, S1, r1, q1⟩ := h1
  exact make_fin (P := X.prog) (Ew := fun _ _ _ => False) S1 (r1.append (hdd F1)) q1 (fun v H' z => z.back e1) fun cls d H' z => by
    obtain ⟨_, _, _, _, _, _, z⟩ := z
    exact z
theorem de_makeX (te : TkE X W E0) (c : MakC X.prog X.w X.K X.mg X.base x C k ps dds spd) (gu : X.A.guards = some []) (hr : Room k' X.A) (h : DA X W (e :: es) t) (hg : Gl X x := by exact rfl) (hk : k + 1 ≤ k' := by decide) (hdb : (x == ("__debug__" : Str)) = false := by decide)
    (he : starEach (e :: es) X.env = (false, eval e X.env) :: starEach es X.env := by rfl) (hpl : (backTo pos (starEach es X.env)).any (·.1) = false := by rfl) : DE X W (.Call (.Name x p) (e :: es) [] pos) (dMake C spd dds E0 t) := by
  obtain ⟨f, fd, dfs, dvs, G, M, hm, b, hd, hdd⟩ := c.ex
  refine .of (pe_makeG (X := X) (Es := WE (WXd X.K W)) gu M G (hr.mono hk) hg hm b hd (fun σ => passAt te.tk σ) cA_pa hdb he hpl) fun F H σ δ Q S q => ?_
  refine (h.run F H σ δ _ S q).imp fun vs H1 h1 => ?_
  obtain ⟨F1, ds, δ1, e1, S1, r1, q1⟩ := h1
  exact make_fin (P := X.prog) S1 (r1.append (hdd F1)) q1 (fun v H' z => z.back e1) fun cls d H' z => by
    obtain ⟨F', C', es, _, S3, er, z⟩ := z
    exact ⟨F', δ1, C', es, S3, er, by rw [te.eq]; exact z⟩
/-- C(e, .., k = v, ..) -/
def dMakeK (C : Addr) (spd : SpdS) (n m : Nat) (gD : List D → List D → List D) (Ew : Addr → List D → Env' → Prop) (t tk : TDA) : TD := fun δ Q => t δ fun ds δ1 => tk δ1 fun es δ2 => ds.length = n ∧ es.length = m ∧ spd (.ins C [] []) (gD ds es) (fun b d => b = .p .non ∧ Q (.o d) δ2) fun C' es _ => Ew C' es δ2
theorem de_makeK (c : MakK X.prog X.w X.K X.mg X.base x C k n ks gD spd) (gu : X.A.guards = some []) (hr : Room k' X.A) (h : DA X W (e :: es) t) (hkw : DK X W kws tk) (hg : Gl X x := by exact rfl) (hk : k + 1 ≤ k' := by decide)
    (hall : (backToKw pos (keywordEach kws X.env)).all (·.1.isSome) = true := by rfl) (hks : (backToKw pos (keywordEach kws X.env)).filterMap (·.1) = ks := by rfl) (hdb : (x == ("__debug__" : Str)) = false := by decide)
    (he : starEach (e :: es) X.env = (false, eval e X.env) :: starEach es X.env := by rfl) (hpl : ((backTo pos (starEach (e :: es) X.env)).any (·.1) || (backToKw pos (keywordEach kws X.env)).any (·.1.isNone)) = false := by rfl) :
    DE X W (.Call (.Name x p) (e :: es) kws pos) (dMakeK C spd n ks.length gD (fun _ _ _ => False) t tk) := by
  obtain ⟨f, fd, ps, gV, G, M, hm, kb⟩ := c.ex
  refine .of (pe_makeKG (X := X) (tk := cK X kws) (Es := fun _ _ _ _ => False) gu M G (hr.mono hk) hg hm kb (fun σ => pass_none) cA_pa ⟨fun pos pins s _ _ _ I h => h pos pins s I⟩ hall hks hdb he hpl) fun F H σ δ Q S q => ?_
  refine (h.run F H σ δ _ S q).imp fun vs H1 h1 => ?_
  obtain ⟨F1, ds, δ1, e1, S1, r1, q1⟩ := h1
  intro pos pins s I
  refine thn (hkw.run F1 H1 σ δ1 _ S1 q1 pos pins s I) fun ws s2 h2 => ?_
  obtain ⟨zs, H2, I2, rz, F2, es', δ2, e2, S2, r2, n1, n2, q2⟩ := h2
  have r1' := RpL.mono e2 _ _ r1
  exact ⟨zs, H2, I2, rz, by rw [r1.length]; exact n1, by rw [r2.length]; exact n2, make_fin (P := X.prog) (Ew := fun _ _ _ => False) S2 (kb.rp r1' r2 (by rw [r1.length]; exact n1) (by rw [r2.length]; exact n2)) q2 (fun v H' z => z.back (e1.trans e2)) fun cls d H' z => by
    obtain ⟨_, _, _, _, _, _, z⟩ := z
    exact z⟩
theorem de_makeKX (te : TkE X W E0) (c : MakK X.prog X.w X.K X.mg X.base x C k n ks gD spd) (gu : X.A.guards = some []) (hr : Room k' X.A) (h : DA X W (e :: es) t) (hkw : DK X W kws tk) (hg : Gl X x := by exact rfl) (hk : k + 1 ≤ k' := by decide)
    (hall : (backToKw pos (keywordEach kws X.env)).all (·.1.isSome) = true := by rfl) (hks : (backToKw pos (keywordEach kws X.env)).filterMap (·.1) = ks := by rfl) (hdb : (x == ("__debug__" : Str)) = false := by decide)
    (he : starEach (e :: es) X.env = (false, eval e X.env) :: starEach es X.env := by rfl) (hpl : ((backTo pos (starEach (e :: es) X.env)).any (·.1) || (backToKw pos (keywordEach kws X.env)).any (·.1.isNone)) = false := by rfl) :
    DE X W (.Call (.Name x p) (e :: es) kws pos) (dMakeK C spd n ks.length gD E0 t tk) := by
  obtain ⟨f, fd, ps, gV, G, M, hm, kb⟩ := c.ex
  refine .of (pe_makeKG (X := X) (tk := cK X kws) (Es := WE (WXd X.K W)) gu M G (hr.mono hk) hg hm kb (fun σ => passAt te.tk σ) cA_pa ⟨fun pos pins s _ _ _ I h => h pos pins s I⟩ hall hks hdb he hpl) fun F H σ δ Q S q => ?_
  refine (h.run F H σ δ _ S q).imp fun vs H1 h1 => ?_
  obtain ⟨F1, ds, δ1, e1, S1, r1, q1⟩ := h1
  intro pos pins s I
  refine thn (hkw.run F1 H1 σ δ1 _ S1 q1 pos pins s I) fun ws s2 h2 => ?_
  obtain ⟨zs, H2, I2, rz, F2, es', δ2, e2, S2, r2, n1, n2, q2⟩ := h2
  have r1' := RpL.mono e2 _ _ r1
  exact ⟨zs, H2, I2, rz, by rw [r1.length]; exact n1, by rw [r2.length]; exact n2, make_fin (P := X.prog) S2 (kb.rp r1' r2 (by rw [r1.length]; exact n1) (by rw [r2.length]; exact n2)) q2 (fun v H' z => z.back (e1.trans e2)) fun cls d H' z => by
    obtain ⟨F', C', es, _, S3, er, z⟩ := z
    exact ⟨F', δ2, C', es, S3, er, by rw [te.eq]; exact z⟩⟩
end

/-! ### e.f, a property -/
structure PropC (P : Program) (w : World) (K : PySem.W.Frag) (mg : Str → Option Value) (base : Heap) (C : Addr) (f : Str) (k : Nat) (spd : Spd) : Prop where
  ex : ∃ p g fd, Cls K C ∧ PropOf K C f p g ∧ GnOk P w K mg base k g fd ["self"] (toSp K spd) ∧ Binds K fd ["self"] []
theorem in1_guards {A : Around} : A.in1.guards = A.guards := by
  first | rfl | simp [Around.in1]
section
variable {X : Cx} {k k' : Nat} {C p g a dx : Addr} {fs : List (Str × V)} {f : Str} {fd : FuncData} {ps : List Str} {sp : Sp} {E : XK} {e : Expr} {pos : Pos} {ta : TE}
theorem getprop_g {pins : List (Addr × Obj)} {σ : L2.St} {H : Hp} {s : Shared} {Q : VK} {b : Bool} (gu : X.A.guards = some []) (I : Inv X pins σ H s) (ea : H a = some (.ins C dx fs)) (c : Cls X.K C) (hp : PropOf X.K C f p g)
    (G : GnOk X.prog X.w X.K X.mg X.base k g fd ps sp) (hr : Room (k + 1) X.A) (hb : Binds X.K fd ps []) (h : sp [.ref a] H Q (fun _ _ _ => False)) :
    wpAny (model X.prog X.w) X.A (getAttr (.ref a) f b) (EP X pins σ Q) X.xe s := by
  obtain ⟨mA, O, _, _, _, _⟩ := ins_get I.hok ea
  obtain ⟨od, J, _⟩ := O.look
  obtain ⟨rest, hrec⟩ := hp.rec_
  have I1 := I.tok (s.toks + 1)
  have hl : ([Value.ref a] ++ []).length = ps.length := (G.len _ _ _ _ h)
  have hc : (PySem.W.clsIn X.K C).isSome = true := by
    obtain ⟨cd, hc, _⟩ := PySem.W.any_some c.hd
    rw [hc]
    rfl
  refine PySem.W.get_bind I.kIn J (PySem.W.plainGet_of (c.get f)).1 (PySem.W.findObj_data hc hp.at_ hp.get hp.tak) (PySem.W.plainGet_of (c.get f)).2 (wpAny_call (PySem.W.prop_get (s := { s with toks := s.toks + 1 }) I.kIn hrec ?_))
  refine codeAny_mono (G.run X.A.in1 X.stack { s with toks := s.toks + 1 } H ⟨[.ref a], []⟩ [.ref a] [.ref a] Q _ (by rw [in1_guards]; exact gu) hr.in1 I1.env0.in1 (hb _ [.ref a] I1.kIn hl) (.cons rfl .nil) h) fun r s' hq => ?_
  cases r with
  | error er =>
    obtain ⟨_, _, _, _, _, _, _, _, _, _, _, _, z⟩ := hq
    exact z.elim
  | ok fl =>
    cases fl with
    | ret u =>
      obtain ⟨v, H', I3, rv, q3⟩ := I1.after hq
      show wpAny _ _ (handedOut u) _ _ _
      rw [PySem.W.handedOut_of (handed_of rv)]
      exact wpAny_pure ⟨v, H', I3, rv, q3⟩
    | next => exact False.elim hq
    | brk => exact False.elim hq
    | cont => exact False.elim hq
def tPropG (C : Addr) (sp : Sp) (ta : TE) : TE := fun σ H Q => ta σ H fun x H1 => ∃ a dx fs, x = .ref a ∧ H1 a = some (.ins C dx fs) ∧ sp [.ref a] H1 Q (fun _ _ _ => False)
theorem pe_propG (gu : X.A.guards = some []) (he : PE X e ta) (c : Cls X.K C) (hp : PropOf X.K C f p g) (G : GnOk X.prog X.w X.K X.mg X.base k g fd ps sp) (hr : Room (k + 1) X.A) (hb : Binds X.K fd ps [])
    (hab : attributeBase e f X.env (eval e X.env) = eval e X.env) : PE X (.Attribute e f pos) (tPropG C sp ta) := by
  refine ⟨fun pins s σ H Q I h => ?_⟩
  refine attr_of hab (thn (he.run pins s σ H _ I h) fun u s1 ⟨x, H1, I1, rx, a, dx, fs, ex, ea, q⟩ => ?_)
  subst ex
  obtain rfl : u = Value.ref a := rx
  exact getprop_g gu I1 ea c hp G hr hb q
end
section
variable {X : Cx} {W : Fix} {k k' : Nat} {C : Addr} {f : Str} {spd : Spd} {e : Expr} {te : TD} {pos : Pos}
def dProp (C : Addr) (spd : Spd) (te : TD) : TD := fun δ Q => dp te δ fun d δ1 => (∃ ns ds, d = .ins C ns ds) ∧ spd [.p d] (fun b _ => b.isU = false ∧ Q b δ1) fun _ _ _ => False
theorem de_prop (c : PropC X.prog X.w X.K X.mg X.base C f k spd) (gu : X.A.guards = some []) (hr : Room k' X.A) (h : DE X W e te) (hk : k + 1 ≤ k' := by decide) (hab : attributeBase e f X.env (eval e X.env) = eval e X.env := by rfl) : DE X W (.Attribute e f pos) (dProp C spd te) := by
  obtain ⟨p, g, fd, cl, hp, G, b⟩ := c.ex
  refine .of (pe_propG (X := X) gu cE_pe cl hp G (hr.mono hk) b hab) fun F H σ δ Q S q => ?_
  refine (h.plain S q).imp fun v H1 h1 => ?_
  obtain ⟨F1, d, δ1, e1, S1, r1, ⟨ns, ds, rfl⟩, q1⟩ := h1
  have r0 := r1
  unfold Rp at r1
  obtain ⟨a, dx, xs, rfl, g1, g2, _⟩ := r1
  refine ⟨a, dx, _, rfl, S1.fh _ _ g1, F1, none, [.p (.ins C ns ds)], _, _, S1.fh, .cons r0 .nil, (fun p e => by cases e), q1, fun v H' F' b m af r z => ?_, fun cls d H' F' C' es m _ _ z => z.elim⟩
  obtain ⟨r2, r3⟩ := RB.of_res S1 r
  exact ⟨F', b, δ1, e1.trans af.ff, S1.after af, r2, r3, z.2⟩
end

/-! ### o.m(e, ..), o frozen -/
structure MethC (P : Program) (w : World) (K : PySem.W.Frag) (mg : Str → Option Value) (base : Heap) (C : Addr) (m : Str) (k : Nat) (ps : List Str) (spd : Spd) : Prop where
  ex : ∃ f fd, Cls K C ∧ Meth K C m f ∧ GnOk P w K mg base k f fd ps (toSp K spd) ∧ Binds K fd ps []
section
variable {X : Cx} {k : Nat} {C f : Addr} {m : Str} {fd : FuncData} {ps : List Str} {sp : Sp} {e o : Expr} {es : List Expr} {apos pos : Pos} {ta : TE} {t : TA} {Es : L2.St → XK}
def tMethG (C : Addr) (m : Str) (sp : Sp) (Es : L2.St → XK) (ta : TE) (t : TA) : TE := fun σ H Q => ta σ H fun x H1 => ∃ a dx fs, x = .ref a ∧ H1 a = some (.ins C dx fs) ∧ fs.lookup m = none ∧ t σ H1 fun vs H2 => sp (x :: vs) H2 Q (Es σ)
theorem pe_methG {pl : Sem Bool} (gu : X.A.guards = some []) (he : PE X o ta) (c : Cls X.K C) (hm : Meth X.K C m f) (G : GnOk X.prog X.w X.K X.mg X.base k f fd ps sp) (hr : Room k X.A) (hb : Binds X.K fd ps []) (hx : ∀ σ, PassesAt (L2.CX X.prog X.w) X σ (Es σ)) (ha : PA X (e :: es) t)
    (hst : starEach (e :: es) X.env = (false, eval e X.env) :: starEach es X.env) (hpl : (backTo pos (starEach es X.env)).any (·.1) = false)
    (ht : eval (.Call (.Attribute o m apos) (e :: es) [] pos) X.env = (do
      let ov ← eval o X.env
      standAt apos.atName
      let (f, first) ← holding [ov] (getMethod ov m pl)
      callWith pos f first (backTo pos (starEach (e :: es) X.env)) (backToKw pos (keywordEach [] X.env)))) :
    PE X (.Call (.Attribute o m apos) (e :: es) [] pos) (tMethG C m sp Es ta t) := by
  refine ⟨fun pins s σ H Q I h => ?_⟩
  refine PySem.W.methodCall_KW (pl := pl) (thn (he.run pins s σ H _ I h) fun u s1 ⟨x, H1, I1, rx, a, dx, fs, ex, ea, l, q⟩ => ?_) ht
  subst ex
  obtain rfl : u = Value.ref a := rx
  refine getmeth_ok I1 ea c hm l ?_
  refine PySem.W.callWith_K (first := [.ref a]) (h₀ := X.base) I.ok.mod.kin hm.kp (thn (ha.run pos pins s1 σ H1 _ I1 q) fun us s2 ⟨vs, H2, I2, r, q2⟩ => ⟨I2.kIn, ?_⟩) hst hpl
  exact run_g (dvs := []) (dfs := []) (us := .ref a :: us) (vs := .ref a :: vs) G gu hr hb .nil (fun e s' c => hx σ pins H2 s2 e s' I2 c) I2 (.cons rfl r) (by rw [List.append_nil]; exact q2)
theorem pe_methG0 {pl : Sem Bool} (gu : X.A.guards = some []) (he : PE X o ta) (c : Cls X.K C) (hm : Meth X.K C m f) (G : GnOk X.prog X.w X.K X.mg X.base k f fd ps sp) (hr : Room k X.A) (hb : Binds X.K fd ps []) (hx : ∀ σ, PassesAt (L2.CX X.prog X.w) X σ (Es σ))
    (ht : eval (.Call (.Attribute o m apos) [] [] pos) X.env = (do
      let ov ← eval o X.env
      standAt apos.atName
      let (f, first) ← holding [ov] (getMethod ov m pl)
      callWith pos f first (backTo pos (starEach [] X.env)) (backToKw pos (keywordEach [] X.env)))) :
    PE X (.Call (.Attribute o m apos) [] [] pos) (tMethG C m sp Es ta tNil) := by
  refine ⟨fun pins s σ H Q I h => ?_⟩
  refine PySem.W.methodCall_KW (pl := pl) (thn (he.run pins s σ H _ I h) fun u s1 ⟨x, H1, I1, rx, a, dx, fs, ex, ea, l, q⟩ => ?_) ht
  subst ex
  obtain rfl : u = Value.ref a := rx
  refine getmeth_ok I1 ea c hm l ?_
  exact PySem.W.callWith_K0 (first := [.ref a]) I1.kIn hm.kp (run_g (dvs := []) (dfs := []) (us := [.ref a]) (vs := [.ref a]) G gu hr hb .nil (fun e s' c => hx σ pins H1 s1 e s' I1 c) I1 (.cons rfl .nil) (by rw [List.append_nil]; exact q))
end
end DD

set_option Elab.async false
set_option linter.all false
set_option maxRecDepth 100000
set_option maxHeartbeats 4000000
/-! DD22: methods over data; isinstance by its answer; == and != by an own __eq__. -/
namespace DD
open PySem PySem.Spec PyProof.Rows L2

section
variable {X : Cx} {W : Fix} {E0 : Addr → List D → Env' → Prop} {k k' : Nat} {C : Addr} {m : Str} {ps : List Str} {spd : Spd} {o e : Expr} {es : List Expr} {te : TD} {t : TDA} {apos pos : Pos}
def dMeth (C : Addr) (m : Str) (spd : Spd) (Ew : Addr → List D → Env' → Prop) (te : TD) (t : TDA) : TD := fun δ Q => dp te δ fun d δ1 => (∃ ns ds, d = .ins C ns ds ∧ m ∉ ns) ∧ t δ1 fun es δ2 => spd ((d :: es).map .p) (fun b _ => b.isU = false ∧ Q b δ2) fun C' es' _ => Ew C' es' δ2
theorem no_field {m : Str} : ∀ {ns : List Str} {xs : List V}, m ∉ ns → (ns.zip xs).lookup m = none
  | [], _, _ => rfl
  | n :: ns, [], _ => rfl
  | n :: ns, x :: xs, h => by
    have h1 : ¬ m = n := fun z => h (by rw [z]; exact List.mem_cons_self)
    have hb : (m == n) = false := beq_eq_false_iff_ne.mpr h1
    rw [List.zip_cons_cons, List.lookup_cons, hb]
    exact no_field fun z => h (List.mem_cons_of_mem _ z)
theorem de_meth {pl : Sem Bool} (c : MethC X.prog X.w X.K X.mg X.base C m k ps spd) (gu : X.A.guards = some []) (hr : Room k' X.A) (ho : DE X W o te) (h : DA X W (e :: es) t) (hk : k ≤ k' := by decide)
    (hst : starEach (e :: es) X.env = (false, eval e X.env) :: starEach es X.env := by rfl) (hpl : (backTo pos (starEach es X.env)).any (·.1) = false := by rfl)
    (ht : eval (.Call (.Attribute o m apos) (e :: es) [] pos) X.env = (do
      let ov ← eval o X.env
      standAt apos.atName
      let (f, first) ← holding [ov] (getMethod ov m pl)
      callWith pos f first (backTo pos (starEach (e :: es) X.env)) (backToKw pos (keywordEach [] X.env))) := by rfl) : DE X W (.Call (.Attribute o m apos) (e :: es) [] pos) (dMeth C m spd (fun _ _ _ => False) te t) := by
  obtain ⟨f, fd, cl, hm, G, b⟩ := c.ex
  refine .of (pe_methG (X := X) (Es := fun _ _ _ _ => False) gu cE_pe cl hm G (hr.mono hk) b (fun σ => pass_none) cA_pa hst hpl ht) fun F H σ δ Q S q => ?_
  refine (ho.plain S q).imp fun v H1 h1 => ?_
  obtain ⟨F1, d, δ1, e1, S1, r1, ⟨ns, ds, rfl, nf⟩, q1⟩ := h1
  have r0 := r1
  unfold Rp at r1
  obtain ⟨a, dx, xs, rfl, g1, g2, _⟩ := r1
  refine ⟨a, dx, _, rfl, S1.fh _ _ g1, no_field nf, ?_⟩
  refine (h.run F1 H1 σ δ1 _ S1 q1).imp fun vs H2 h2 => ?_
  obtain ⟨F2, es', δ2, e2, S2, r2, q2⟩ := h2
  refine ⟨F2, none, _, _, _, S2.fh, paired_p (.cons (Rp.mono e2 _ _ r0) r2), (fun p e => by cases e), q2, fun v H' F' b m a r z => ?_, fun cls d H' F' C ds m a er z => z.elim⟩
  obtain ⟨r3, r4⟩ := RB.of_res S2 r
  exact ⟨F', b, δ2, (e1.trans e2).trans a.ff, S2.after a, r3, r4, z.2⟩
theorem de_methX {pl : Sem Bool} (te' : TkE X W E0) (c : MethC X.prog X.w X.K X.mg X.base C m k ps spd) (gu : X.A.guards = some []) (hr : Room k' X.A) (ho : DE X W o te) (h : DA X W (e :: es) t) (hk : k ≤ k' := by decide)
    (hst : starEach (e :: es) X.env = (false, eval e X.env) :: starEach es X.env := by rfl) (hpl : (backTo pos (starEach es X.env)).any (·.1) = false := by rfl)
    (ht : eval (.Call (.Attribute o m apos) (e :: es) [] pos) X.env = (do
      let ov ← eval o X.env
      standAt apos.atName
      let (f, first) ← holding [ov] (getMethod ov m pl)
      callWith pos f first (backTo pos (starEach (e :: es) X.env)) (backToKw pos (keywordEach [] X.env))) := by rfl) : DE X W (.Call (.Attribute o m apos) (e :: es) [] pos) (dMeth C m spd E0 te t) := by
  obtain ⟨f, fd, cl, hm, G, b⟩ := c.ex
  refine .of (pe_methG (X := X) (Es := WE (WXd X.K W)) gu cE_pe cl hm G (hr.mono hk) b (fun σ => passAt te'.tk σ) cA_pa hst hpl ht) fun F H σ δ Q S q => ?_
  refine (ho.plain S q).imp fun v H1 h1 => ?_
  obtain ⟨F1, d, δ1, e1, S1, r1, ⟨ns, ds, rfl, nf⟩, q1⟩ := h1
  have r0 := r1
  unfold Rp at r1
  obtain ⟨a, dx, xs, rfl, g1, g2, _⟩ := r1
  refine ⟨a, dx, _, rfl, S1.fh _ _ g1, no_field nf, ?_⟩
  refine (h.run F1 H1 σ δ1 _ S1 q1).imp fun vs H2 h2 => ?_
  obtain ⟨F2, es', δ2, e2, S2, r2, q2⟩ := h2
  refine ⟨F2, none, _, _, _, S2.fh, paired_p (.cons (Rp.mono e2 _ _ r0) r2), (fun p e => by cases e), q2, fun v H' F' b m a r z => ?_, fun cls d H' F' C ds m a er z => ?_⟩
  · obtain ⟨r3, r4⟩ := RB.of_res S2 r
    exact ⟨F', b, δ2, (e1.trans e2).trans a.ff, S2.after a, r3, r4, z.2⟩
  · exact ⟨F', δ2, C, ds, S2.after a, er, by rw [te'.eq]; exact z⟩
theorem de_meth0 {pl : Sem Bool} (c : MethC X.prog X.w X.K X.mg X.base C m k ps spd) (gu : X.A.guards = some []) (hr : Room k' X.A) (ho : DE X W o te) (hk : k ≤ k' := by decide)
    (ht : eval (.Call (.Attribute o m apos) [] [] pos) X.env = (do
      let ov ← eval o X.env
      standAt apos.atName
      let (f, first) ← holding [ov] (getMethod ov m pl)
      callWith pos f first (backTo pos (starEach [] X.env)) (backToKw pos (keywordEach [] X.env))) := by rfl) : DE X W (.Call (.Attribute o m apos) [] [] pos) (dMeth C m spd (fun _ _ _ => False) te dNil) := by
  obtain ⟨f, fd, cl, hm, G, b⟩ := c.ex
  refine .of (pe_methG0 (X := X) (Es := fun _ _ _ _ => False) gu cE_pe cl hm G (hr.mono hk) b (fun σ => pass_none) ht) fun F H σ δ Q S q => ?_
  refine (ho.plain S q).imp fun v H1 h1 => ?_
  obtain ⟨F1, d, δ1, e1, S1, r1, ⟨ns, ds, rfl, nf⟩, q1⟩ := h1
  have r0 := r1
  unfold Rp at r1
  obtain ⟨a, dx, xs, rfl, g1, g2, _⟩ := r1
  refine ⟨a, dx, _, rfl, S1.fh _ _ g1, no_field nf, ?_⟩
  show toSp X.K spd [.ref a] _ _ _
  refine ⟨F1, none, _, _, _, S1.fh, paired_p (.cons r0 .nil), (fun p e => by cases e), q1, fun v H' F' b m a r z => ?_, fun cls d H' F' C ds m a er z => z.elim⟩
  obtain ⟨r3, r4⟩ := RB.of_res S1 r
  exact ⟨F', b, δ1, e1.trans a.ff, S1.after a, r3, r4, z.2⟩
end

/-! ### isinstance -/
structure InsOk (K : PySem.W.Frag) (C : Addr) : Prop where
  c : Cls K C
  ha : PySem.W.findIn K (.ref C) "__class__" = some (some (.builtin "object.__class__"))
  hn : PySem.W.specialIn K (.builtin "object.__class__") "__get__" = some (some (.builtin "getset_descriptor.__get__"))
  htk : PySem.W.takesIn K (.builtin "object.__class__") = some true
  hm : PySem.W.mroIn K C (.type "object") = some true
def isaD (K : PySem.W.Frag) : D → D → Option Bool
  | .exc C _, c => (clsD c).bind fun u => PySem.W.kitOne K (.ref C) u
  | .ins C _ _, c => (clsD c).bind fun u => PySem.W.kitOne K (.ref C) u
  | d, c => (tyD d).bind fun t => (clsD c).bind fun u => PySem.W.kitOne K (.type t) u
def OkI (K : PySem.W.Frag) : D → Prop
  | .exc C ds => XfE K C ∧ ds.length = 1
  | .ins C _ _ => InsOk K C
  | _ => True
def isaG (K : PySem.W.Frag) : List D → (B → Prop) → Prop := fun ds Q => ∃ d c b, ds = [d, c] ∧ isaD K d c = some b ∧ OkI K d ∧ Q (.p (.bl b))
theorem rc_isa {K : PySem.W.Frag} : RC K (rIsZ K) (isaG K) := by
  intro W F H σ δ xs ds Q Z S r g hZ
  obtain ⟨d, c, b, rfl, he, ok, q⟩ := g
  have base : ∀ t u, tyD d = some t → clsD c = some u → PySem.W.kitOne K (.type t) u = some b → rIsZ K xs H Z := fun t u h1 h2 h3 =>
    rc_isZ W F H σ δ xs [d, c] Q Z S r (.inl ⟨d, c, t, u, b, rfl, h1, h2, h3, q⟩) hZ
  have gen : (tyD d).bind (fun t => (clsD c).bind fun u => PySem.W.kitOne K (.type t) u) = some b → rIsZ K xs H Z := fun he => by
    cases h1 : tyD d with
    | none =>
      rw [h1] at he
      cases he
    | some t =>
      rw [h1] at he
      cases h2 : clsD c with
      | none =>
        rw [h2] at he
        cases he
      | some u =>
        rw [h2] at he
        exact base t u h1 h2 he
  cases d <;> first | exact gen he | skip
  · rename_i C ns fs
    obtain ⟨x, y, rfl, rx, ry⟩ := rpL2 r
    have he : (clsD c).bind (fun u => PySem.W.kitOne K (.ref C) u) = some b := he
    cases h2 : clsD c with
    | none =>
      rw [h2] at he
      cases he
    | some u =>
      rw [h2] at he
      have ok : InsOk K C := ok
      have rx' := rx
      unfold Rp at rx
      obtain ⟨a, dx, zs, rfl, g1, _⟩ := rx
      have cu : ClsV y u := by
        cases c <;> first | (cases h2; done) | skip
        all_goals
          cases h2
          unfold Rp at ry
          rw [ry]
          constructor
      exact ⟨_, y, _, u, b, rfl, cu, .base (.base (.ins (S.fh _ _ g1) ok.c ok.ha ok.hn ok.htk ok.hm)), he, hZ _ _ (mkP S (by unfold Rp; rfl) q)⟩
  · rename_i C es
    obtain ⟨ox, ol⟩ := ok
    match es, ol with
    | [y], _ =>
      have he : (clsD c).bind (fun u => PySem.W.kitOne K (.ref C) u) = some b := he
      cases h2 : clsD c with
      | none =>
        rw [h2] at he
        cases he
      | some u =>
        rw [h2] at he
        exact rc_isZ W F H σ δ xs _ Q Z S r (.inr ⟨C, y, c, u, b, rfl, ox, h2, he, q⟩) hZ
end DD

set_option Elab.async false
set_option linter.all false
set_option maxRecDepth 100000
set_option maxHeartbeats 4000000
/-! DD23: == , <= and the like, != by an own dunder. -/
namespace DD
open PySem PySem.Spec PyProof.Rows L2

theorem cmp_own {prog : Program} {w : World} {A : Around} {E : Value → Shared → Prop} {s : Shared} {K : PySem.W.Frag} {x C f : Addr} {ox : Obj} {od : Option Obj} {b tb : Value} {op : CmpOp} {Q : Value → Shared → Prop} (hu : A.units < cLine) (X : K.In s.heap) (I : PySem.W.InstAt s.heap x ox C od)
    (hb : PySem.W.Looks (model prog w) s.heap (typeOf b) tb) (hn : PySem.W.notFirst K C tb = true)
    (hs : PySem.W.findIn K (.ref C) (cmpInfo op).2.1 = some (some (.ref f))) (hf : PySem.W.isFn K (.ref f) = true)
    (h : wpAny (model prog w) A (call (.ref f) [.ref x, b]) (PySem.W.CmpBack Q) E s) : wpAny (model prog w) A (richCompare op (.ref x) b) Q E s := by
  have one : wpAny (model prog w) A (tryCompare (.ref x) (cmpInfo op).2.1 b) (fun r s' => ∃ v, r = some v ∧ Q v s') E s := by
    unfold tryCompare
    refine wpAny_bind (PySem.W.ifBound_K X I hs hf (wpAny_mono h (fun v s' hv => ?_) fun _ _ e => e))
    cases v <;> first | exact hv.elim | exact wpAny_pure ⟨_, rfl, hv⟩
  unfold richCompare
  simp only [PySem.oneThing_ref]
  refine wpAny_holding (wpAny_bind (wpAny_cRoomFor hu ?_))
  refine wpAny_bind (I.type.here (wpAny_bind (hb.here ?_)))
  split
  · rename_i q
    have e : PySem.W.subIn K tb (.ref C) = some false := by
      rcases Bool.or_eq_true_iff.mp hn with e | e
      · rw [beq_iff_eq.mp e] at q
        simp at q
      · exact beq_iff_eq.mp e
    refine wpAny_bind ((PySem.W.looks_subIn X e).here ?_)
    simp only [Bool.false_eq_true, if_false]
    refine wpAny_bind (wpAny_mono one (fun r s' z => ?_) fun _ _ e => e)
    obtain ⟨v, rfl, hq⟩ := z
    exact wpAny_pure hq
  · refine wpAny_bind (wpAny_pure ?_)
    simp only [Bool.false_eq_true, if_false]
    refine wpAny_bind (wpAny_mono one (fun r s' z => ?_) fun _ _ e => e)
    obtain ⟨v, rfl, hq⟩ := z
    exact wpAny_pure hq

/-- a class with an own dunder m -/
structure CmpC (P : Program) (w : World) (K : PySem.W.Frag) (mg : Str → Option Value) (base : Heap) (C : Addr) (m : Str) (k : Nat) (spd : Spd) : Prop where
  ex : ∃ f fd, PySem.W.findIn K (.ref C) m = some (some (.ref f)) ∧ PySem.W.isFn K (.ref f) = true ∧ GnOk P w K mg base k f fd ["self", "other"] (toSp K spd) ∧ Binds K fd ["self", "other"] []
  cl : Cls K C
/-- data whose type is known, and that does not go first against the class at C -/
inductive TyF (K : PySem.W.Frag) (C : Addr) : D → Prop where
  | dat {d : D} {t : String} (h : tyD d = some t) (n : PySem.W.notFirst K C (.type t) = true) : TyF K C d
  | ins {C' : Addr} {ns : List Str} {ds : List D} (h : InsOk K C') (n : PySem.W.notFirst K C (.ref C') = true) : TyF K C (.ins C' ns ds)
theorem TyF.ty {K : PySem.W.Frag} {C : Addr} {d : D} {F H : Hp} {v : V} (h : TyF K C d) (e : Same F H) (r : Rp K F d v) : ∃ t, TyX K H v t ∧ PySem.W.notFirst K C t = true := by
  cases h with
  | dat h n => exact ⟨_, rp_tyX e r h, n⟩
  | ins h n =>
    unfold Rp at r
    obtain ⟨a, dx, zs, rfl, g1, _⟩ := r
    exact ⟨_, .base (.ins (e _ _ g1) h.c h.ha h.hn h.htk h.hm), n⟩
section
variable {X : Cx} {W : Fix} {k k' : Nat} {C : Addr} {op : CmpOp} {m : Str} {spd : Spd} {a b : Expr} {ta tb : TD} {pos : Pos}
def rCmpI (C : Addr) (K : PySem.W.Frag) (sp : Sp) : R2 := fun x y H Q => ∃ a dx fs t, x = .ref a ∧ H a = some (.ins C dx fs) ∧ TyX K H y t ∧ PySem.W.notFirst K C t = true ∧ sp [x, y] H (fun v H' => (∃ b, v = .bl b) ∧ Q v H') fun _ _ _ => False
theorem op_cmpI (hop : ∀ {M : Model} {A : Around} {E : Value → Shared → Prop} {s : Shared} {a b : Value} {Q : Value → Shared → Prop}, wpAny M A (richCompare op a b) Q E s → wpAny M A (compareOp op a b) Q E s) (hm : (cmpInfo op).2.1 = m) {f : Addr} {fd : FuncData} {sp : Sp}
    (gu : X.A.guards = some []) (hr : Room k X.A) (cl : Cls X.K C) (h1 : PySem.W.findIn X.K (.ref C) m = some (some (.ref f))) (h2 : PySem.W.isFn X.K (.ref f) = true) (G : GnOk X.prog X.w X.K X.mg X.base k f fd ["self", "other"] sp) (hb : Binds X.K fd ["self", "other"] []) :
    OpR X (compareOp op) (rCmpI C X.K sp) := by
  intro pins s σ H x y u v Q I rx ry h
  obtain ⟨a, dx, fs, t, rfl, ha, ty, nf, q⟩ := h
  obtain rfl : u = Value.ref a := rx
  obtain ⟨mA, O, _⟩ := ins_get I.hok ha
  obtain ⟨od, J, _⟩ := O.look
  obtain ⟨P, z, hp, _⟩ := kit_of I ry ty
  subst hm
  refine hop (cmp_own (hr.units0) I.kIn J (z.ty _ _ I.kIn hp) nf h1 h2 (wpAny_mono (run_g (dvs := []) (dfs := []) (us := [.ref a, v]) (vs := [.ref a, y]) G gu hr hb .nil (fun e s' c => ?_) I (.cons rfl (.cons ry .nil)) (by rw [List.append_nil]; exact q)) (fun r s' hq => ?_) fun _ _ e => e))
  · obtain ⟨_, _, _, _, _, _, _, _, _, _, _, _, z⟩ := c
    exact z.elim
  · obtain ⟨w, H', I', rw', ⟨b, rfl⟩, q'⟩ := hq
    obtain rfl : r = Value.bool b := rw'
    exact ⟨.bl b, H', I', rfl, q'⟩
def cmpIG (K : PySem.W.Frag) (C : Addr) (spd : Spd) : D → D → (B → Prop) → Prop := fun x y Q => (∃ ns ds, x = .ins C ns ds) ∧ TyF K C y ∧ spd [.p x, .p y] (fun b _ => ∃ k, b = .p (.bl k) ∧ Q b) fun _ _ _ => False
theorem rd_cmpI {K : PySem.W.Frag} : RD K (rCmpI C K (toSp K spd)) (cmpIG K C spd) := by
  intro W F H σ δ x y c d Q Z S rc rd g hZ
  obtain ⟨⟨ns, ds, rfl⟩, ty, q⟩ := g
  have rc' := rc
  unfold Rp at rc
  obtain ⟨a, dx, zs, rfl, g1, _⟩ := rc
  obtain ⟨t, g2, g3⟩ := ty.ty S.fh rd
  refine ⟨a, dx, _, t, rfl, S.fh _ _ g1, g2, g3, F, none, [.p (.ins C ns ds), .p d], _, _, S.fh, .cons rc' (.cons rd .nil), (fun p e => by cases e), q, fun v H' F' b m af r z => ?_, fun cls dd H' F' C es m _ _ z => z.elim⟩
  obtain ⟨k, rfl, q'⟩ := z
  have r : Rp K F' (.bl k) v := r
  have e := rpBl r
  subst e
  exact ⟨⟨k, rfl⟩, hZ _ _ ⟨F', .p (.bl k), δ, af.ff, S.after af, r, (fun z => by cases z), rfl, q'⟩⟩
theorem de_eqI (c : CmpC X.prog X.w X.K X.mg X.base C "__eq__" k spd) (gu : X.A.guards = some []) (hr : Room k' X.A) (ha : DE X W a ta) (hb : DE X W b tb) (hk : k ≤ k' := by decide) (hm : behindInMarks .Eq b = false := by rfl) : DE X W (.Compare a [.Eq] [b] pos) (dOp (cmpIG X.K C spd) ta tb) := by
  obtain ⟨f, fd, h1, h2, G, bb⟩ := c.ex
  exact de_cmp (op_cmpI (m := "__eq__") PySem.W.cmp_ofEq (by decide +kernel) gu (hr.mono hk) c.cl h1 h2 G bb) rd_cmpI ha hb hm
theorem dt_eqI (c : CmpC X.prog X.w X.K X.mg X.base C "__eq__" k spd) (gu : X.A.guards = some []) (hr : Room k' X.A) (ha : DE X W a ta) (hb : DE X W b tb) (hk : k ≤ k' := by decide) (hm : behindInMarks .Eq b = false := by rfl) : DT X W (.Compare a [.Eq] [b] pos) (dT (dOp (cmpIG X.K C spd) ta tb)) := by
  obtain ⟨f, fd, h1, h2, G, bb⟩ := c.ex
  exact dt_cmp (op_cmpI (m := "__eq__") PySem.W.cmp_ofEq (by decide +kernel) gu (hr.mono hk) c.cl h1 h2 G bb) rd_cmpI ha hb hm
end

/-! ### != of two instances of one class that has an own == -/
structure NeC (K : PySem.W.Frag) (C : Addr) : Prop where
  ex : ∃ (f N : Addr) (nm q : Str) (bs : List Value) (sn : List Str) (sub : List Value) (ab : Bool) (col : Option Bool) (dd : Option Addr) (k0 k1 k2 k3 k5 : Option Value) (newId : String),
    K.lookup C = some (excClassObj nm q C N bs [.type "object"] true sn sub ab col dd k0 k1 k2 k3 k5 newId) ∧ PySem.W.nsOkIn K N = true ∧ PySem.W.nsIn K N "__eq__" = some (some (.ref f)) ∧ PySem.W.nsIn K N "__ne__" = some none ∧ PySem.W.findIn K (.ref C) "__eq__" = some (some (.ref f)) ∧
    ∃ o, K.lookup f = some o ∧ o.cls = .type "function"
section
variable {X : Cx} {W : Fix} {k k' : Nat} {C : Addr} {spd : Spd} {a b : Expr} {ta tb : TD} {pos : Pos}
def rNeI (C : Addr) (sp : Sp) : R2 := fun x y H Q => ∃ a dx fs a' dx' fs', x = .ref a ∧ H a = some (.ins C dx fs) ∧ y = .ref a' ∧ H a' = some (.ins C dx' fs') ∧ sp [x, y] H (fun v H' => ∃ b, v = .bl b ∧ Q (.bl (!b)) H') fun _ _ _ => False
theorem op_neI {f : Addr} {fd : FuncData} {sp : Sp} (gu : X.A.guards = some []) (hr : Room (k + 1) X.A) (ne : NeC X.K C) (h1 : PySem.W.findIn X.K (.ref C) "__eq__" = some (some (.ref f))) (G : GnOk X.prog X.w X.K X.mg X.base k f fd ["self", "other"] sp) (hb : Binds X.K fd ["self", "other"] []) :
    OpR X (compareOp .NotEq) (rNeI C sp) := by
  intro pins s σ H x y u v Q I rx ry h
  obtain ⟨a, dx, fs, a', dx', fs', rfl, ha, rfl, ha', q⟩ := h
  obtain rfl : u = Value.ref a := rx
  obtain rfl : v = Value.ref a' := ry
  obtain ⟨f', N, nm, qn, bs, sn, sub, ab, col, dd, k0, k1, k2, k3, k5, newId, hC, hN, he, hne, hf, of, hof, hoc⟩ := ne.ex
  rw [h1] at hf
  cases hf
  obtain ⟨mA, O, _⟩ := ins_get I.hok ha
  obtain ⟨od, J, _⟩ := O.look
  obtain ⟨mA', O', _⟩ := ins_get I.hok ha'
  obtain ⟨od', J', _⟩ := O'.look
  have hns : s.heap.Ns N (s.heap.nsMap N) := Heap.Ns.of_isNs (PySem.W.isNs_of_in I.kIn hN)
  have eqm : s.heap.nsMap N "__eq__" = some (.ref f) := by
    obtain ⟨o, es, ep, ho, hd, _, hfnd⟩ := hns
    unfold PySem.W.nsIn at he
    split at he
    · rename_i c d es' n' sl z
      have := I.kIn _ _ z
      rw [ho] at this
      cases this
      cases hd
      split at he
      · rename_i e hx
        have e2 := Option.some.inj (Option.some.inj he)
        rw [← hfnd]
        unfold nsFind findBy
        rw [← Array.find?_toList, hx]
        show some e.val = _
        rw [e2]
      · split at he <;> cases he
    · cases he
  have nem : s.heap.nsMap N "__ne__" = none := PySem.W.ns_none_of I.kIn hns hne
  have X0 : s.heap.OwnEqNoNe a C f "object" [.type "object"] := ⟨_, of, nm, qn, N, bs, true, sn, sub, ab, col, dd, k0, k1, k2, k3, k5, newId, s.heap.nsMap N, _, J.at_, J.cls, I.kIn _ _ hC, hns, eqm, I.kIn _ _ hof, hoc, F.cmp_object.mro, F.cmp_object.eq.lookup, nem⟩
  have hu := hr.units
  have hj := J'.at_
  have hjc := J'.cls
  have run : wpAny (model X.prog X.w) X.A.in1 (call (.ref f) [.ref a, .ref a']) (fun v s' => ∃ b, v = .bool b ∧ EP X pins σ Q (.bool (!b)) s') X.xe s := by
    have hl : ([Value.ref a, .ref a'] ++ []).length = ["self", "other"].length := rfl
    have b2 := hb s [.ref a, .ref a'] I.kIn rfl
    refine wpAny_call (codeAny_mono (G.run X.A.in1 X.stack s H ⟨[.ref a, .ref a'], []⟩ [.ref a, .ref a'] [.ref a, .ref a'] _ _ (by rw [in1_guards]; exact gu) hr.in1 I.env0.in1 b2 (.cons rfl (.cons rfl .nil)) q) fun r s' hq => ?_)
    cases r with
    | error er =>
      obtain ⟨_, _, _, _, _, _, _, _, _, _, _, _, z⟩ := hq
      exact z.elim
    | ok fl =>
      cases fl with
      | ret u =>
        obtain ⟨v, H', I3, rv, b, rfl, q3⟩ := I.after hq
        obtain rfl : u = Value.bool b := rv
        exact ⟨b, rfl, .bl (!b), H', I3, rfl, q3⟩
      | next => exact False.elim hq
      | brk => exact False.elim hq
      | cont => exact False.elim hq
  obtain ⟨hp, g, d, tk, os⟩ := s
  exact compareOp_ne_ownEq F.cmp_object X0 hj hjc (by omega) run
def neIG (C : Addr) (spd : Spd) : D → D → (B → Prop) → Prop := fun x y Q => (∃ ns ds, x = .ins C ns ds) ∧ (∃ ns ds, y = .ins C ns ds) ∧ spd [.p x, .p y] (fun b _ => ∃ k, b = .p (.bl k) ∧ Q (.p (.bl (!k)))) fun _ _ _ => False
theorem rd_neI {K : PySem.W.Frag} : RD K (rNeI C (toSp K spd)) (neIG C spd) := by
  intro W F H σ δ x y c d Q Z S rc rd g hZ
  obtain ⟨⟨ns, ds, rfl⟩, ⟨ns', ds', rfl⟩, q⟩ := g
  have rc' := rc
  have rd' := rd
  unfold Rp at rc rd
  obtain ⟨a, dx, zs, rfl, g1, _⟩ := rc
  obtain ⟨a', dx', zs', rfl, g2, _⟩ := rd
  refine ⟨a, dx, _, a', dx', _, rfl, S.fh _ _ g1, rfl, S.fh _ _ g2, F, none, [.p (.ins C ns ds), .p (.ins C ns' ds')], _, _, S.fh, .cons rc' (.cons rd' .nil), (fun p e => by cases e), q, fun v H' F' b m af r z => ?_, fun cls dd H' F' C es m _ _ z => z.elim⟩
  obtain ⟨k, rfl, q'⟩ := z
  have r : Rp K F' (.bl k) v := r
  have e := rpBl r
  exact ⟨k, e, hZ _ _ ⟨F', .p (.bl (!k)), δ, af.ff, S.after af, rp_bl (K := K) (F := F'), (fun z => by cases z), rfl, q'⟩⟩
theorem dt_neI (c : CmpC X.prog X.w X.K X.mg X.base C "__eq__" k spd) (n : NeC X.K C) (gu : X.A.guards = some []) (hr : Room k' X.A) (ha : DE X W a ta) (hb : DE X W b tb) (hk : k + 1 ≤ k' := by decide) (hm : behindInMarks .NotEq b = false := by rfl) : DT X W (.Compare a [.NotEq] [b] pos) (dT (dOp (neIG C spd) ta tb)) := by
  obtain ⟨f, fd, h1, h2, G, bb⟩ := c.ex
  exact dt_cmp (op_neI gu (hr.mono hk) n h1 G bb) rd_neI ha hb hm
theorem de_neI (c : CmpC X.prog X.w X.K X.mg X.base C "__eq__" k spd) (n : NeC X.K C) (gu : X.A.guards = some []) (hr : Room k' X.A) (ha : DE X W a ta) (hb : DE X W b tb) (hk : k + 1 ≤ k' := by decide) (hm : behindInMarks .NotEq b = false := by rfl) : DE X W (.Compare a [.NotEq] [b] pos) (dOp (neIG C spd) ta tb) := by
  obtain ⟨f, fd, h1, h2, G, bb⟩ := c.ex
  exact de_cmp (op_neI gu (hr.mono hk) n h1 G bb) rd_neI ha hb hm
end
end DD

set_option Elab.async false
set_option linter.all false
set_option maxRecDepth 100000
set_option maxHeartbeats 4000000
/-! DD24: a < b < c; what a class of the text holds. -/
namespace DD
open PySem PySem.Spec PyProof.Rows L2
section
variable {X : Cx} {W : Fix} {a b c : Expr} {ta tb tc : TD} {op op' : CmpOp} {r r' : R2} {g g' : D → D → (B → Prop) → Prop} {pos : Pos}
def dChain (g g' : D → D → (B → Prop) → Prop) (ta tb tc : TD) : TD := fun δ Q => dp ta δ fun x δ1 => dp tb δ1 fun y δ2 => g x y fun z => ∃ k, z = .p (.bl k) ∧ if k = true then dp tc δ2 fun w δ3 => g' y w fun z' => Q z' δ3 else Q (.p (.bl false)) δ2
theorem chain_run (ha : DE X W a ta) (hb : DE X W b tb) (hc : DE X W c tc) (hr : RD X.K r g) (hr' : RD X.K r' g') {F H : Hp} {σ : L2.St} {δ : Env'} {Q : B → Env' → Prop} (S : SD X.K W F H σ δ) (q : dChain g g' ta tb tc δ Q) {Z : VK} (hZ : ∀ v H', DQ X.K W F σ Q v H' → Z v H') : tChain r r' (cE X a) (cE X b) (cE X c) σ H Z := by
  refine (ha.plain S q).imp fun x H1 h1 => ?_
  obtain ⟨F1, dx, δ1, e1, S1, r1, q1⟩ := h1
  refine (hb.plain S1 q1).imp fun y H2 h2 => ?_
  obtain ⟨F2, dy, δ2, e2, S2, r2, q2⟩ := h2
  refine hr W F2 H2 σ δ2 x y dx dy _ _ S2 (Rp.mono e2 _ _ r1) r2 q2 fun v H3 h3 => ?_
  obtain ⟨F3, z, δ3, e3, S3, r3, _, rfl, k, rfl, q3⟩ := h3
  refine ⟨k, rpBl (K := X.K) (F := F3) r3, ?_⟩
  cases k with
  | true =>
    rw [if_pos rfl] at q3 ⊢
    refine (hc.plain S3 q3).imp fun w H4 h4 => ?_
    obtain ⟨F4, dw, δ4, e4, S4, r4, q4⟩ := h4
    exact hr' W F4 H4 σ δ4 y w dy dw _ _ S4 (Rp.mono (e3.trans e4) _ _ r2) r4 q4 fun v H' h => hZ _ _ (h.fix (((e1.trans e2).trans e3).trans e4))
  | false =>
    rw [if_neg Bool.false_ne_true] at q3 ⊢
    exact hZ _ _ ((DQ.mk (Q := Q) S3 (by unfold Rp; rfl) q3).back ((e1.trans e2).trans e3))
theorem de_chain (ho : OpR X (compareOp op) r) (hr : RD X.K r g) (ho' : OpR X (compareOp op') r') (hr' : RD X.K r' g') (ha : DE X W a ta) (hb : DE X W b tb) (hc : DE X W c tc) (hm : lastMarks [op, op'] [b, c] = false := by with_unfolding_all rfl) : DE X W (.Compare a [op, op'] [b, c] pos) (dChain g g' ta tb tc) :=
  .of (pe_chain (X := X) ho ho' cE_pe cE_pe cE_pe hm) fun F H σ δ Q S q => chain_run ha hb hc hr hr' S q fun _ _ h => h
theorem dt_chain (ho : OpR X (compareOp op) r) (hr : RD X.K r g) (ho' : OpR X (compareOp op') r') (hr' : RD X.K r' g') (ha : DE X W a ta) (hb : DE X W b tb) (hc : DE X W c tc) (hm : lastMarks [op, op'] [b, c] = false := by with_unfolding_all rfl) : DT X W (.Compare a [op, op'] [b, c] pos) (dT (dChain g g' ta tb tc)) := by
  refine ⟨fun F H σ δ Q S q => cT_of (pt_chain (X := X) ho ho' cE_pe cE_pe cE_pe hm) ?_⟩
  refine chain_run ha hb hc hr hr' (Q := fun b δ' => ∃ k, b = .p (.bl k) ∧ Q k δ') S q fun v H' h => ?_
  obtain ⟨F3, b, δ3, e3, S3, r3, _, k, rfl, q3⟩ := h
  exact ⟨k, rpBl (K := X.K) (F := F3) r3, F3, δ3, e3, S3, q3⟩
end

/-! ### what a class of the text holds -/
def memS (st : Stmt) (j : Nat) : Stmt := match st with
  | .ClassDef _ _ _ b _ _ _ _ _ _ _ => b.getD j (.Pass ⟨0, 0, 0, 0⟩)
  | s => s
structure PropAt (K : PySem.W.Frag) (C : Addr) (f qual : Str) (st : Stmt) : Prop where
  c : Cls K C
  ex : ∃ p g fd, PropOf K C f p g ∧ Fun K f qual st g fd
structure MethAt (K : PySem.W.Frag) (C : Addr) (f qual : Str) (st : Stmt) : Prop where
  c : Cls K C
  ex : ∃ g fd, Meth K C f g ∧ Fun K f qual st g fd
structure InitAt (K : PySem.W.Frag) (mg : Str → Option Value) (x : Str) (C : Addr) (qual : Str) (st : Stmt) (dvs : List V) (kws : List (Str × V)) : Prop where
  ex : ∃ f fd, Mk K C f ∧ mg x = some (.ref C) ∧ FunD K "__init__" qual (defArgs st) (defBody st) (defScope st) dvs kws f fd
section
variable {P : Program} {w : World} {K : PySem.W.Frag} {mg : Str → Option Value} {base : Heap}
theorem prop_mk {C : Addr} {x qual : Str} {st : Stmt} {N : List Str} {k : Nat} {spd : Spd} (Da : PropAt K C x qual st) (S : FnScope N ["self"] (defScope st))
    (hbd : ∀ (kV doc pm : Value) (an : Option Addr) (cdv ct : Value) (us : List Value), us.length = (["self"] : List Str).length → bindArgs (PySem.W.fnOf x qual (defArgs st) (defBody st) (defScope st) .none kV doc pm an cdv ct) ⟨us, []⟩ = pure ((["self"] : List Str).zip us))
    (len : ∀ bs R E, spd bs R E → bs.length = 1) (hpk : ∀ bs R E, spd bs R E → PurK none bs ∧ ((none : Option Nat) = none → ∀ b ∈ bs, b.own = false))
    (hbody : ∀ (f : Addr) (cdv : Value) (A : Around) (outer : List Env) (s : Shared) (H : Hp) (E : XK) (W : Fix) (bs : List B) (R : B → Nat → Prop) (ED : Addr → List DD.D → Nat → Prop), A.guards = some [] →
      Room k (A.deeper (envOfC qual (defScope st) s.heap.objs.size f cdv)) → TkE (cxOf (L2.CX P w) P w K mg base N qual (defScope st) f cdv A outer s H E) W (fun C ds δ => ∃ m, PC none δ m ∧ ED C ds m) → spd bs R ED → Same W.F0 W.H0 →
      ∃ t, DSs (cxOf (L2.CX P w) P w K mg base N qual (defScope st) f cdv A outer s H E) W (defBody st) t ∧
        t { nx := fun δ => ∃ m, PC none δ m ∧ R (.p .non) m, rt := fun b δ => b.isU = false ∧ ∃ m, PC none δ m ∧ R b m } (startD N bs)) : PropC P w K mg base C x (k + 1) spd := by
  obtain ⟨p, g, fd, po, F⟩ := Da.ex
  exact ⟨p, g, fd, Da.c, po, gd_of none F S len hpk (hbody g), F.binds hbd⟩
theorem meth_mk {C : Addr} {x qual : Str} {st : Stmt} {N ps : List Str} {k : Nat} {spd : Spd} (Da : MethAt K C x qual st) (S : FnScope N ps (defScope st))
    (hbd : ∀ (kV doc pm : Value) (an : Option Addr) (cdv ct : Value) (us : List Value), us.length = ps.length → bindArgs (PySem.W.fnOf x qual (defArgs st) (defBody st) (defScope st) .none kV doc pm an cdv ct) ⟨us, []⟩ = pure (ps.zip us))
    (len : ∀ bs R E, spd bs R E → bs.length = ps.length) (hpk : ∀ bs R E, spd bs R E → PurK none bs ∧ ((none : Option Nat) = none → ∀ b ∈ bs, b.own = false))
    (hbody : ∀ (f : Addr) (cdv : Value) (A : Around) (outer : List Env) (s : Shared) (H : Hp) (E : XK) (W : Fix) (bs : List B) (R : B → Nat → Prop) (ED : Addr → List DD.D → Nat → Prop), A.guards = some [] →
      Room k (A.deeper (envOfC qual (defScope st) s.heap.objs.size f cdv)) → TkE (cxOf (L2.CX P w) P w K mg base N qual (defScope st) f cdv A outer s H E) W (fun C ds δ => ∃ m, PC none δ m ∧ ED C ds m) → spd bs R ED → Same W.F0 W.H0 →
      ∃ t, DSs (cxOf (L2.CX P w) P w K mg base N qual (defScope st) f cdv A outer s H E) W (defBody st) t ∧
        t { nx := fun δ => ∃ m, PC none δ m ∧ R (.p .non) m, rt := fun b δ => b.isU = false ∧ ∃ m, PC none δ m ∧ R b m } (startD N bs)) : MethC P w K mg base C x (k + 1) ps spd := by
  obtain ⟨g, fd, po, F⟩ := Da.ex
  exact ⟨g, fd, Da.c, po, gd_of none F S len hpk (hbody g), F.binds hbd⟩
/-- a method that compares -/
theorem cmp_of {C : Addr} {m : Str} {k : Nat} {spd : Spd} (c : MethC P w K mg base C m k ["self", "other"] spd) : CmpC P w K mg base C m k spd := by
  obtain ⟨f, fd, cl, hm, G, b⟩ := c.ex
  exact ⟨⟨f, fd, hm.at_, hm.fn, G, b⟩, cl⟩
/-- an __init__, called with just these values -/
theorem make_mk {C : Addr} {x qual : Str} {st : Stmt} {dvs : List V} {kws : List (Str × V)} {N ps : List Str} {k : Nat} {spd : SpdS} (Da : InitAt K mg x C qual st dvs kws) (S : FnScope N ps (defScope st))
    (len : ∀ d0 ds R E, spd d0 ds R E → ds.length + 1 = ps.length)
    (hbody : ∀ (f : Addr) (cdv : Value) (A : Around) (outer : List Env) (s : Shared) (H : Hp) (E : XK) (W : Fix) (d0 : DD.D) (ds : List DD.D) (R : B → DD.D → Prop) (ED : Addr → List DD.D → DD.D → Prop), A.guards = some [] →
      Room k (A.deeper (envOfC qual (defScope st) s.heap.objs.size f cdv)) → TkE (cxOf (L2.CX P w) P w K mg base N qual (defScope st) f cdv A outer s H E) W (fun C es δ => ∃ d', δ[0]? = some (some (.s d')) ∧ ED C es d') → spd d0 ds R ED → Same W.F0 W.H0 →
      ∃ t, DSs (cxOf (L2.CX P w) P w K mg base N qual (defScope st) f cdv A outer s H E) W (defBody st) t ∧
        t { nx := fun δ => ∃ d', δ[0]? = some (some (.s d')) ∧ R (.p .non) d', rt := fun b δ => b.isU = false ∧ ∃ d', δ[0]? = some (some (.s d')) ∧ R b d' } (startD N (.s d0 :: ds.map .p))) :
    ∃ f fd, GnOk P w K mg base (k + 1) f fd ps (toSpS K spd) ∧ Mk K C f ∧ mg x = some (.ref C) ∧ FunD K "__init__" qual (defArgs st) (defBody st) (defScope st) dvs kws f fd := by
  obtain ⟨f, fd, m, hm, F⟩ := Da.ex
  exact ⟨f, fd, gs_of F S len (hbody f), m, hm, F⟩
end

/-! ### isinstance in short -/
theorem cxOf_K {CX : CXT} {P : Program} {w : World} {K : PySem.W.Frag} {mg : Str → Option Value} {base : Heap} {N : List Str} {name : Str} {scope : Scope} {fa : Addr} {cdv : Value} {A₀ : Around} {outer₀ : List Env} {s₀ : Shared} {H₀ : Hp} {E : XK} : (cxOf CX P w K mg base N name scope fa cdv A₀ outer₀ s₀ H₀ E).K = K := rfl
theorem isaG_of {K : PySem.W.Frag} {d c : D} {b : Bool} {Q : B → Prop} (h : isaD K d c = some b) (ok : OkI K d) : isaG K [d, c] Q ↔ Q (.p (.bl b)) := by
  constructor
  · rintro ⟨d', c', b', e, h1, h2, q⟩
    cases e
    rw [h] at h1
    cases h1
    exact q
  · exact fun q => ⟨d, c, b, rfl, h, ok, q⟩
theorem okI_dat {K : PySem.W.Frag} {d : D} (h : dat d = true) : OkI K d := by
  cases d <;> first | (cases h; done) | trivial
theorem isa_Str {K : PySem.W.Frag} {d : D} {Q : B → Prop} (h : dat d = true) : isaG K [d, .ty "str"] Q ↔ Q (.p (.bl (isStr d))) :=
  isaG_of (by cases d <;> first | (cases h; done) | rfl | kernel_rfl) (okI_dat h)
theorem isa_Int {K : PySem.W.Frag} {d : D} {Q : B → Prop} (h : dat d = true) : isaG K [d, .ty "int"] Q ↔ Q (.p (.bl (isInt d))) :=
  isaG_of (by cases d <;> first | (cases h; done) | rfl | kernel_rfl) (okI_dat h)
theorem isa_Bool {K : PySem.W.Frag} {d : D} {Q : B → Prop} (h : dat d = true) : isaG K [d, .ty "bool"] Q ↔ Q (.p (.bl (isBool d))) :=
  isaG_of (by cases d <;> first | (cases h; done) | rfl | kernel_rfl) (okI_dat h)
theorem isa_Lst {K : PySem.W.Frag} {d : D} {Q : B → Prop} (h : dat d = true) : isaG K [d, .ty "list"] Q ↔ Q (.p (.bl (isLst d))) :=
  isaG_of (by cases d <;> first | (cases h; done) | rfl | kernel_rfl) (okI_dat h)
theorem isa_Tup {K : PySem.W.Frag} {d : D} {Q : B → Prop} (h : dat d = true) : isaG K [d, .ty "tuple"] Q ↔ Q (.p (.bl (isTup d))) :=
  isaG_of (by cases d <;> first | (cases h; done) | rfl | kernel_rfl) (okI_dat h)
def tyNames : List String := ["NoneType", "bool", "int", "str", "list", "tuple", "dict", "set"]
/-- nothing built in is an instance of the class -/
def NoKit (K : PySem.W.Frag) (a : Addr) : Prop := (tyNames.all fun t => PySem.W.kitOne K (.type t) (.ref a) == some false) = true
/-- nothing built in goes first -/
def NoFirst (K : PySem.W.Frag) (a : Addr) : Prop := (tyNames.all fun t => PySem.W.notFirst K a (.type t)) = true
theorem ty_mem {d : D} {t : String} (h : tyD d = some t) : t ∈ tyNames := by
  cases d <;> first | (cases h; done) | (cases h; decide)
theorem isa_no {K : PySem.W.Frag} {d : D} {a : Addr} {Q : B → Prop} (h : dat d = true) (n : NoKit K a) : isaG K [d, .ref a] Q ↔ Q (.p (.bl false)) := by
  refine isaG_of ?_ (okI_dat h)
  cases ht : tyD d with
  | none =>
    unfold dat at h
    rw [ht] at h
    cases h
  | some t =>
    have := List.all_eq_true.mp n t (ty_mem ht)
    have hk := beq_iff_eq.mp this
    cases d <;> first | (cases ht; done) | (cases ht; exact hk)
theorem isa_ins {K : PySem.W.Frag} {C a : Addr} {ns : List Str} {ds : List D} {b : Bool} {Q : B → Prop} (ok : InsOk K C) (h : PySem.W.kitOne K (.ref C) (.ref a) = some b) : isaG K [.ins C ns ds, .ref a] Q ↔ Q (.p (.bl b)) := isaG_of h ok
theorem isa_exc {K : PySem.W.Frag} {C a : Addr} {y : D} {b : Bool} {Q : B → Prop} (ok : XfE K C) (h : PySem.W.kitOne K (.ref C) (.ref a) = some b) : isaG K [.exc C [y], .ref a] Q ↔ Q (.p (.bl b)) := isaG_of h ⟨ok, rfl⟩
theorem tyF_dat {K : PySem.W.Frag} {C : Addr} {d : D} (h : dat d = true) (n : NoFirst K C) : TyF K C d := by
  cases ht : tyD d with
  | none =>
    unfold dat at h
    rw [ht] at h
    cases h
  | some t => exact .dat ht (List.all_eq_true.mp n t (ty_mem ht))
theorem notFirst_self {K : PySem.W.Frag} {C : Addr} : PySem.W.notFirst K C (.ref C) = true := by
  unfold PySem.W.notFirst
  simp
theorem isNon_non : isNon .non = true := rfl
theorem isNon_bl {b : Bool} : isNon (.bl b) = false := rfl
theorem isNon_int {b : Int} : isNon (.int b) = false := rfl
theorem isNon_str {b : Str} : isNon (.str b) = false := rfl
theorem isNon_lst {b : List D} : isNon (.lst b) = false := rfl
theorem isNon_tup {b : List D} : isNon (.tup b) = false := rfl
theorem isNon_dct {a : List Key} {b : List D} : isNon (.dct a b) = false := rfl
theorem isNon_ins {C : Addr} {a : List Str} {b : List D} : isNon (.ins C a b) = false := rfl
theorem isNon_exc {C : Addr} {b : List D} : isNon (.exc C b) = false := rfl
theorem kitOne_self {K : PySem.W.Frag} {C : Addr} : PySem.W.kitOne K (.ref C) (.ref C) = some true := by
  unfold PySem.W.kitOne
  simp
end DD

set_option Elab.async false
set_option linter.all false
set_option maxRecDepth 100000
set_option maxHeartbeats 8000000
namespace DD
open PySem PySem.Spec PyProof.Rows L2
theorem join_back : ∀ l : List Nat, Txt.join "" (l.map fun c => (⟨#[c]⟩ : Str)) = ⟨l.toArray⟩ := by
  intro l
  show Builtin.Str.glued _ _ = _
  rw [StrLaws.glued_eq_join]
  have key : ∀ l : List Nat, _root_.TL.tl (Str.join "" (l.map fun c => (⟨#[c]⟩ : Str))) = l := by
    intro l
    rw [_root_.TL.tl_join]
    induction l with
    | nil => rfl
    | cons c l ih =>
      cases l with
      | nil => rfl
      | cons d l =>
        show [c] ++ (_root_.TL.tl "" ++ _root_.TL.joinL (_root_.TL.tl "") (((d :: l).map fun c => (⟨#[c]⟩ : Str)).map _root_.TL.tl)) = _
        rw [ih]
        rfl
  have := key l
  have e : ∀ (s : Str) (l : List Nat), _root_.TL.tl s = l → s = ⟨l.toArray⟩ := fun s l h => by
    subst h
    cases s with
    | mk a => rfl
  exact e _ _ this
theorem mul_b {k : Nat} (hk : k < 1000) {x : Str} {t : Nat} (hx : x = ⟨#[t]⟩) : Txt.mul x (k : Int) = ⟨(List.replicate k t).toArray⟩ ∧ MulOk x (k : Int) := by
  subst hx
  have key : ∀ (n : Nat) (a : List Nat), (List.replicate n (#[t] : Array Nat)).foldl (· ++ ·) a.toArray = (a ++ List.replicate n t).toArray := by
    intro n
    induction n with
    | zero => intro a; simp
    | succ n ih =>
      intro a
      rw [List.replicate_succ, List.foldl_cons]
      have e : a.toArray ++ #[t] = (a ++ [t]).toArray := by simp
      rw [e, ih, List.append_assoc]
      congr 1
  constructor
  · unfold Txt.mul
    split
    · rename_i h
      have e : k = 0 := by omega
      rw [e]
      rfl
    · split
      · rename_i h1 h
        have e : k = 1 := by
          rcases Bool.or_eq_true_iff.mp h with z | z
          · have := beq_iff_eq.mp z
            omega
          · exact absurd z (by show ¬ ((1 : Nat) == 0) = true; decide)
        rw [e]
        rfl
      · show (⟨(List.replicate ((k : Int)).toNat (#[t] : Array Nat)).foldl (· ++ ·) #[]⟩ : Str) = _
        rw [Int.toNat_natCast]
        have := key k []
        simpa using this
  · refine ⟨?_, fun hn _ => ?_, fun hn _ => ?_⟩
    · rw [decide_eq_false (by omega), decide_eq_false (by omega)]
      rfl
    · have e : (⟨#[t]⟩ : Str).length = 1 := rfl
      rw [e]
      have : (1 : Int) ≤ (2 ^ 63 - 1) / (k : Int) := by
        rw [Int.le_ediv_iff_mul_le (by omega)]
        omega
      omega
    · have e : (⟨#[t]⟩ : Str).length = 1 := rfl
      rw [e, Nat.one_mul]
      unfold Builtin.Str.tooLong
      simp
      have e := sizeLine_eq
      omega

theorem cps_add {a b : Str} : (a ++ b).cps.toList = a.cps.toList ++ b.cps.toList := by
  show (a.cps ++ b.cps).toList = _
  rw [Array.toList_append]
theorem len_add {a b : Str} : (a ++ b).length = a.length + b.length := by
  show (a.cps ++ b.cps).size = _
  rw [Array.size_append]
  rfl
theorem str_len {x : Str} : x.cps.toList.length = x.length := by
  rw [Array.length_toList]
  rfl
theorem cut_take {z : Str} {k : Nat} (h : k ≤ z.length) : (cutS z none (some (k : Int))).cps.toList = z.cps.toList.take k := by
  have e : HT.sIx z.length z.length (some (k : Int)) = k := by
    unfold HT.sIx
    have h0 : ¬ ((k : Int) < 0) := by omega
    simp only [if_neg h0, Int.toNat_natCast]
    omega
  unfold cutS
  rw [e]
  simp [HT.sIx]
theorem cut_drop {z : Str} {k : Nat} (h : k ≤ z.length) : (cutS z (some (k : Int)) none).cps.toList = z.cps.toList.drop k := by
  have e : HT.sIx z.length 0 (some (k : Int)) = k := by
    unfold HT.sIx
    have h0 : ¬ ((k : Int) < 0) := by omega
    simp only [if_neg h0, Int.toNat_natCast]
    omega
  have e2 : HT.sIx z.length z.length none = z.length := rfl
  unfold cutS
  rw [e, e2]
  show List.take _ _ = _
  apply List.take_of_length_le
  rw [List.length_drop, str_len]
  exact Nat.le_refl _
theorem upto_len {lo : Int} {n : Nat} : (upto lo n).length = n := by
  unfold upto
  rw [List.length_map, List.length_range]
/-- == of two lists, and of the tuples of the same -/
theorem eqD_seq {k : Nat} {fs gs : List D} (hk : k ≤ 60) (hf : ∀ d ∈ fs, Sh k d) (hg : ∀ d ∈ gs, Sh k d) : ∃ b, eqD (.lst fs) (.lst gs) = some b ∧ eqD (.tup fs) (.tup gs) = some b ∧ eqD (.lst gs) (.lst fs) = some b ∧ eqD (.tup gs) (.tup fs) = some b := by
  obtain ⟨cs, h1, h2, h3, h4⟩ := sh_all hf
  obtain ⟨es, g1, g2, g3, g4⟩ := sh_all hg
  have l1 : toPy (.lst fs) = some (.list cs) := by show (toPyL fs).map _ = _; rw [h1]; rfl
  have l2 : toPy (.lst gs) = some (.list es) := by show (toPyL gs).map _ = _; rw [g1]; rfl
  have t1 : toPy (.tup fs) = some (.tuple cs) := by show (toPyL fs).map _ = _; rw [h1]; rfl
  have t2 : toPy (.tup gs) = some (.tuple es) := by show (toPyL gs).map _ = _; rw [g1]; rfl
  have s1 : SeqAt.shaped (.list cs) = true := by
    unfold SeqAt.shaped
    rw [Bool.and_eq_true]
    exact ⟨h2, decide_eq_true (by show PyData.depthAll cs + 1 ≤ 64; omega)⟩
  have s2 : SeqAt.shaped (.list es) = true := by
    unfold SeqAt.shaped
    rw [Bool.and_eq_true]
    exact ⟨g2, decide_eq_true (by show PyData.depthAll es + 1 ≤ 64; omega)⟩
  have s3 : SeqAt.shaped (.tuple cs) = true := by
    unfold SeqAt.shaped
    rw [Bool.and_eq_true]
    exact ⟨h2, decide_eq_true (by show PyData.depthAll cs + 1 ≤ 64; omega)⟩
  have s4 : SeqAt.shaped (.tuple es) = true := by
    unfold SeqAt.shaped
    rw [Bool.and_eq_true]
    exact ⟨g2, decide_eq_true (by show PyData.depthAll es + 1 ≤ 64; omega)⟩
  refine ⟨PyData.eqv (.list cs) (.list es), ?_, ?_, ?_, ?_⟩
  · unfold eqD
    rw [if_neg (by simp [flatD]), l1, l2, Option.bind_some, Option.bind_some, s1, s2]
    rfl
  · unfold eqD
    rw [if_neg (by simp [flatD]), t1, t2, Option.bind_some, Option.bind_some, s3, s4, if_pos (by rfl)]
    simp only [PyData.eqv]
  · unfold eqD
    rw [if_neg (by simp [flatD]), l1, l2, Option.bind_some, Option.bind_some, s1, s2, PySem.W.eqv_comm]
    rfl
  · unfold eqD
    rw [if_neg (by simp [flatD]), t1, t2, Option.bind_some, Option.bind_some, s3, s4, if_pos (by rfl), PySem.W.eqv_comm]
    simp only [PyData.eqv]
end DD

set_option Elab.async false
set_option linter.all false
set_option maxRecDepth 100000
set_option maxHeartbeats 4000000
/-! DD26: == of tuples whose items may be instances with an own ==; either answer. -/
namespace DD
open PySem PySem.SeqAt
open AutoSeq1 (wpAny_loadPart')
open MeetsSeq MeetsSeq2 MeetsSeq3 SeqRoads2
section
variable {pr : Program} {wd : World} {Ar : Around} {Rz : Result → Shared → Prop}
/-- tuple == tuple: Go i holds ahead of the i-th two, No once two differ -/
theorem tup_eqB (p q : Addr) (xs ys : Array Value) (n m : Nat) (d1 d2 : Option Addr) (l1 l2 : Array (Option Value)) (Go : Nat → Shared → Prop) (No : Shared → Prop)
    (step : ∀ i (h1 : i < xs.size) (h2 : i < ys.size) t, Go i t → wpAny (model pr wd) Ar.in1 (eqBool xs[i] ys[i]) (fun r t' => (r = true ∧ Go (i + 1) t') ∨ (r = false ∧ No t')) (fun e t' => Rz (.error e) t') t)
    (yes : ∀ t, Go (min xs.size ys.size) t → Rz (.ok (.ret (.bool (xs.size == ys.size)))) t) (no : ∀ t, No t → Rz (.ok (.ret (.bool false))) t) {st : Shared}
    (ha : st.heap.get? p = some { cls := .type "tuple", dict := d1, data := .seq xs n, slots := l1 }) (hb : st.heap.get? q = some { cls := .type "tuple", dict := d2, data := .seq ys m, slots := l2 }) (go : Go 0 st) :
    wpAny (model pr wd) Ar.in1 (Builtin.«tuple.__eq__» ⟨[.ref p, .ref q], []⟩) (GQ.FinOf pr wd Ar Rz) (fun e t' => Rz (.error e) t') st := by
  have sub := AutoSeq1.sub_tuple_tuple
  have zl : (xs.toList.zip ys.toList).length = min xs.size ys.size := by simp
  have go0 := go
  obtain ⟨h0, g0, e0, k0, o0⟩ := st
  wp_walk using wpAny_loadPart' ha, wpAny_loadPart' hb, wpAny_forIn_list _ (fun r b t => b.1 = none ∧ ∃ j, r = (xs.toList.zip ys.toList).drop j ∧ j ≤ min xs.size ys.size ∧ Go j t) _
  case turn =>
    rintro ⟨y, x⟩ r b t ⟨hn, j, hz, hj, hg⟩
    have lt : j < (xs.toList.zip ys.toList).length := by
      rcases Nat.lt_or_ge j (xs.toList.zip ys.toList).length with z | z
      · exact z
      · rw [List.drop_of_length_le z] at hz
        cases hz
    have lm : j < min xs.size ys.size := zl ▸ lt
    have a1 : j < xs.size := by omega
    have a2 : j < ys.size := by omega
    rw [List.drop_eq_getElem_cons lt] at hz
    injection hz with e1 e2
    have ey : y = xs[j] := by
      have z := congrArg Prod.fst e1
      simpa using z
    have ex : x = ys[j] := by
      have z := congrArg Prod.snd e1
      simpa using z
    subst ey ex
    refine wpAny_bind (wpAny_mono (step j a1 a2 t hg) (fun r' t' z => ?_) fun _ _ z => z)
    rcases z with ⟨rfl, z⟩ | ⟨rfl, z⟩
    · wp_walk
      exact ⟨rfl, j + 1, e2, lm, z⟩
    · have fin := no t' z
      wp_walk
      exact fin
  case fin =>
    rintro ⟨b1, b2⟩ t ⟨hn, j, hz, hj, hg⟩
    simp only at hn
    subst hn
    have ge : min xs.size ys.size ≤ j := by
      rcases Nat.lt_or_ge j (xs.toList.zip ys.toList).length with z | z
      · rw [List.drop_eq_getElem_cons z] at hz
        cases hz
      · exact zl ▸ z
    have ej : j = min xs.size ys.size := by omega
    have fin := yes t (ej ▸ hg)
    wp_walk
    simpa [Builtin.Tuple.tupleCompareSizes] using fin
  case h =>
    exact ⟨rfl, 0, rfl, Nat.zero_le _, go0⟩
theorem rc_tupB {p q : Addr} {xs ys : Array Value} {Qv Ev : Value → Shared → Prop} {st : Shared} (hu : Ar.units < cLine) (Go : Nat → Shared → Prop) (No : Shared → Prop)
    (ha : st.heap.IsTuple p xs) (hb : st.heap.IsTuple q ys)
    (step : ∀ i (h1 : i < xs.size) (h2 : i < ys.size) t, Go i t → wpAny (model pr wd) Ar.in1 (eqBool xs[i] ys[i]) (fun r t' => (r = true ∧ Go (i + 1) t') ∨ (r = false ∧ No t')) Ev t)
    (yes : ∀ t, Go (min xs.size ys.size) t → Qv (.bool (xs.size == ys.size)) t) (no : ∀ t, No t → Qv (.bool false) t) (go : Go 0 st) : wpAny (model pr wd) Ar (richCompare .Eq (.ref p) (.ref q)) Qv Ev st := by
  obtain ⟨⟨c1, d1, w1, l1⟩, o1, e1, n1, f1⟩ := id ha
  obtain ⟨⟨c2, d2, w2, l2⟩, o2, e2, n2, f2⟩ := id hb
  simp only at e1 f1 e2 f2
  subst e1 f1 e2 f2
  refine wpAny_richCompare_same_room (op := .Eq) ⟨_, o1, rfl⟩ ⟨_, o2, rfl⟩ F.slot_tuple_eq ?_ hu
  refine GQ.call_here F.slot_tuple_eq ⟨_, o1, rfl⟩ F.entry_tuple_eq (F.args_tuple_eq_2 _ _) ?_
  exact tup_eqB (Rz := wants (fun v t => v ≠ .notImplemented ∧ Qv v t) Ev) p q xs ys n1 n2 d1 d2 l1 l2 Go No step (fun t z => ⟨(fun x => nomatch x), yes t z⟩) (fun t z => ⟨(fun x => nomatch x), no t z⟩) o1 o2 go
end
end DD
namespace DD
open PySem PySem.Spec PyProof.Rows L2
/-- somewhere below the running body, with room and no guards -/
structure Bel (X : Cx) (n : Nat) (A : Around) : Prop where
  room : Room n A
  fr : A.frames = X.A.frames
  gu : A.guards = some []
theorem Bel.in1 {X : Cx} {n : Nat} {A : Around} (s : Bel X (n + 1) A) : Bel X n A.in1 := ⟨s.room.in1, s.fr, s.gu⟩
theorem Bel.mono {X : Cx} {n m : Nat} {A : Around} (s : Bel X n A) (h : m ≤ n) : Bel X m A := ⟨s.room.mono h, s.fr, s.gu⟩
/-- what == answers, over data -/
abbrev EqR := D → D → Bool → Prop
def EqK (X : Cx) (n : Nat) (R : EqR) : Prop := ∀ (A : Around) (pins : List (Addr × Obj)) (s : Shared) (σ : L2.St) (F H : Hp) (c d : D) (x y : V) (u v : Value) (k : Bool), Bel X n A → Inv X pins σ H s → Same F H → Rp X.K F c x → Rp X.K F d y → RelV x u → RelV y v → R c d k →
    wpAny (model X.prog X.w) A (eqBool u v) (fun r s' => r = k ∧ ∃ H', Inv X pins σ H' s' ∧ Ext H H') X.xe s
def RcK (X : Cx) (n : Nat) (R : EqR) : Prop := ∀ (A : Around) (pins : List (Addr × Obj)) (s : Shared) (σ : L2.St) (F H : Hp) (c d : D) (x y : V) (u v : Value) (k : Bool), Bel X n A → Inv X pins σ H s → Same F H → Rp X.K F c x → Rp X.K F d y → RelV x u → RelV y v → R c d k →
    wpAny (model X.prog X.w) A (richCompare .Eq u v) (fun r s' => r = .bool k ∧ ∃ H', Inv X pins σ H' s' ∧ Ext H H') X.xe s
theorem Same.ext {F H H' : Hp} (e : Same F H) (h : Ext H H') : Same F H' := fun a o z => h a o (e a o z)
section
variable {X : Cx} {n m : Nat} {R R' : EqR}
theorem EqK.mono (h : EqK X n R) (hn : n ≤ m) : EqK X m R := fun A pins s σ F H c d x y u v k b => h A pins s σ F H c d x y u v k (b.mono hn)
theorem RcK.mono (h : RcK X n R) (hn : n ≤ m) : RcK X m R := fun A pins s σ F H c d x y u v k b => h A pins s σ F H c d x y u v k (b.mono hn)
theorem EqK.or (h : EqK X n R) (h' : EqK X n R') : EqK X n (fun c d k => R c d k ∨ R' c d k) := fun A pins s σ F H c d x y u v k b I e r1 r2 l1 l2 z => by
  rcases z with z | z
  · exact h A pins s σ F H c d x y u v k b I e r1 r2 l1 l2 z
  · exact h' A pins s σ F H c d x y u v k b I e r1 r2 l1 l2 z
/-- flat data -/
def rFlat : EqR := fun c d k => flatD c = true ∧ flatD d = true ∧ k = eqV (flatV' c) (flatV' d)
theorem eqK_flat : EqK X 0 rFlat := by
  intro A pins s σ F H c d x y u v k b I e r1 r2 l1 l2 z
  obtain ⟨f1, f2, rfl⟩ := z
  obtain ⟨rfl, g1⟩ := rpFlat r1 f1
  obtain ⟨rfl, g2⟩ := rpFlat r2 f2
  exact eqAt_V (A := A) (s := s) l1 l2 g1 g2 X.prog X.w X.xe _ ⟨rfl, H, I, Ext.rfl'⟩
/-- item by item -/
def rItems (R : EqR) : List D → List D → Bool → Prop
  | [], [], k => k = true
  | c :: cs, d :: ds, k => ∃ j, R c d j ∧ if j = true then rItems R cs ds k else k = false
  | _, _, k => k = false
end
/-! ### one value reads one datum -/
def backV : Value → V
  | .bool b => .bl b
  | .int i _ => .int i
  | .str z _ => .str z
  | .bytes b _ => .byt b
  | .float b _ => .flt b
  | .ref a => .ref a
  | .type n => .ty n
  | _ => .non
theorem rel_back {x : V} {u : Value} (h : L2.RelV x u) : x = backV u := by
  cases x <;> first | (cases h; rfl) | (obtain ⟨t, rfl⟩ := h; rfl)
theorem relV_inj {x y : V} {u : Value} (h : L2.RelV x u) (g : L2.RelV y u) : x = y := (rel_back h).trans (rel_back g).symm
theorem vals_inj : ∀ {xs ys : List V} {us : List Value}, Vals xs us → Vals ys us → xs = ys
  | [], _, _, .nil, g => by
    cases g
    rfl
  | _ :: _, _, _, .cons h t, g => by
    cases g with
    | cons h' t' => rw [relV_inj h h', vals_inj t t']
theorem zip_inj {ns ms : List Str} {xs ys : List V} (h : ns.length = xs.length) (g : ms.length = ys.length) (e : ns.zip xs = ms.zip ys) : ns = ms ∧ xs = ys := by
  have a := congrArg (fun l => l.map Prod.fst) e
  have b := congrArg (fun l => l.map Prod.snd) e
  simp only [List.map_fst_zip (Nat.le_of_eq h), List.map_fst_zip (Nat.le_of_eq g), List.map_snd_zip (Nat.le_of_eq h.symm), List.map_snd_zip (Nat.le_of_eq g.symm)] at a b
  exact ⟨a, b⟩
mutual
def pureD : D → Bool
  | .non => true
  | .bl _ => true
  | .int _ => true
  | .str _ => true
  | .lst ds => pureL ds
  | .tup ds => pureL ds
  | .ins _ _ ds => pureL ds
  | _ => false
def pureL : List D → Bool
  | [] => true
  | d :: ds => pureD d && pureL ds
end
section
variable {X : Cx} {pins : List (Addr × Obj)} {σ : L2.St} {F H : Hp} {s : Shared}
theorem no_lt {a : Addr} {xs ys : List V} (I : Inv X pins σ H s) (h : H a = some (.lst xs)) (g : SqT X.K H a ys) : False := by
  obtain ⟨_, its, _, _, e⟩ := I.hok a _ h
  obtain ⟨its2, _, ⟨o, e2, c, _⟩, _⟩ := I.tuple g
  rw [e] at e2
  cases e2
  exact absurd c (by simp)
theorem no_it {a C dx : Addr} {fs : List (Str × V)} {ys : List V} (I : Inv X pins σ H s) (h : H a = some (.ins C dx fs)) (g : SqT X.K H a ys) : False := by
  obtain ⟨_, O, _⟩ := ins_get I.hok h
  obtain ⟨_, J, _⟩ := O.look
  obtain ⟨its2, _, ⟨o, e2, c, _⟩, _⟩ := I.tuple g
  rw [J.at_] at e2
  cases e2
  exact absurd c (by simp [PySem.W.instObj])
mutual
/-- what a value reads is one datum -/
theorem rpFun (I : Inv X pins σ H s) (e : Same F H) : ∀ (c d : D) (v : V), pureD c = true → pureD d = true → Rp X.K F c v → Rp X.K F d v → c = d
  | .non, d, v, _, p, h, g => by
    unfold Rp at h
    subst h
    cases d <;> first | (cases p; done) | (unfold Rp at g; first | (cases g; rfl) | (cases g; done) | (obtain ⟨_, g⟩ := g; first | cases g.1 | (obtain ⟨_, g⟩ := g; first | cases g.1 | (obtain ⟨_, g⟩ := g; cases g.1))))
  | .bl _, d, v, _, p, h, g => by
    unfold Rp at h
    subst h
    cases d <;> first | (cases p; done) | (unfold Rp at g; first | (cases g; rfl) | (cases g; done) | (obtain ⟨_, g⟩ := g; first | cases g.1 | (obtain ⟨_, g⟩ := g; first | cases g.1 | (obtain ⟨_, g⟩ := g; cases g.1))))
  | .int _, d, v, _, p, h, g => by
    unfold Rp at h
    subst h
    cases d <;> first | (cases p; done) | (unfold Rp at g; first | (cases g; rfl) | (cases g; done) | (obtain ⟨_, g⟩ := g; first | cases g.1 | (obtain ⟨_, g⟩ := g; first | cases g.1 | (obtain ⟨_, g⟩ := g; cases g.1))))
  | .str _, d, v, _, p, h, g => by
    unfold Rp at h
    subst h
    cases d <;> first | (cases p; done) | (unfold Rp at g; first | (cases g; rfl) | (cases g; done) | (obtain ⟨_, g⟩ := g; first | cases g.1 | (obtain ⟨_, g⟩ := g; first | cases g.1 | (obtain ⟨_, g⟩ := g; cases g.1))))
  | .lst ds, d, v, pc, p, h, g => by
    unfold Rp at h
    obtain ⟨a, xs, rfl, h1, h2⟩ := h
    cases d <;> first | (cases p; done) | (unfold Rp at g; cases g; done) | skip
    · unfold Rp at g
      obtain ⟨a', ys, e', g1, g2⟩ := g
      cases e'
      rw [h1] at g1
      cases g1
      rw [rpFunL I e ds _ xs pc p h2 g2]
    · unfold Rp at g
      obtain ⟨a', ys, e', g1, g2⟩ := g
      cases e'
      exact (no_lt I (e _ _ h1) (sqT_mono e g1)).elim
    · unfold Rp at g
      obtain ⟨a', dx, ys, e', g1, g2⟩ := g
      cases e'
      rw [h1] at g1
      cases g1
  | .tup ds, d, v, pc, p, h, g => by
    unfold Rp at h
    obtain ⟨a, xs, rfl, h1, h2⟩ := h
    cases d <;> first | (cases p; done) | (unfold Rp at g; cases g; done) | skip
    · unfold Rp at g
      obtain ⟨a', ys, e', g1, g2⟩ := g
      cases e'
      exact (no_lt I (e _ _ g1) (sqT_mono e h1)).elim
    · unfold Rp at g
      obtain ⟨a', ys, e', g1, g2⟩ := g
      cases e'
      obtain ⟨u1, r1, ⟨o1, q1, _, n1, z1⟩, _⟩ := I.tuple (sqT_mono e h1)
      obtain ⟨u2, r2, ⟨o2, q2, _, n2, z2⟩, _⟩ := I.tuple (sqT_mono e g1)
      rw [q1] at q2
      cases q2
      rw [z1] at z2
      have ez : u1 = u2 := by
        have z3 : u1 = u2 ∧ n1 = n2 := by simpa using z2
        exact z3.1
      subst ez
      have ex := vals_inj r1 r2
      subst ex
      rw [rpFunL I e ds _ xs pc p h2 g2]
    · unfold Rp at g
      obtain ⟨a', dx, ys, e', g1, g2⟩ := g
      cases e'
      exact (no_it I (e _ _ g1) (sqT_mono e h1)).elim
  | .ins C ns ds, d, v, pc, p, h, g => by
    unfold Rp at h
    obtain ⟨a, dx, xs, rfl, h1, h2, h3⟩ := h
    cases d <;> first | (cases p; done) | (unfold Rp at g; cases g; done) | skip
    · unfold Rp at g
      obtain ⟨a', ys, e', g1, g2⟩ := g
      cases e'
      rw [h1] at g1
      cases g1
    · unfold Rp at g
      obtain ⟨a', ys, e', g1, g2⟩ := g
      cases e'
      exact (no_it I (e _ _ h1) (sqT_mono e g1)).elim
    · unfold Rp at g
      obtain ⟨a', dx', ys, e', g1, g2, g3⟩ := g
      cases e'
      rw [h1] at g1
      injection g1 with g1
      injection g1 with e1 e2 e4
      obtain ⟨e5, e6⟩ := zip_inj h3 g3 e4
      subst e1 e5 e6
      rw [rpFunL I e ds _ xs pc p h2 g2]
  | .ty _, _, _, pc, _, _, _ => by cases pc
  | .ref _, _, _, pc, _, _, _ => by cases pc
  | .dct _ _, _, _, pc, _, _, _ => by cases pc
  | .iset _ _, _, _, pc, _, _, _ => by cases pc
  | .exc _ _, _, _, pc, _, _, _ => by cases pc
  | .scr _, _, _, pc, _, _, _ => by cases pc
theorem rpFunL (I : Inv X pins σ H s) (e : Same F H) : ∀ (cs ds : List D) (vs : List V), pureL cs = true → pureL ds = true → RpL X.K F cs vs → RpL X.K F ds vs → cs = ds
  | [], ds, vs, _, _, h, g => by
    unfold RpL at h
    subst h
    cases ds with
    | nil => rfl
    | cons d ds =>
      unfold RpL at g
      obtain ⟨_, _, z, _⟩ := g
      cases z
  | c :: cs, ds, vs, pc, p, h, g => by
    unfold RpL at h
    obtain ⟨x, r, rfl, h1, h2⟩ := h
    cases ds with
    | nil =>
      unfold RpL at g
      cases g
    | cons d ds =>
      unfold RpL at g
      obtain ⟨x', r', z, g1, g2⟩ := g
      cases z
      obtain ⟨a1, a2⟩ := Bool.and_eq_true_iff.mp (show (pureD c && pureL cs) = true from pc)
      obtain ⟨b1, b2⟩ := Bool.and_eq_true_iff.mp (show (pureD d && pureL ds) = true from p)
      rw [rpFun I e c d x a1 b1 h1 g1, rpFunL I e cs ds r a2 b2 h2 g2]
end
end
end DD

set_option Elab.async false
set_option linter.all false
set_option maxRecDepth 100000
set_option maxHeartbeats 4000000
/-! DD27: == of tuples of instances over data. -/
namespace DD
open PySem PySem.Spec PyProof.Rows L2
theorem pureL_get : ∀ {ds : List D} {i : Nat} {d : D}, pureL ds = true → ds[i]? = some d → pureD d = true
  | d' :: ds, 0, d, p, h => by
    obtain ⟨b1, _⟩ := Bool.and_eq_true_iff.mp (show (pureD d' && pureL ds) = true from p)
    simp at h
    subst h
    exact b1
  | d' :: ds, i + 1, d, p, h => by
    obtain ⟨_, b2⟩ := Bool.and_eq_true_iff.mp (show (pureD d' && pureL ds) = true from p)
    exact pureL_get (i := i) b2 (by simpa using h)
/-- what == is told of -/
structure EqW (R : EqR) : Prop where
  p : ∀ c d k, R c d k → pureD c = true ∧ pureD d = true
  r : ∀ c k, R c c k → k = true
theorem rItems_self {R : EqR} (w : EqW R) : ∀ {cs : List D} {k : Bool}, rItems R cs cs k → k = true
  | [], _, h => h
  | c :: cs, k, h => by
    obtain ⟨j, h1, h2⟩ := h
    have := w.r c j h1
    subst this
    rw [if_pos rfl] at h2
    exact rItems_self w h2
def rTup (R : EqR) : EqR := fun c d k => ∃ cs ds, c = .tup cs ∧ d = .tup ds ∧ pureL cs = true ∧ pureL ds = true ∧ rItems R cs ds k
def rIns (C : Addr) (R : EqR) : EqR := fun c d k => (∃ ns ds, c = .ins C ns ds) ∧ (∃ ns ds, d = .ins C ns ds) ∧ R c d k
theorem eqW_tup {R : EqR} (w : EqW R) : EqW (rTup R) where
  p := fun c d k ⟨cs, ds, e1, e2, p1, p2, _⟩ => by
    subst e1 e2
    exact ⟨p1, p2⟩
  r := fun c k ⟨cs, ds, e1, e2, _, _, h⟩ => by
    subst e1
    cases e2
    exact rItems_self w h
theorem eqW_ins {C : Addr} {R : EqR} (w : EqW R) : EqW (rIns C R) := ⟨fun c d k h => w.p c d k h.2.2, fun c k h => w.r c k h.2.2⟩
section
variable {X : Cx} {n m : Nat} {R : EqR}
theorem eqK_of (h : RcK X n R) (w : EqW R) (hr : ∀ c d k, R c d k → ∀ F x y, Rp X.K F c x → Rp X.K F d y → (∃ a, x = .ref a) ∧ ∃ a, y = .ref a) : EqK X n R := by
  intro A pins s σ F H c d x y u v k b I e r1 r2 l1 l2 z
  obtain ⟨⟨a, rfl⟩, ⟨a', rfl⟩⟩ := hr c d k z F x y r1 r2
  cases l1
  cases l2
  by_cases hab : a = a'
  · subst hab
    obtain ⟨p1, p2⟩ := w.p c d k z
    have := rpFun I e c d _ p1 p2 r1 r2
    subst this
    have := w.r c k z
    subst this
    exact SeqAt.EqAt.same (A := A) (s := s) (.ref a) X.prog X.w X.xe _ ⟨rfl, H, I, Ext.rfl'⟩
  · refine GQ.eqBool_refG hab (wpAny_mono (h A pins s σ F H c d _ _ _ _ k b I e r1 r2 rfl rfl z) (fun r s' q => ?_) fun _ _ x => x)
    obtain ⟨hr', q⟩ := q
    exact ⟨k, hr', rfl, q⟩
theorem rItems_nil {R : EqR} {cs ds : List D} {k : Bool} (h : rItems R cs ds k) (e : cs = [] ∨ ds = []) : k = (cs.length == ds.length) := by
  cases cs with
  | nil =>
    cases ds with
    | nil => exact h
    | cons d ds => exact h
  | cons c cs =>
    cases ds with
    | nil => exact h
    | cons d ds => rcases e with e | e <;> cases e
theorem rcK_tup (h : EqK X n R) : RcK X (n + 1) (rTup R) := by
  intro A pins s σ F H c d x y u v k b I e r1 r2 l1 l2 z
  obtain ⟨cs, ds, rfl, rfl, _, _, hi⟩ := z
  unfold Rp at r1 r2
  obtain ⟨p, xs, rfl, g1, q1⟩ := r1
  obtain ⟨p', ys, rfl, g2, q2⟩ := r2
  cases l1
  cases l2
  obtain ⟨us, v1, t1, _⟩ := I.tuple (sqT_mono e g1)
  obtain ⟨ws, v2, t2, _⟩ := I.tuple (sqT_mono e g2)
  have n1 : us.toArray.size = cs.length := by rw [List.size_toArray, ← v1.length, q1.length]
  have n2 : ws.toArray.size = ds.length := by rw [List.size_toArray, ← v2.length, q2.length]
  refine rc_tupB b.room.units0 (fun i t => ∃ H', Inv X pins σ H' t ∧ Ext H H' ∧ rItems R (cs.drop i) (ds.drop i) k) (fun t => (∃ H', Inv X pins σ H' t ∧ Ext H H') ∧ k = false) t1 t2 (fun i h1 h2 t go => ?_) (fun t go => ?_) (fun t no => ?_) ⟨H, I, Ext.rfl', hi⟩
  · obtain ⟨H1, I1, e1, hi'⟩ := go
    have c1 : i < cs.length := by omega
    have c2 : i < ds.length := by omega
    rw [List.drop_eq_getElem_cons c1, List.drop_eq_getElem_cons c2] at hi'
    obtain ⟨j, hj, hn⟩ := hi'
    obtain ⟨a1, b1, f1⟩ := q1.get (List.getElem?_eq_getElem c1)
    obtain ⟨a2, b2, f2⟩ := q2.get (List.getElem?_eq_getElem c2)
    obtain ⟨u1, m1, w1⟩ := v1.get b1
    obtain ⟨u2, m2, w2⟩ := v2.get b2
    have o1 : us.toArray[i] = u1 := by
      have : us[i]? = some us.toArray[i] := by
        have h1' : i < us.length := by simpa using h1
        rw [List.getElem?_eq_getElem h1'] <;> simp
      rw [this] at m1
      exact Option.some.inj m1
    have o2 : ws.toArray[i] = u2 := by
      have : ws[i]? = some ws.toArray[i] := by
        have h2' : i < ws.length := by simpa using h2
        rw [List.getElem?_eq_getElem h2'] <;> simp
      rw [this] at m2
      exact Option.some.inj m2
    rw [o1, o2]
    refine wpAny_mono (h A.in1 pins t σ F H1 _ _ a1 a2 u1 u2 j b.in1 I1 (Same.ext e e1) f1 f2 w1 w2 hj) (fun r t' z => ?_) fun _ _ z => z
    obtain ⟨rfl, H2, I2, e2⟩ := z
    cases r with
    | true => exact .inl ⟨rfl, H2, I2, e1.trans e2, by rw [if_pos rfl] at hn; exact hn⟩
    | false => exact .inr ⟨rfl, ⟨H2, I2, e1.trans e2⟩, by rw [if_neg Bool.false_ne_true] at hn; exact hn⟩
  · obtain ⟨H1, I1, e1, hi'⟩ := go
    refine ⟨?_, H1, I1, e1⟩
    have hk := rItems_nil hi' (by
      rw [n1, n2]
      rcases Nat.le_total cs.length ds.length with z | z
      · exact .inl (by rw [Nat.min_eq_left z, List.drop_length])
      · exact .inr (by rw [Nat.min_eq_right z, List.drop_length]))
    rw [hk, List.length_drop, List.length_drop, n1, n2]
    congr 1
    rw [Bool.eq_iff_iff, beq_iff_eq, beq_iff_eq]
    omega
  · obtain ⟨⟨H1, I1, e1⟩, rfl⟩ := no
    exact ⟨rfl, H1, I1, e1⟩
theorem eqK_tup (h : EqK X n R) (w : EqW R) : EqK X (n + 1) (rTup R) := eqK_of (rcK_tup h) (eqW_tup w) fun c d k ⟨cs, ds, e1, e2, _⟩ F x y r1 r2 => by
  subst e1 e2
  unfold Rp at r1 r2
  obtain ⟨p, xs, rfl, _⟩ := r1
  obtain ⟨p', ys, rfl, _⟩ := r2
  exact ⟨⟨_, rfl⟩, ⟨_, rfl⟩⟩
theorem rcK_ins {C : Addr} {spd : Spd} (c : CmpC X.prog X.w X.K X.mg X.base C "__eq__" n spd) (hs : ∀ x y k, R x y k → spd [.p x, .p y] (fun b _ => b = .p (.bl k)) fun _ _ _ => False) : RcK X n (rIns C R) := by
  intro A pins s σ F H cd dd x y u v k b I e r1 r2 l1 l2 z
  obtain ⟨⟨ns, ds, rfl⟩, ⟨ns', ds', rfl⟩, z⟩ := z
  have s1 := r1
  have s2 := r2
  unfold Rp at r1 r2
  obtain ⟨a, dx, xs, rfl, g1, _⟩ := r1
  obtain ⟨a', dx', xs', rfl, g1', _⟩ := r2
  cases l1
  cases l2
  obtain ⟨f, fd, h1, h2, G, bb⟩ := c.ex
  obtain ⟨_, O, _⟩ := ins_get I.hok (e _ _ g1)
  obtain ⟨_, J, _⟩ := O.look
  obtain ⟨_, O', _⟩ := ins_get I.hok (e _ _ g1')
  obtain ⟨_, J', _⟩ := O'.look
  have sp : toSp X.K spd [.ref a, .ref a'] H (fun v H' => v = .bl k ∧ Ext H H') (fun _ _ _ => False) := by
    refine ⟨F, none, [.p (.ins C ns ds), .p (.ins C ns' ds')], _, _, e, .cons s1 (.cons s2 .nil), (fun p z => by cases z), hs _ _ _ z, fun v H' F' b m af r z => ?_, fun cls dd H' F' C es m _ _ z => z.elim⟩
    subst z
    have r : Rp X.K F' (.bl k) v := r
    exact ⟨rpBl r, fun a o h => af.keep a o h (fun z => by cases z)⟩
  have v2 : Vals [V.ref a, V.ref a'] [Value.ref a, Value.ref a'] := .cons rfl (.cons rfl .nil)
  have e0 : Env0 X.prog X.w X.K X.mg X.base A X.stack s H := by
    have z := I.env0
    exact ⟨by rw [b.fr]; exact z.frames, z.mod, z.bs, z.bsz, z.funs, z.frf, z.hok, z.bare⟩
  refine cmp_own (op := .Eq) b.room.units0 I.kIn J J'.type notFirst_self h1 h2 ?_
  refine wpAny_call (codeAny_mono (G.run A X.stack s H ⟨[.ref a, .ref a'], []⟩ _ _ _ _ b.gu b.room e0 (bb s [.ref a, .ref a'] I.kIn rfl) v2 sp) fun r s' hq => ?_)
  cases r with
  | error er =>
    obtain ⟨_, _, _, _, _, _, _, _, _, _, _, _, z⟩ := hq
    exact z.elim
  | ok fl =>
    cases fl with
    | ret w =>
      obtain ⟨z, H', I', rz, ez, ex⟩ := I.after hq
      subst ez
      cases rz
      exact ⟨rfl, H', I', ex⟩
    | next => exact hq.elim
    | brk => exact hq.elim
    | cont => exact hq.elim
theorem eqK_ins {C : Addr} {spd : Spd} (c : CmpC X.prog X.w X.K X.mg X.base C "__eq__" n spd) (hs : ∀ x y k, R x y k → spd [.p x, .p y] (fun b _ => b = .p (.bl k)) fun _ _ _ => False) (w : EqW R) : EqK X n (rIns C R) :=
  eqK_of (rcK_ins c hs) (eqW_ins w) fun c d k ⟨⟨ns, ds, e1⟩, ⟨ns', ds', e2⟩, _⟩ F x y r1 r2 => by
    subst e1 e2
    unfold Rp at r1 r2
    obtain ⟨p, _, xs, rfl, _⟩ := r1
    obtain ⟨p', _, ys, rfl, _⟩ := r2
    exact ⟨⟨_, rfl⟩, ⟨_, rfl⟩⟩
end
section
variable {X : Cx} {W : Fix} {n k' : Nat} {R : EqR} {a b : Expr} {ta tb : TD} {pos : Pos}
def rEqK (K : PySem.W.Frag) (R : EqR) : R2 := fun x y H Q => ∃ F c d k, Same F H ∧ Rp K F c x ∧ Rp K F d y ∧ R c d k ∧ ∀ H', Ext H H' → Q (.bl k) H'
theorem op_eqK (h : RcK X n R) (gu : X.A.guards = some []) (hr : Room n X.A) : OpR X (compareOp .Eq) (rEqK X.K R) := by
  intro pins s σ H x y v u Q I rx ry hq
  obtain ⟨F, c, d, k, e, r1, r2, hk, q⟩ := hq
  refine PySem.W.cmp_ofEq (wpAny_mono (h X.A pins s σ F H c d x y v u k ⟨hr, rfl, gu⟩ I e r1 r2 rx ry hk) (fun r s' z => ?_) fun _ _ x => x)
  obtain ⟨rfl, H', I', ex⟩ := z
  exact ⟨.bl k, H', I', rfl, q H' ex⟩
def eqKG (R : EqR) : D → D → (B → Prop) → Prop := fun x y Q => ∃ k, R x y k ∧ Q (.p (.bl k))
theorem rd_eqK {K : PySem.W.Frag} : RD K (rEqK K R) (eqKG R) := by
  intro W F H σ δ x y c d Q Z S rc rd g hZ
  obtain ⟨k, hk, q⟩ := g
  refine ⟨F, c, d, k, S.fh, rc, rd, hk, fun H' ex => hZ _ _ ?_⟩
  have af : Aft F H none 0 F H' := ⟨Same.refl F, Same.ext S.fh ex, fun a o h _ => ex a o h, fun a o h => .inl h, fun p z => by cases z⟩
  exact mkP (S.after af) (show Rp K F (.bl k) (.bl k) by unfold Rp; rfl) q
theorem de_eqK (h : RcK X n R) (gu : X.A.guards = some []) (hr : Room k' X.A) (ha : DE X W a ta) (hb : DE X W b tb) (hk : n ≤ k' := by decide) (hm : behindInMarks .Eq b = false := by rfl) : DE X W (.Compare a [.Eq] [b] pos) (dOp (eqKG R) ta tb) :=
  de_cmp (op_eqK h gu (hr.mono hk)) rd_eqK ha hb hm
theorem dt_eqK (h : RcK X n R) (gu : X.A.guards = some []) (hr : Room k' X.A) (ha : DE X W a ta) (hb : DE X W b tb) (hk : n ≤ k' := by decide) (hm : behindInMarks .Eq b = false := by rfl) : DT X W (.Compare a [.Eq] [b] pos) (dT (dOp (eqKG R) ta tb)) :=
  dt_cmp (op_eqK h gu (hr.mono hk)) rd_eqK ha hb hm
end
end DD

set_option Elab.async false
set_option linter.all false
set_option maxRecDepth 100000
set_option maxHeartbeats 4000000
/-! DD28: isinstance of a tuple of types, sorted texts, len(set(texts)), -i, xs.index, changes of a list that is nobody's. -/
namespace DD
open PySem PySem.Spec PyProof.Rows L2
section
variable {X : Cx}
def rIsT (K : PySem.W.Frag) : List V → Hp → VK → Prop := fun xs H Q => ∃ (x : V) (p : Addr) (cs : List V) (t : Value) (us : List Value) (b : Bool), xs = [x, .ref p] ∧ SqT K H p cs ∧ Paired ClsV cs us ∧ TyX K H x t ∧ PySem.W.kitAny K t us = some b ∧ Q (.bl b) H
theorem call_isT : CallR X (.builtin "isinstance") (rIsT X.K) := by
  intro pins s σ H xs us Q I r h
  obtain ⟨x, p, cs, t, ws, b, rfl, hT, k, ty, e, q⟩ := h
  obtain ⟨u1, u2, rfl, r1, r2⟩ := vals2 r
  cases (show u2 = Value.ref p from r2)
  obtain ⟨P, Z, pp, hx⟩ := kit_of I r1 ty
  obtain ⟨its, rv, ⟨⟨oc, od, dt, sl⟩, h1, h2, n, h3⟩, _⟩ := I.tuple hT
  cases ClsV.all k rv
  simp only at h2 h3
  subst h2 h3
  exact PySem.W.kia_tup Z I.kIn pp h1 e hx fun tk => ⟨.bl b, H, I.tok tk, rfl, q⟩
end
def isTG (K : PySem.W.Frag) : List D → (B → Prop) → Prop := fun ds Q => ∃ (d : D) (ts : List String) (t : String) (b : Bool), ds = [d, .tup (ts.map D.ty)] ∧ tyD d = some t ∧ PySem.W.kitAny K (.type t) (ts.map Value.type) = some b ∧ Q (.p (.bl b))
theorem rpL_ty {K : PySem.W.Frag} {F : Hp} : ∀ {ts : List String} {xs : List V}, RpL K F (ts.map D.ty) xs → Paired ClsV xs (ts.map Value.type)
  | [], _, h => by
    rw [List.map_nil] at h
    unfold RpL at h
    subst h
    exact .nil
  | t :: ts, _, h => by
    rw [List.map_cons] at h
    unfold RpL at h
    obtain ⟨x, r, rfl, h1, h2⟩ := h
    unfold Rp at h1
    subst h1
    exact .cons (.ty t) (rpL_ty h2)
theorem rc_isT {K : PySem.W.Frag} : RC K (rIsT K) (isTG K) := by
  intro W F H σ δ xs ds Q Z S r g hZ
  obtain ⟨d, ts, t, b, rfl, h1, h2, q⟩ := g
  obtain ⟨x, y, rfl, r1, r2⟩ := rpL2 r
  unfold Rp at r2
  obtain ⟨p, cs, rfl, g1, g2⟩ := r2
  exact ⟨x, p, cs, _, _, b, rfl, sqT_mono S.fh g1, rpL_ty g2, rp_tyX S.fh r1 h1, h2, hZ _ _ (mkP S (show Rp K F (.bl b) (.bl b) by unfold Rp; rfl) q)⟩
theorem isT_LT {K : PySem.W.Frag} {d : D} {Q : B → Prop} (h : dat d = true) : isTG K [d, .tup [.ty "list", .ty "tuple"]] Q ↔ Q (.p (.bl (isLst d || isTup d))) := by
  have e : ∃ t, tyD d = some t ∧ PySem.W.kitAny K (.type t) [.type "list", .type "tuple"] = some (isLst d || isTup d) := by
    cases d <;> first | (cases h; done) | exact ⟨_, rfl, by first | rfl | kernel_rfl⟩
  obtain ⟨t, h1, h2⟩ := e
  constructor
  · rintro ⟨d', ts, t', b, e, g1, g2, q⟩
    injection e with e1 e2
    injection e2 with e3
    injection e3 with e4
    subst e1
    have e5 : ts = ["list", "tuple"] := by
      match ts, e4 with
      | [a, b], e4 =>
        injection e4 with a1 a2
        injection a2 with a2
        injection a1 with a1
        injection a2 with a2
        rw [← a1, ← a2]
    subst e5
    rw [h1] at g1
    cases g1
    have g2 : PySem.W.kitAny K (.type t) [.type "list", .type "tuple"] = some b := g2
    rw [h2] at g2
    cases g2
    exact q
  · exact fun q => ⟨d, ["list", "tuple"], t, _, rfl, h1, h2, q⟩

/-! ### sorted(texts), len(set(texts)), -i, xs.index(y) -/
def sortedSG : List D → (B → Prop) → Prop := fun ds Q => ∃ xs : List Str, ds = [.lst (xs.map D.str)] ∧ xs.length < 64 ∧ ∀ ys : List Str, ys.Perm xs → sortedS ys = true → Q (.o (.lst (ys.map D.str)))
theorem rc_sortedS {K : PySem.W.Frag} : RC K (rSortedS K) sortedSG := by
  intro W F H σ δ xs ds Q Z S r g hZ
  obtain ⟨ns, rfl, h1, q⟩ := g
  obtain ⟨v, rfl, rv⟩ := rpL1 r
  obtain ⟨a, zs, rfl, h2, h3⟩ := rpLst rv
  rw [RpL.str h3] at h2
  exact ⟨a, ns, rfl, SqL.of (S.fh _ _ h2), h1, fun ys p h4 h5 hp => hZ _ _ (DQ.mkO (Q := fun b δ' => δ' = δ ∧ Q b) (d := .lst (ys.map D.str)) S hp ⟨_, upd_same, RpL.ofStr ys⟩ ⟨rfl, q ys h4 h5⟩)⟩
section
variable {X : Cx} {W : Fix} {e o : Expr} {te to : TD} {apos pos p q p2 spos : Pos}
def dLenSet (te : TD) : TD := fun δ Q => dp te δ fun d δ1 => ∃ xs : List Str, seqD d = some (xs.map D.str) ∧ xs.length ≤ 1 ∧ Q (.p (.int (xs.length : Nat))) δ1
theorem de_lenSet (hc : X.calm = true) (hm : X.mg "len" = none) (hm2 : X.mg "set" = none) (h : DE X W e te) (hg : Gl X "len" := by exact rfl) (hg2 : Gl X "set" := by exact rfl)
    (na : starEach [e] X.env = (false, eval e X.env) :: starEach [] X.env := by rfl) : DE X W (.Call (.Name "len" p) [.Call (.Name "set" p2) [e] [] q] [] pos) (dLenSet te) :=
  .of (pe_lenSet (X := X) hc hg hm hg2 hm2 cE_pe na) fun F H σ δ Q S z => by
    refine (h.plain S z).imp fun v H1 h1 => ?_
    obtain ⟨F1, d, δ1, e1, S1, r1, xs, hs, hl, q1⟩ := h1
    obtain ⟨a, ys, rfl, h3, h4⟩ := rp_seq S1.fh r1 hs
    rw [RpL.str h4] at h3
    exact ⟨a, xs, rfl, h3, hl, (mkP (Q := fun b => Q b δ1) S1 rp_int q1).fix e1⟩
def dNeg (te : TD) : TD := fun δ Q => dp te δ fun d δ1 => ∃ i, d = .int i ∧ Q (.p (.int (-i))) δ1
theorem de_neg (h : DE X W e te) : DE X W (.UnaryOp .USub e pos) (dNeg te) :=
  .of (pe_un (X := X) un_neg cE_pe) fun F H σ δ Q S z => by
    refine (h.plain S z).imp fun v H1 h1 => ?_
    obtain ⟨F1, d, δ1, e1, S1, r1, i, rfl, q1⟩ := h1
    unfold Rp at r1
    subst r1
    exact ⟨i, rfl, (mkP (Q := fun b => Q b δ1) S1 rp_int q1).fix e1⟩
/-- where a flat item stands first -/
def dIndex (to te : TD) : TD := fun δ Q => dp to δ fun d δ1 => (∃ ds, d = .lst ds) ∧ dp te δ1 fun y δ2 => ∃ ds j z, d = .lst ds ∧ ds.all flatD = true ∧ flatD y = true ∧ ds[j]? = some z ∧ eqV (flatV' z) (flatV' y) = true ∧ (∀ (m : Nat) z', m < j → ds[m]? = some z' → eqV (flatV' z') (flatV' y) = false) ∧ Q (.p (.int (j : Nat))) δ2
theorem de_index (ho : DE X W o to) (h : DE X W e te)
    (hpe : ∀ to te : TE, PE X o to → PE X e te → PE X (.Call (.Attribute o "index" apos) [e] [] pos) (tBM X.K "list" (rIndex X.K) to (tCons te tNil))) :
    DE X W (.Call (.Attribute o "index" apos) [e] [] pos) (dIndex to te) :=
  .of (hpe _ _ cE_pe cE_pe) fun F H σ δ Q S z => by
    refine (ho.plain S z).imp fun v H1 h1 => ?_
    obtain ⟨F1, d, δ1, e1, S1, r1, ⟨ds, rfl⟩, q1⟩ := h1
    have r1' := r1
    unfold Rp at r1
    obtain ⟨a, xs, rfl, g1, g2⟩ := r1
    refine ⟨.inl ⟨rfl, xs, SqL.of (S1.fh _ _ g1)⟩, (h.plain S1 q1).imp fun u H2 h2 => ?_⟩
    obtain ⟨F2, y, δ2, e2, S2, r2, ds', j, z, ed, f1, f2, hj, hz, hno, q2⟩ := h2
    cases ed
    have g1 := e2 _ _ g1
    have g2 := RpL.mono e2 _ _ g2
    obtain ⟨rfl, f3⟩ := rpFlat r2 f2
    obtain ⟨rfl, f4⟩ := rpL_flat g2 f1
    refine ⟨a, ds.map flatV', flatV' y, j, flatV' z, rfl, rfl, SqL.of (S2.fh _ _ g1), f3, f4, by rw [List.getElem?_map, hj]; rfl, hz, fun m z' hm hz' => ?_, (mkP (Q := fun b => Q b δ2) S2 rp_int q2).fix (e1.trans e2)⟩
    rw [List.getElem?_map] at hz'
    cases hd : ds[m]? with
    | none =>
      rw [hd] at hz'
      cases hz'
    | some z2 =>
      rw [hd] at hz'
      cases hz'
      exact hno m z2 hm hd
/-- e.clear(), e a new list -/
def dClrE (te : TD) : TSD := fun Z δ => te δ fun b δ1 => ∃ ds, b = .o (.lst ds) ∧ Z.nx δ1
theorem ds_clrE (h : DE X W e te) (hpe : ∀ te : TE, PE X e te → PE X (.Call (.Attribute e "clear" apos) [] [] pos) (tBM0 X.K "list" rClear te)) (hs : swapsWith (.Call (.Attribute e "clear" apos) [] [] pos) none spos.line X.env = pure false := by rfl) :
    DS X W (.Expr (.Call (.Attribute e "clear" apos) [] [] pos) spos) (dClrE te) :=
  .of (ps_expr (X := X) (hpe _ cE_pe) hs) fun F H σ δ Z S q => by
    refine (h.run F H σ δ _ S q).imp fun v H1 h1 => ?_
    obtain ⟨F1, b, δ1, e1, S1, r1, sep, ds, rfl, q1⟩ := h1
    obtain ⟨a, rfl, hF, hH, xs, hx, rx⟩ := r1
    exact ⟨.inl ⟨rfl, xs, SqL.of hx⟩, a, xs, rfl, rfl, hx, F1, δ1, S1.turn hH hF (sep rfl), q1⟩
/-- e.append(y), e a new list, y a text -/
def dAppE (te : TD) : TSD := fun Z δ => te δ fun b δ1 => ∃ ds, b = .o (.lst ds) ∧ ds.length < sizeLine ∧ Z.nx δ1
theorem ds_appE {z : Str} {k : Nat} {p3 : Pos} (h : DE X W e te) (hpe : ∀ te : TE, PE X e te → PE X (.Call (.Attribute e "append" apos) [.Constant (.str z) k p3] [] pos) (tBM X.K "list" rAppend te (tCons (tC (.str z)) tNil))) (hs : swapsWith (.Call (.Attribute e "append" apos) [.Constant (.str z) k p3] [] pos) none spos.line X.env = pure false := by rfl) :
    DS X W (.Expr (.Call (.Attribute e "append" apos) [.Constant (.str z) k p3] [] pos) spos) (dAppE te) :=
  .of (ps_expr (X := X) (hpe _ cE_pe) hs) fun F H σ δ Z S q => by
    refine (h.run F H σ δ _ S q).imp fun v H1 h1 => ?_
    obtain ⟨F1, b, δ1, e1, S1, r1, sep, ds, rfl, hl, q1⟩ := h1
    obtain ⟨a, rfl, hF, hH, xs, hx, rx⟩ := r1
    exact ⟨.inl ⟨rfl, xs, SqL.of hx⟩, a, xs, _, rfl, rfl, hx, by rw [rx.length]; exact hl, F1, δ1, S1.turn hH hF (sep rfl), q1⟩
end
end DD

set_option Elab.async false
set_option linter.all false
set_option maxRecDepth 100000
set_option maxHeartbeats 4000000
/-! DD29: defs with defaults: f(a), f(a, k = e). -/
namespace DD
open PySem PySem.Spec PyProof.Rows L2
theorem gn_ofD {P : Program} {w : World} {K : PySem.W.Frag} {mg : Str → Option Value} {base : Heap} {x qual : Str} {st : Stmt} {f : Addr} {fd : FuncData} {N ps : List Str} {k : Nat} {sp : Sp}
    {dvs : List V} {kws : List (Str × V)} (F : FunD K x qual (defArgs st) (defBody st) (defScope st) dvs kws f fd) (S : FnScope N ps (defScope st)) (len : ∀ vs H Q E, sp vs H Q E → vs.length = ps.length)
    (hbody : ∀ (cdv : Value) (A : Around) (outer : List Env) (s : Shared) (H : Hp) (vs : List V) (Q : VK) (E : XK), A.guards = some [] →
      Room k (A.deeper (envOfC qual (defScope st) s.heap.objs.size f cdv)) → sp vs H Q E →
      ∃ t, PSs (cxOf (L2.CX P w) P w K mg base N qual (defScope st) f cdv A outer s H E) (defBody st) t ∧ t { nx := fun _ H' => Q .non H', rt := Q } (start N vs) H) :
    GnOk P w K mg base (k + 1) f fd ps sp := by
  refine ⟨len, ?_⟩
  intro A outer s H args us vs Q E hg hr e0 hb r hsp
  obtain ⟨oc, od, dV, kV, doc, pm, an, cdv, ct, osl, rfl, lk, hcd, _, _⟩ := F.ex
  have kin : K.In s.heap := e0.mod.kin.keeps fun b o e => (e0.bs b o e).1
  refine codeAny_call_function hr.depth (kin _ _ lk) rfl S.co S.gen rfl (PySem.W.codeRec_of kin hcd) (hb _ _ _ _ ?_)
  have hk : ∀ y ∈ ps.zip us, (defScope st).names.lookup y.1 = some .local ∨
      ((defScope st).names.lookup y.1 = some .cell ∧ ((cellsFrom (s.heap.objs.size + 1) (defScope st).names []).lookup y.1).isSome = true) := by
    rintro ⟨n, v⟩ hy
    rcases S.par n (List.of_mem_zip hy).1 with q | q
    · exact Or.inl q
    · exact Or.inr ⟨q, PySem.W.cellsFrom_some _ _ _ (Or.inl q)⟩
  refine wpAny_newFunctionEnv_cells S.kind hk ?_
  intro env he s1 x
  subst he
  refine ⟨(e0.mod.nolimit.keeps fun b o e => (e0.bs b o e).1).keeps x.toInCall.keep, codeAny_func ?_⟩
  obtain ⟨t, ht, hq⟩ := hbody cdv A outer s H vs Q E hg (hr.deeper _) hsp
  have I := inv_start (CX := L2.CX P w) (P := P) (w := w) (mg := mg) (base := base) (E := E) S hr.hd e0 (len _ _ _ _ hsp) r x
  refine wpAny_mono (ht.run [] s1 (start N vs) H _ I hq) ?_ (fun e s' hs => hs)
  intro fl s' hs
  cases fl with
  | ret u =>
    obtain ⟨v, σ', H', J, rv, q⟩ := hs
    exact ⟨v, H', J.os, J.bare, J.base, J.hok, rv, q⟩
  | next =>
    obtain ⟨σ', H', J, q⟩ := hs
    exact ⟨V.non, H', J.os, J.bare, J.base, J.hok, rfl, q⟩
  | brk =>
    obtain ⟨_, _, _, q⟩ := hs
    exact q.elim
  | cont =>
    obtain ⟨_, _, _, q⟩ := hs
    exact q.elim

theorem gd_ofD {P : Program} {w : World} {K : PySem.W.Frag} {mg : Str → Option Value} {base : Heap} {x qual : Str} {st : Stmt} {f : Addr} {fd : FuncData} {N ps : List Str} {k : Nat} {spd : Spd} (pi : Option Nat)
    {dvs : List V} {kws : List (Str × V)} (F : FunD K x qual (defArgs st) (defBody st) (defScope st) dvs kws f fd) (S : FnScope N ps (defScope st)) (len : ∀ bs R E, spd bs R E → bs.length = ps.length) (hpk : ∀ bs R E, spd bs R E → PurK pi bs ∧ (pi = none → ∀ b ∈ bs, b.own = false))
    (hbody : ∀ (cdv : Value) (A : Around) (outer : List Env) (s : Shared) (H : Hp) (E : XK) (W : Fix) (bs : List B) (R : B → Nat → Prop) (ED : Addr → List D → Nat → Prop), A.guards = some [] →
      Room k (A.deeper (envOfC qual (defScope st) s.heap.objs.size f cdv)) → TkE (cxOf (L2.CX P w) P w K mg base N qual (defScope st) f cdv A outer s H E) W (fun C ds δ => ∃ m, PC pi δ m ∧ ED C ds m) → spd bs R ED → Same W.F0 W.H0 →
      ∃ t, DSs (cxOf (L2.CX P w) P w K mg base N qual (defScope st) f cdv A outer s H E) W (defBody st) t ∧
        t { nx := fun δ => ∃ m, PC pi δ m ∧ R (.p .non) m, rt := fun b δ => b.isU = false ∧ ∃ m, PC pi δ m ∧ R b m } (startD N bs)) :
    GnOk P w K mg base (k + 1) f fd ps (toSp K spd) := by
  refine gn_ofD F S (fun vs H Q E h => ?_) fun cdv A outer s H vs Q E hg hr h => ?_
  · obtain ⟨F0, P0, bs, R, ED, _, ra, _, h, _⟩ := h
    rw [← Paired.length ra, len bs R ED h]
  · obtain ⟨F0, P0, bs, R, ED, fh, ra, hP, h, hQ, hE⟩ := h
    obtain ⟨h1, h2⟩ := hpk bs R ED h
    have hnp : P0 = none ∨ pi ≠ none := by
      cases e : P0 with
      | none => exact .inl rfl
      | some p =>
        refine .inr fun z => ?_
        obtain ⟨_, b, hb, ho⟩ := hP p e
        rw [h2 z b hb] at ho
        cases ho
    have S0 : SD K ⟨F0, H, P0, fun C ds δ => ∃ m, PC pi δ m ∧ ED C ds m⟩ F0 H (L2.start N vs) (startD N bs) := .start fh ra (fun p e => (hP p e).1) h1
    have tk : Takes (cxOf (L2.CX P w) P w K mg base N qual (defScope st) f cdv A outer s H E) (WXd K ⟨F0, H, P0, fun C ds δ => ∃ m, PC pi δ m ∧ ED C ds m⟩) := by
      refine (takes_of rfl rfl rfl rfl).imp fun cls d σ H' z => ?_
      obtain ⟨F', δ', C, ds, S', er, m, hm, he⟩ := z
      exact hE cls d H' F' C ds m (S'.aft hnp hm) er he
    obtain ⟨t, ht, q⟩ := hbody cdv A outer s H E _ bs R ED hg hr ⟨rfl, tk⟩ h fh
    refine ⟨_, cSs_pss, (fun pins s I => thn (ht.run F0 H _ _ _ S0 q pins s I) fun fl s' q => SP.imp q (fun σ' H' z => ?_) (fun v H' z => ?_) (fun σ' H' z => ?_) fun σ' H' z => ?_)⟩
    · obtain ⟨F', δ', S', m, hm, r⟩ := z
      exact hQ .non H' F' (.p .non) m (S'.aft hnp hm) (by unfold Res Rp; rfl) r
    · obtain ⟨_, σ', F', b, δ', e', S', rb, _, hu, m, hm, r⟩ := z
      refine hQ v H' F' b m (S'.aft hnp hm) ?_ r
      cases b with
      | p d => exact rb
      | n ds => exact rb
      | o d => exact rb
      | u w n => cases hu
      | s d => cases hu
    · obtain ⟨F', δ', S', z⟩ := z
      exact z.elim
    · obtain ⟨F', δ', S', z⟩ := z
      exact z.elim

/-- a def with defaults -/
structure FunAt (K : PySem.W.Frag) (mg : Str → Option Value) (x : Str) (st : Stmt) (dvs : List V) (kws : List (Str × V)) : Prop where
  ex : ∃ f fd, FunD K x x (defArgs st) (defBody st) (defScope st) dvs kws f fd ∧ mg x = some (.ref f)
/-- what its calls give: just the first ones, the others by default -/
structure CalD (P : Program) (w : World) (K : PySem.W.Frag) (mg : Str → Option Value) (base : Heap) (x : Str) (k : Nat) (ps : List Str) (dds : List D) (spd : Spd) : Prop where
  ex : ∃ f fd dfs dvs, GnOk P w K mg base k f fd ps (toSp K spd) ∧ mg x = some (.ref f) ∧ PySem.W.keepIn K (.ref f) = true ∧ Binds K fd ps dfs ∧ Vals dvs dfs ∧ ∀ F, RpL K F dds dvs
/-- .. all of them, the last by keywords -/
structure CalK (P : Program) (w : World) (K : PySem.W.Frag) (mg : Str → Option Value) (base : Heap) (x : Str) (k n : Nat) (ks : List Str) (spd : Spd) : Prop where
  ex : ∃ f fd ps, GnOk P w K mg base k f fd ps (toSp K spd) ∧ mg x = some (.ref f) ∧ PySem.W.keepIn K (.ref f) = true ∧
    ∀ (s : Shared) (us ws : List Value), K.In s.heap → us.length = n → ws.length = ks.length → BindsTo s fd ⟨us, ks.zip ws⟩ (ps.zip (us ++ ws))
section
variable {P : Program} {w : World} {K : PySem.W.Frag} {mg : Str → Option Value} {base : Heap}
/-- a def with defaults by its body's reading -/
theorem fun_mk {x : Str} {st : Stmt} {dvs : List V} {kws : List (Str × V)} {N ps : List Str} {k : Nat} {spd : Spd} (pi : Option Nat) (Da : FunAt K mg x st dvs kws) (S : FnScope N ps (defScope st))
    (len : ∀ bs R E, spd bs R E → bs.length = ps.length) (hpk : ∀ bs R E, spd bs R E → PurK pi bs ∧ (pi = none → ∀ b ∈ bs, b.own = false))
    (hbody : ∀ (f : Addr) (cdv : Value) (A : Around) (outer : List Env) (s : Shared) (H : Hp) (E : XK) (W : Fix) (bs : List B) (R : B → Nat → Prop) (ED : Addr → List DD.D → Nat → Prop), A.guards = some [] →
      Room k (A.deeper (envOfC x (defScope st) s.heap.objs.size f cdv)) → TkE (cxOf (L2.CX P w) P w K mg base N x (defScope st) f cdv A outer s H E) W (fun C ds δ => ∃ m, PC pi δ m ∧ ED C ds m) → spd bs R ED → Same W.F0 W.H0 →
      ∃ t, DSs (cxOf (L2.CX P w) P w K mg base N x (defScope st) f cdv A outer s H E) W (defBody st) t ∧
        t { nx := fun δ => ∃ m, PC pi δ m ∧ R (.p .non) m, rt := fun b δ => b.isU = false ∧ ∃ m, PC pi δ m ∧ R b m } (startD N bs)) :
    ∃ f fd, GnOk P w K mg base (k + 1) f fd ps (toSp K spd) ∧ mg x = some (.ref f) ∧ FunD K x x (defArgs st) (defBody st) (defScope st) dvs kws f fd := by
  obtain ⟨f, fd, F, hm⟩ := Da.ex
  exact ⟨f, fd, gd_ofD pi F S len hpk (hbody f), hm, F⟩
end
section
variable {X : Cx} {k n : Nat} {f : Addr} {fd : FuncData} {ps ks : List Str} {sp : Sp} {x : Str} {p pos : Pos} {e : Expr} {es : List Expr} {kws : List Keyword} {t tk : TA}
def tCallKG (n m : Nat) (sp : Sp) (Es : L2.St → XK) (t tk : TA) : TE := fun σ H Q => t σ H fun vs H1 => tk σ H1 fun zs H2 => vs.length = n ∧ zs.length = m ∧ sp (vs ++ zs) H2 Q (Es σ)
theorem pe_callKG {Es : L2.St → XK} (gu : X.A.guards = some []) (G : GnOk X.prog X.w X.K X.mg X.base k f fd ps sp) (hr : Room k X.A) (hg : Gl X x) (hm : X.mg x = some (.ref f)) (kp : PySem.W.keepIn X.K (.ref f) = true)
    (hb : ∀ (s : Shared) (us ws : List Value), X.K.In s.heap → us.length = n → ws.length = ks.length → BindsTo s fd ⟨us, ks.zip ws⟩ (ps.zip (us ++ ws))) (hx : ∀ σ, PassesAt (L2.CX X.prog X.w) X σ (Es σ))
    (ha : PA X (e :: es) t) (hkw : PK X kws tk)
    (hall : (backToKw pos (keywordEach kws X.env)).all (·.1.isSome) = true := by rfl) (hks : (backToKw pos (keywordEach kws X.env)).filterMap (·.1) = ks := by rfl) (hdb : (x == ("__debug__" : Str)) = false := by decide)
    (he : starEach (e :: es) X.env = (false, eval e X.env) :: starEach es X.env := by rfl) (hpl : ((backTo pos (starEach (e :: es) X.env)).any (·.1) || (backToKw pos (keywordEach kws X.env)).any (·.1.isNone)) = false := by rfl) :
    PE X (.Call (.Name x p) (e :: es) kws pos) (tCallKG n ks.length sp Es t tk) := by
  refine ⟨fun pins s σ H Q I h => ?_⟩
  refine wpAny_Call_Name_kw (ld_glob I hg hm ?_ hdb)
  refine PySem.W.callWith_KW (h₀ := X.base) I.ok.mod.kin kp hall (thn (ha.run pos pins s σ H _ I h) fun us s1 ⟨vs, H1, I1, r, q⟩ => ?_) hpl he
  refine thn (hkw.run pos pins s1 σ H1 _ I1 q) fun ws s2 ⟨zs, H2, I2, rz, l1, l2, q2⟩ => ⟨I2.kIn, ?_⟩
  rw [hks]
  have n1 : us.length = n := r.length.symm.trans l1
  have n2 : ws.length = ks.length := rz.length.symm.trans l2
  refine wpAny_call (codeAny_mono (G.run X.A X.stack s2 H2 ⟨us, ks.zip ws⟩ _ _ _ (Es σ) gu hr I2.env0 (hb s2 us ws I2.kIn n1 n2) (r.append rz) q2) fun r' s' hq => ?_)
  cases r' with
  | error er => exact hx σ pins H2 s2 er s' I2 hq
  | ok fl =>
    cases fl with
    | ret u => exact I2.after hq
    | next => exact hq.elim
    | brk => exact hq.elim
    | cont => exact hq.elim
end
section
variable {X : Cx} {W : Fix} {E0 : Addr → List D → Env' → Prop} {k k' n : Nat} {ps ks : List Str} {dds : List D} {spd : Spd} {x : Str} {p pos : Pos} {e : Expr} {es : List Expr} {kws : List Keyword} {t tk : TDA}
theorem de_cD (c : CalD X.prog X.w X.K X.mg X.base x k ps dds spd) (gu : X.A.guards = some []) (hr : Room k' X.A) (h : DA X W (e :: es) t) (hg : Gl X x := by exact rfl) (hk : k ≤ k' := by decide) (hdb : (x == ("__debug__" : Str)) = false := by decide)
    (he : starEach (e :: es) X.env = (false, eval e X.env) :: starEach es X.env := by rfl) (hpl : (backTo pos (starEach es X.env)).any (·.1) = false := by rfl) : DE X W (.Call (.Name x p) (e :: es) [] pos) (dCall spd dds (fun _ _ _ => False) t) := by
  obtain ⟨f, fd, dfs, dvs, G, hm, kp, b, hd, hdd⟩ := c.ex
  exact de_call G gu (hr.mono hk) hg hm kp b hd hdd h hdb he hpl
theorem de_cDX (te : TkE X W E0) (c : CalD X.prog X.w X.K X.mg X.base x k ps dds spd) (gu : X.A.guards = some []) (hr : Room k' X.A) (h : DA X W (e :: es) t) (hg : Gl X x := by exact rfl) (hk : k ≤ k' := by decide) (hdb : (x == ("__debug__" : Str)) = false := by decide)
    (he : starEach (e :: es) X.env = (false, eval e X.env) :: starEach es X.env := by rfl) (hpl : (backTo pos (starEach es X.env)).any (·.1) = false := by rfl) : DE X W (.Call (.Name x p) (e :: es) [] pos) (dCall spd dds E0 t) := by
  obtain ⟨f, fd, dfs, dvs, G, hm, kp, b, hd, hdd⟩ := c.ex
  exact de_callX te G gu (hr.mono hk) hg hm kp b hd hdd h hdb he hpl
def dCallK (n m : Nat) (spd : Spd) (Ew : Addr → List D → Env' → Prop) (t tk : TDA) : TD := fun δ Q => t δ fun ds δ1 => tk δ1 fun es δ2 => ds.length = n ∧ es.length = m ∧ spd ((ds ++ es).map .p) (fun b _ => b.isU = false ∧ Q b δ2) fun C es _ => Ew C es δ2
theorem de_cK (c : CalK X.prog X.w X.K X.mg X.base x k n ks spd) (gu : X.A.guards = some []) (hr : Room k' X.A) (h : DA X W (e :: es) t) (hkw : DK X W kws tk) (hg : Gl X x := by exact rfl) (hk : k ≤ k' := by decide)
    (hall : (backToKw pos (keywordEach kws X.env)).all (·.1.isSome) = true := by rfl) (hks : (backToKw pos (keywordEach kws X.env)).filterMap (·.1) = ks := by rfl) (hdb : (x == ("__debug__" : Str)) = false := by decide)
    (he : starEach (e :: es) X.env = (false, eval e X.env) :: starEach es X.env := by rfl) (hpl : ((backTo pos (starEach (e :: es) X.env)).any (·.1) || (backToKw pos (keywordEach kws X.env)).any (·.1.isNone)) = false := by rfl) :
    DE X W (.Call (.Name x p) (e :: es) kws pos) (dCallK n ks.length spd (fun _ _ _ => False) t tk) := by
  obtain ⟨f, fd, ps, G, hm, kp, kb⟩ := c.ex
  refine .of (pe_callKG (X := X) (tk := cK X kws) (Es := fun _ _ _ _ => False) gu G (hr.mono hk) hg hm kp kb (fun σ => pass_none) cA_pa ⟨fun pos pins s _ _ _ I h => h pos pins s I⟩ hall hks hdb he hpl) fun F H σ δ Q S q => ?_
  refine (h.run F H σ δ _ S q).imp fun vs H1 h1 => ?_
  obtain ⟨F1, ds, δ1, e1, S1, r1, q1⟩ := h1
  intro pos pins s I
  refine thn (hkw.run F1 H1 σ δ1 _ S1 q1 pos pins s I) fun ws s2 h2 => ?_
  obtain ⟨zs, H2, I2, rz, F2, es', δ2, e2, S2, r2, n1, n2, q2⟩ := h2
  refine ⟨zs, H2, I2, rz, by rw [r1.length]; exact n1, by rw [r2.length]; exact n2, F2, none, _, _, _, S2.fh, paired_p ((RpL.mono e2 _ _ r1).append r2), (fun p e => by cases e), q2, fun v H' F' b m a r z => ?_, fun cls d H' F' C ds m a er z => z.elim⟩
  obtain ⟨r3, r4⟩ := RB.of_res S2 r
  exact ⟨F', b, δ2, (e1.trans e2).trans a.ff, S2.after a, r3, r4, z.2⟩
theorem de_cKX (te : TkE X W E0) (c : CalK X.prog X.w X.K X.mg X.base x k n ks spd) (gu : X.A.guards = some []) (hr : Room k' X.A) (h : DA X W (e :: es) t) (hkw : DK X W kws tk) (hg : Gl X x := by exact rfl) (hk : k ≤ k' := by decide)
    (hall : (backToKw pos (keywordEach kws X.env)).all (·.1.isSome) = true := by rfl) (hks : (backToKw pos (keywordEach kws X.env)).filterMap (·.1) = ks := by rfl) (hdb : (x == ("__debug__" : Str)) = false := by decide)
    (he : starEach (e :: es) X.env = (false, eval e X.env) :: starEach es X.env := by rfl) (hpl : ((backTo pos (starEach (e :: es) X.env)).any (·.1) || (backToKw pos (keywordEach kws X.env)).any (·.1.isNone)) = false := by rfl) :
    DE X W (.Call (.Name x p) (e :: es) kws pos) (dCallK n ks.length spd E0 t tk) := by
  obtain ⟨f, fd, ps, G, hm, kp, kb⟩ := c.ex
  refine .of (pe_callKG (X := X) (tk := cK X kws) (Es := WE (WXd X.K W)) gu G (hr.mono hk) hg hm kp kb (fun σ => passAt te.tk σ) cA_pa ⟨fun pos pins s _ _ _ I h => h pos pins s I⟩ hall hks hdb he hpl) fun F H σ δ Q S q => ?_
  refine (h.run F H σ δ _ S q).imp fun vs H1 h1 => ?_
  obtain ⟨F1, ds, δ1, e1, S1, r1, q1⟩ := h1
  intro pos pins s I
  refine thn (hkw.run F1 H1 σ δ1 _ S1 q1 pos pins s I) fun ws s2 h2 => ?_
  obtain ⟨zs, H2, I2, rz, F2, es', δ2, e2, S2, r2, n1, n2, q2⟩ := h2
  refine ⟨zs, H2, I2, rz, by rw [r1.length]; exact n1, by rw [r2.length]; exact n2, F2, none, _, _, _, S2.fh, paired_p ((RpL.mono e2 _ _ r1).append r2), (fun p e => by cases e), q2, fun v H' F' b m a r z => ?_, fun cls d H' F' C ds m a er z => ?_⟩
  · obtain ⟨r3, r4⟩ := RB.of_res S2 r
    exact ⟨F', b, δ2, (e1.trans e2).trans a.ff, S2.after a, r3, r4, z.2⟩
  · exact ⟨F', δ2, C, ds, S2.after a, er, by rw [te.eq]; exact z⟩
end
end DD

set_option Elab.async false
set_option linter.all false
set_option maxRecDepth 100000
set_option maxHeartbeats 8000000
namespace K
open PySem PySem.Spec PyProof.Rows L2 DD
def topS (i : Nat) : Stmt := PySem.Challenge.pw_everypair_k70_stepping_tables.main.body.getD i (.Pass ⟨0, 0, 0, 0⟩)
section
variable {P : Program} {w : World} {K : PySem.W.Frag} {mg : Str → Option Value} {base : Heap}
abbrev s__law_draw : Stmt := topS 38
theorem sc__law_draw : FnScope ["_law_purse_here", "_law_many", "_law_drawn", "_law_turn", "_law_number"] ["_law_purse_here", "_law_many"] (defScope s__law_draw) := ⟨rfl, rfl, rfl, by decide +kernel, rfl, by decide +kernel, by decide +kernel⟩
/-- a draw: any number below k -/
def spdDraw : Spd := fun bs R _ => ∃ n k, bs = [.u true n, .p (.int k)] ∧ 0 < k ∧ k < 10 ^ 2000 ∧ n < 10 ^ 6 ∧ ∀ d, 0 ≤ d → d < k → R (.p (.int d)) (n + 1)
theorem cal_draw (D : DefAt K mg "_law_draw" s__law_draw) (mi : mg "int" = none) : Cal P w K mg base "_law_draw" 1 ["_law_purse_here", "_law_many"] spdDraw := by
  obtain ⟨f, fd, F, hm⟩ := D.ex
  refine ⟨f, fd, gn_of F sc__law_draw (fun vs H Q E h => ?_) (fun cdv A outer s H vs Q E hg hr h => ?_), hm, F.kp, F.binds fun _ _ _ _ _ _ us hl => match us, hl with | [_, _], _ => rfl⟩
  · obtain ⟨F0, P0, bs, R, ED, _, ra, _, ⟨n, k, rfl, _⟩, _⟩ := h
    rw [← Paired.length ra]
    rfl
  · obtain ⟨F0, P0, bs, R, ED, fh, ra, hP, ⟨n, k, rfl, k0, kb, nb, q⟩, hQ, _⟩ := h
    have nd := sc__law_draw.nd
    have cI : ∀ {X : Cx}, CallR X (.type "int") (fun xs H Q => (∃ i, xs = [.int i] ∧ Q (.int i) H) ∨ ∃ k, xs = [.bl k] ∧ Q (.int (if k then 1 else 0)) H) := call_int1
    have px0 := fun (X : Cx) (e : Expr) => trivial
    refine ⟨_, pss_cons (ps_if (pt_cmpR op_gt (pe_ix ix_seq (pv 0) pe_int fun _ _ => rfl) pe_int rfl)
        (pss_cons (ps_set (i := 2) nd rfl (.inl rfl) (pe_op op_mod (pe_callTy call_int1 (by exact rfl) mi bt_int (pa_cons (pe_ix ix_seq (pv 0) pe_int fun _ _ => rfl) pa_nil)) (pv 1)))
          (pss_cons (ps_asg (pe_op op_fdivW (pe_ix ix_seq (pv 0) pe_int fun _ _ => rfl) (pv 1)) (pg_sub (pv 0) pe_int set_list))
            (pss_one (ps_ret (pv 2))))) pss_nil)
      (pss_cons (ps_set (i := 3) nd rfl (.inl rfl) (pe_op op_add (pe_ix ix_seq (pv 0) pe_int fun _ _ => rfl) pe_int))
      (pss_cons (ps_asg (pv 3) (pg_sub (pv 0) pe_int set_list))
      (pss_cons (ps_set (i := 4) nd rfl (.inl rfl) (pe_op op_mod (pe_callTy call_int1 (by exact rfl) mi bt_int (pa_cons (pe_op op_mulW (pe_op op_add (pe_ix ix_seq (pv 0) pe_int fun _ _ => rfl) (pe_op op_mulW pe_int (pv 3))) (pe_op op_add (pe_op op_mulW (pv 3) (pv 3)) pe_int)) pa_nil)) pe_int))
      (pss_cons (ps_set (i := 4) nd rfl (.inl rfl) (pe_op op_mod (pe_callTy call_int1 (by exact rfl) mi bt_int (pa_cons (pe_op op_add (pe_op op_mulW (pv 4) (pv 4)) (pv 3)) pa_nil)) pe_int))
      (pss_one (ps_ret (pe_op op_mod (pe_op op_fdivW (pe_op op_mod (pe_callTy call_int1 (by exact rfl) mi bt_int (pa_cons (pe_op op_mulW (pv 4) pe_int) pa_nil)) pe_int) pe_int) (pv 1)))))))), ?_⟩
    cases ra with
    | cons r0 rr =>
    cases rr with
    | cons r1 rr =>
    cases rr
    obtain ⟨_, p, x, y, z, rfl, rfl, hF, hH, hx0, hx1, hy0, hy1, hz0, hz1⟩ := r0
    have e1 := rpInt (K := K) (F := F0) r1
    subst e1
    -- what the draw leaves
    have fin : ∀ (x' z' d : Int), 0 ≤ x' → x' < 10 ^ 400 → 0 ≤ z' → z' ≤ (n + 1 : Nat) → 0 ≤ d → d < k → Q (.int d) (upd H p (.lst [.int x', .int y, .int z'])) := by
      intro x' z' d h1 h2 h3 h4 h5 h6
      refine hQ (.int d) _ F0 (.p (.int d)) (n + 1) ⟨Same.refl F0, fun a o e => ?_, fun a o e ne => ?_, fun a o e => .inl e, fun a e => ?_⟩ (by show Rp K F0 (.int d) (.int d); unfold Rp; rfl) (q d h5 h6)
      · rw [upd_ne (fun z => by rw [z, hF] at e; cases e)]
        exact fh a o e
      · rw [upd_ne (fun z => ne (by rw [z]))]
        exact e
      · cases e
        exact ⟨hF, x', y, z', upd_same, h1, h2, hy0, hy1, h3, h4⟩
    have hS : SqL K H p [.int x, .int y, .int z] := .of hH
    have i0 : ∀ {H' : Hp} {a b c : V} {Z : VK}, SqL K H' p [a, b, c] → Z a H' → rIx K (.ref p) (.int 0) H' Z := fun hs q => .inl ⟨p, _, 0, _, rfl, rfl, hs, rfl, q⟩
    have i1 : ∀ {H' : Hp} {a b c : V} {Z : VK}, SqL K H' p [a, b, c] → Z b H' → rIx K (.ref p) (.int 1) H' Z := fun hs q => .inl ⟨p, _, 1, _, rfl, rfl, hs, rfl, q⟩
    have i2 : ∀ {H' : Hp} {a b c : V} {Z : VK}, SqL K H' p [a, b, c] → Z c H' → rIx K (.ref p) (.int 2) H' Z := fun hs q => .inl ⟨p, _, 2, _, rfl, rfl, hs, rfl, q⟩
    have kn : k.natAbs < 2 ^ 8000 := by
      have : (10 : Int) ^ 2000 < 2 ^ 8000 := by decide +kernel
      omega
    refine ⟨.ref p, rfl, i0 hS ⟨x, 0, rfl, rfl, decide (0 < x), rfl, ?_⟩⟩
    refine ite2 (fun hx => ?_) (fun hx => ?_)
    · refine ⟨.ref p, rfl, i0 hS (.inl ⟨x, rfl, .int k, rfl, x, k, rfl, rfl, k0, ?_⟩)⟩
      refine ⟨.ref p, rfl, i0 hS ⟨.int k, rfl, x, k, rfl, rfl, wide_div k0 kn (by decide) (by decide), .ref p, rfl, p, _, 0, 0, rfl, rfl, hH, rfl, ?_⟩⟩
      refine ⟨.int (x % k), rfl, fin (x / k) z (x % k) (Int.ediv_nonneg hx0 (Int.le_of_lt k0)) (Int.lt_of_le_of_lt (Int.ediv_le_self _ hx0) hx1) hz0 (by omega) (Int.emod_nonneg _ (by omega)) (Int.emod_lt_of_pos _ k0)⟩
    · have zb : z + 1 < 2 ^ 32 := by omega
      refine ⟨.ref p, rfl, i2 hS ⟨z, 1, rfl, rfl, ?_⟩⟩
      refine ⟨.int (z + 1), rfl, .ref p, rfl, p, _, 2, 2, rfl, rfl, hH, rfl, ?_⟩
      have hS2 : SqL K (upd H p (.lst [.int x, .int y, .int (z + 1)])) p [.int x, .int y, .int (z + 1)] := .of upd_same
      refine ⟨.ref p, rfl, i1 hS2 ⟨.int (z + 1), rfl, 104729, z + 1, rfl, rfl, ?_, y, _, rfl, rfl, .int (z + 1), rfl, .int (z + 1), rfl, z + 1, z + 1, rfl, rfl, ?_, _, 7919, rfl, rfl, _, _, rfl, rfl, ?_, .inl ⟨_, rfl, _, _, rfl, rfl, (by show (0 : Int) < 2147483629; decide), ?_⟩⟩⟩
      · exact wide_mul (a := 20) (b := 40) (by decide) (by omega) (by decide) (by decide) (by decide)
      · exact wide_mul (a := 40) (b := 40) (by omega) (by omega) (by decide) (by decide) (by decide)
      · exact wide_mul (a := 60) (b := 90) (by omega) (by
          have h1 : (z + 1).natAbs * (z + 1).natAbs ≤ 2 ^ 32 * 2 ^ 32 := Nat.mul_le_mul (by omega) (by omega)
          have h2 : ((z + 1) * (z + 1)).natAbs = (z + 1).natAbs * (z + 1).natAbs := Int.natAbs_mul _ _
          omega) (by decide) (by decide) (by decide)
      · have bd : ∀ i : Int, 0 ≤ i % 2147483629 ∧ i % 2147483629 < 2147483629 := fun i => ⟨Int.emod_nonneg _ (by decide), Int.emod_lt_of_pos _ (by decide)⟩
        have bd2 : ∀ i : Int, 0 ≤ i % 2147483587 ∧ i % 2147483587 < 2147483587 := fun i => ⟨Int.emod_nonneg _ (by decide), Int.emod_lt_of_pos _ (by decide)⟩
        dsimp only
        generalize (y + 104729 * (z + 1)) * ((z + 1) * (z + 1) + 7919) = N1
        obtain ⟨u1, u2⟩ := bd N1
        generalize N1 % 2147483629 = N2 at u1 u2
        refine ⟨.int N2, rfl, .int N2, rfl, N2, N2, rfl, rfl, wide_mul (a := 40) (b := 40) (by omega) (by omega) (by decide) (by decide) (by decide), .int (z + 1), rfl, N2 * N2, z + 1, rfl, rfl, .inl ⟨_, rfl, _, _, rfl, rfl, (by show (0 : Int) < 2147483587; decide), ?_⟩⟩
        dsimp only
        obtain ⟨v1, v2⟩ := bd2 (N2 * N2 + (z + 1))
        generalize (N2 * N2 + (z + 1)) % 2147483587 = N3 at v1 v2
        refine ⟨.int N3, rfl, N3, 48271, rfl, rfl, wide_mul (a := 40) (b := 20) (by omega) (by decide) (by decide) (by decide) (by decide), .inl ⟨_, rfl, N3 * 48271, 2147483647, rfl, rfl, (by show (0 : Int) < 2147483647; decide), _, 64, rfl, rfl, wide_div (b := 10) (by decide) (by decide) (by decide) (by decide), .int k, rfl, _, k, rfl, rfl, k0, ?_⟩⟩
        exact fin x (z + 1) _ hx0 hx1 (by omega) (by omega) (Int.emod_nonneg _ (by omega)) (Int.emod_lt_of_pos _ k0)


abbrev s__law_purse : Stmt := topS 37
theorem sc__law_purse : FnScope ["_law_script", "_law_at", "_law_cell"] ["_law_script", "_law_at"] (defScope s__law_purse) := ⟨rfl, rfl, rfl, by decide +kernel, rfl, by decide +kernel, by decide +kernel⟩
def spdPurse : Spd := fun bs R _ => ∃ (ns : List Int) (j : Nat), bs = [.p (.scr ns), .p (.int j)] ∧ ∀ x y : Int, 0 ≤ x → x < 10 ^ 400 → 0 ≤ y → y < 2147483629 → R (.o (.lst [.int x, .int y, .int 0])) 0
theorem cal_purse (Da : DefAt K mg "_law_purse" s__law_purse) (mi : mg "int" = none) (ml : mg "len" = none) (mm : mg "max" = none) : Cal P w K mg base "_law_purse" 1 ["_law_script", "_law_at"] spdPurse := by
  refine cal_mk none Da sc__law_purse (fun _ _ _ _ _ _ us hl => match us, hl with | [_, _], _ => rfl) (fun bs R E h => ?_) (fun bs R E h => ?_) fun f cdv A outer s H E W bs R ED hg hr te h fh => ?_
  · obtain ⟨ns, j, rfl, _⟩ := h
    rfl
  · obtain ⟨ns, j, rfl, _⟩ := h
    exact pur_none (by simp [B.own])
  · obtain ⟨ns, j, rfl, q⟩ := h
    have nd := sc__law_purse.nd
    refine ⟨_, dss_cons (ds_set (i := 2) nd rfl (.inl rfl) de_int)
      (dss_cons (ds_if (dt_cmp op_lt rd_intB0 (de_v 1) (de_callB cr_lenAll rc_len (by exact rfl) ml bt_len (da_cons (de_v 0) da_nil)) rfl)
          (dss_one (ds_set (i := 2) nd rfl (.inl rfl) (de_ix (de_v 0) (de_v 1) fun _ _ => rfl))) dss_nil)
      (dss_one (ds_ret (de_lst (da_cons (de_op op_mod rd_intI (de_callTy call_int1 rc_int (by exact rfl) mi bt_int (da_cons (de_callB (call_max2 rfl) rc_max (by exact rfl) mm bt_max (da_cons (de_op op_sub rd_intI0 (de_v 2) (de_op op_powW rd_intI de_int de_int)) (da_cons de_int da_nil))) da_nil)) (de_op op_powW rd_intI (de_op op_powW rd_intI de_int de_int) de_int))
        (da_cons (de_op op_mod rd_intI (de_callTy call_int1 rc_int (by exact rfl) mi bt_int (da_cons (de_v 2) da_nil)) de_int) (da_cons de_int da_nil))))))), ?_⟩
    have c1 : CPowW 10 18 := ⟨by decide, by decide +kernel⟩
    have c2 : CPowW 10 40 := ⟨by decide, by decide +kernel⟩
    have c3 : CPowW (10 ^ Int.toNat 40) 10 := ⟨by decide, by decide +kernel⟩
    have fin : ∀ a b : Int, R (.o (.lst [.int (a % (10 ^ Int.toNat 40) ^ Int.toNat 10), .int (b % 2147483629), .int 0])) 0 := fun a b => by
      refine q _ _ (Int.emod_nonneg _ (by decide +kernel)) ?_ (Int.emod_nonneg _ (by decide)) (Int.emod_lt_of_pos _ (by decide))
      have e : ((10 : Int) ^ Int.toNat 40) ^ Int.toNat 10 = 10 ^ 400 := by decide +kernel
      rw [e]
      exact Int.emod_lt_of_pos _ (by decide +kernel)
    by_cases hj : j < ns.length
    · have hg : atI ns (j : Int) = some ns[j] := atI_nat (List.getElem?_eq_getElem hj)
      simp only [startD, List.map_cons, List.map_nil, List.length_cons, List.length_nil, Nat.reduceAdd, Nat.reduceSub, List.replicate, List.cons_append, List.nil_append, dSeq, dSet, dIfS, dT, dOp, dCB, dCons, dNil, dV, dC, dp, dNext, dRet, dLst, intG, intG0, lenG, lenD, ixG, itemD, intCG, intOf, maxG, List.getElem?_cons_zero, List.getElem?_cons_succ, List.set_cons_zero, List.set_cons_succ, Option.some.injEq, B.isU, B.d, B.rd, exists_eq_left', exists_eq_left, exists_and_left, true_and, and_true, B.p.injEq, DD.D.bl.injEq, DD.D.int.injEq, List.cons.injEq, DD.PC, decide_eq_true_eq, and_assoc, Option.map_some, hg, if_pos (show (j : Int) < (ns.length : Int) by omega)]
      exact ⟨c1, c2, c3, by decide +kernel, by decide, by decide, 0, fin _ _⟩
    · simp only [startD, List.map_cons, List.map_nil, List.length_cons, List.length_nil, Nat.reduceAdd, Nat.reduceSub, List.replicate, List.cons_append, List.nil_append, dSeq, dSet, dIfS, dT, dOp, dCB, dCons, dNil, dV, dC, dp, dNext, dRet, dLst, intG, intG0, lenG, lenD, ixG, itemD, intCG, intOf, maxG, List.getElem?_cons_zero, List.getElem?_cons_succ, List.set_cons_zero, List.set_cons_succ, Option.some.injEq, B.isU, B.d, B.rd, exists_eq_left', exists_eq_left, exists_and_left, true_and, and_true, B.p.injEq, DD.D.bl.injEq, DD.D.int.injEq, List.cons.injEq, DD.PC, decide_eq_true_eq, and_assoc, Option.map_some, if_neg (show ¬ (j : Int) < (ns.length : Int) by omega)]
      exact ⟨c1, c2, c3, by decide +kernel, by decide, by decide, 0, fin _ _⟩


def letters : Str := "abcdefghijklmnopqrstuvwxyz"
def isLet (d : D) : Bool := match d with
  | .str s => match signOf (.str s) with | some c => decide (c ∈ letters.cps.toList) | none => false
  | _ => false
/-- a name -/
def isNm : D → Bool
  | .str x => decide (1 ≤ x.length) && decide (x.length ≤ 8) && !decide (x = "timeout") && (DD.signs x).all isLet
  | _ => false
/-- data as a def may be asked about -/
structure Dat (d : D) : Prop where
  t : dat d = true
  s : ∀ x, d = .str x → (∀ c ∈ x.cps.toList, c < 1114112) ∧ x.length ≤ 1000
theorem sgn_sh {x : Str} (h : ∀ c ∈ x.cps.toList, c < 1114112) : ∀ d ∈ DD.signs x, Sh 0 d := fun d hd => by
  obtain ⟨c, hc, rfl⟩ := List.mem_map.mp (show d ∈ x.cps.toList.map _ from hd)
  refine sh_str fun c' hc' => ?_
  have e : c' = c := by simpa using hc'
  rw [e]
  exact h c hc
theorem sgn_len {x : Str} : (DD.signs x).length = x.length := by
  unfold DD.signs
  rw [List.length_map, Array.length_toList]
  rfl
theorem sgn_in {x : Str} {d : D} (hd : d ∈ DD.signs x) : isIn d (.str letters) = some (isLet d) := by
  obtain ⟨c, hc, rfl⟩ := List.mem_map.mp (show d ∈ x.cps.toList.map _ from hd)
  rfl

abbrev s_is_name : Stmt := topS 5
theorem sc_is_name : FnScope ["value", "letter"] ["value"] (defScope s_is_name) := ⟨rfl, rfl, rfl, by decide +kernel, rfl, by decide +kernel, by decide +kernel⟩
def spd_is_name  : Spd := fun bs R _ => ∃ d, bs = [.p d] ∧ Dat d ∧ R (.p (.bl (isNm d))) 0
theorem cal_is_name (Da : DefAt K mg "is_name" s_is_name) (c_LETTERS : ConAt K mg "LETTERS" (.str letters)) (c_TIMEOUT : ConAt K mg "TIMEOUT" (.str "timeout")) (c_LONGEST_NAME : ConAt K mg "LONGEST_NAME" (.int 8)) (m_isinstance : mg "isinstance" = none) (m_str : mg "str" = none) (m_len : mg "len" = none) : Cal P w K mg base "is_name" 1 ["value"] spd_is_name := by
  refine cal_mk none Da sc_is_name (fun _ _ _ _ _ _ us hl => match us, hl with | [_], _ => rfl) (fun bs R E h => ?_) (fun bs R E h => ?_) fun f cdv A outer s H E W bs R ED gu hr te h fh => ?_
  · obtain ⟨d, rfl, hd, q⟩ := h
    rfl
  · obtain ⟨d, rfl, hd, q⟩ := h
    exact pur_none (by simp [B.own])
  · obtain ⟨d, rfl, hd, q⟩ := h
    have nd := sc_is_name.nd
    have hu := hr.units
    refine ⟨_, (dss_cons (ds_if (DW.dt (dw_or (dt_not (dt_val (he := fun _ => rfl) (de_callB call_isZ (rc_isa (K := K)) rfl m_isinstance bt_isinstance (da_cons (de_v 0) (da_cons (de_ty m_str bt_str) da_nil))))) (dw_or (dt_not (dt_chain op_le rd_intB0 op_le rd_intB0 de_int (de_callB cr_lenAll rc_len rfl m_len bt_len (da_cons (de_v 0) da_nil)) (de_con c_LONGEST_NAME))) (dw_or1 (dt_cmp (op_eqAll hu) rd_eq (de_v 0) (de_con c_TIMEOUT) rfl))))) (dss_one (ds_ret de_bl)) dss_nil) (dss_one (ds_ret (de_cmp (op_eqAll hu) rd_eq (de_lc rfl nd (di_any (de_v 0)) (own := [("letter", 1)]) (blkOk_by (by kernel_rfl)) (fun _ _ _ _ _ _ => (dgc_name (i := 1) (by decide) nd rfl (by first | exact Or.inl rfl | exact Or.inr rfl))) (fun _ _ _ _ _ _ => (dts_one (dt_cmp op_notInAll rd_in (de_v 1) (de_con c_LETTERS) rfl))) (fun _ _ _ _ _ _ => (de_v 1))) (de_lst da_nil) rfl)))), ?_⟩
    refine dseq ?_
    cases hs : isStr d
    · simp only [startD, List.map_cons, List.map_nil, List.length_cons, List.length_nil, Nat.reduceAdd, Nat.reduceSub, List.replicate, List.cons_append, List.nil_append, dSet, dIfS, dT, dOp, dCB, dCons, dNil, dV, dM, dC, dp, dNext, dRet, dRetN, dLst, dTup, dDrop, dNot, dAnd, dOr, dAndV, dOrV, dNotV, intG, intG0, lenG, lenD, ixG, itemD, intCG, intOf, maxG, List.getElem?_cons_zero, List.getElem?_cons_succ, List.set_cons_zero, List.set_cons_succ, Option.some.injEq, B.isU, B.d, B.rd, exists_eq_left', exists_eq_left, exists_and_left, true_and, and_true, B.p.injEq, DD.D.bl.injEq, DD.D.int.injEq, List.cons.injEq, DD.PC, decide_eq_true_eq, and_assoc, Option.map_some, dLc, iAny, walked, wipeE, gN, dCall, dCallP, dCallF, eqG, neG, Bool.not_true, Bool.not_false, if_true, if_false, Bool.false_eq_true, reduceIte, List.append_nil, dCBK, addG, dM1, gT, gsCons, gsNil, iEnumD, dAsP, iR1, dPart, dNo, dSl, freB, lstD, List.all_cons, List.all_nil, litD, Bool.and_self, dReprPair, dDctN, itemD2, ixG2, keyD, lookD, strG2, dPar, bCons, bNil, dFor, List.zip_cons_cons, List.zip_nil_right, List.foldl_cons, List.foldl_nil, dApp, B.o.injEq, DD.D.lst.injEq, DD.D.tup.injEq, exists_eq', dDct0, B.u.injEq, sizeLine_eq, Nat.reduceLeDiff, Nat.reduceLT, Nat.zero_le, true_implies, slG, List.length_map, tupleG, seqD, listG, iR2, List.length_take, List.length_drop, List.length_append, DD.D.str.injEq, mulG, dAsg, dFld, lookF, dSetF, setF, dProp, dMeth, dMake, dMakeK, cxOf_K, dChain, notNG, isNG, isNon_non, isNon_bl, isNon_int, isNon_str, isNon_lst, isNon_tup, isNon_dct, isNon_ins, isNon_exc, dXv, reprG, DD.D.ins.injEq, DD.D.exc.injEq, cmpIG, neIG, clsD, Option.bind_some, B.s.injEq, if_true, if_false, dNeg, dLenSet, dIndex, dClrE, dAppE, dCallK, eqKG, sortedSG, isa_Str hd.t, hs]
      have e : isNm d = false := by
        cases d <;> first | rfl | (cases hs; done)
      rw [e] at q
      exact ⟨0, q⟩
    · cases d <;> first | (cases hs; done) | skip
      rename_i x
      obtain ⟨h1, h2⟩ := hd.s x rfl
      have hz : x.length ≤ 16777216 := by omega
      simp only [startD, List.map_cons, List.map_nil, List.length_cons, List.length_nil, Nat.reduceAdd, Nat.reduceSub, List.replicate, List.cons_append, List.nil_append, dSet, dIfS, dT, dOp, dCB, dCons, dNil, dV, dM, dC, dp, dNext, dRet, dRetN, dLst, dTup, dDrop, dNot, dAnd, dOr, dAndV, dOrV, dNotV, intG, intG0, lenG, lenD, ixG, itemD, intCG, intOf, maxG, List.getElem?_cons_zero, List.getElem?_cons_succ, List.set_cons_zero, List.set_cons_succ, Option.some.injEq, B.isU, B.d, B.rd, exists_eq_left', exists_eq_left, exists_and_left, true_and, and_true, B.p.injEq, DD.D.bl.injEq, DD.D.int.injEq, List.cons.injEq, DD.PC, decide_eq_true_eq, and_assoc, Option.map_some, dLc, iAny, walked, wipeE, gN, dCall, dCallP, dCallF, eqG, neG, Bool.not_true, Bool.not_false, if_true, if_false, Bool.false_eq_true, reduceIte, List.append_nil, dCBK, addG, dM1, gT, gsCons, gsNil, iEnumD, dAsP, iR1, dPart, dNo, dSl, freB, lstD, List.all_cons, List.all_nil, litD, Bool.and_self, dReprPair, dDctN, itemD2, ixG2, keyD, lookD, strG2, dPar, bCons, bNil, dFor, List.zip_cons_cons, List.zip_nil_right, List.foldl_cons, List.foldl_nil, dApp, B.o.injEq, DD.D.lst.injEq, DD.D.tup.injEq, exists_eq', dDct0, B.u.injEq, sizeLine_eq, Nat.reduceLeDiff, Nat.reduceLT, Nat.zero_le, true_implies, slG, List.length_map, tupleG, seqD, listG, iR2, List.length_take, List.length_drop, List.length_append, DD.D.str.injEq, mulG, dAsg, dFld, lookF, dSetF, setF, dProp, dMeth, dMake, dMakeK, cxOf_K, dChain, notNG, isNG, isNon_non, isNon_bl, isNon_int, isNon_str, isNon_lst, isNon_tup, isNon_dct, isNon_ins, isNon_exc, dXv, reprG, DD.D.ins.injEq, DD.D.exc.injEq, cmpIG, neIG, clsD, Option.bind_some, B.s.injEq, if_true, if_false, dNeg, dLenSet, dIndex, dClrE, dAppE, dCallK, eqKG, sortedSG, isa_Str hd.t, hs, if_pos hz, eqD_str]
      have fin : isNm (.str x) = (decide (1 ≤ x.length) && decide (x.length ≤ 8) && !decide (x = "timeout") && (DD.signs x).all isLet) := rfl
      refine ite2 (fun l1 => ite2 (fun l2 => ?_) fun l2 => ?_) fun l1 => ?_
      · have e : isNm (.str x) = false := by
          have : ¬ x.length ≤ 8 := fun z => by
            have z2 : ((x.length : Nat) : Int) ≤ 8 := by omega
            rw [decide_eq_true z2] at l2
            cases l2
          rw [fin, decide_eq_false this]
          simp
        rw [e] at q
        exact ⟨0, q⟩
      · have l2 : x.length ≤ 8 := by
          by_cases z : x.length ≤ 8
          · exact z
          · have z2 : ¬ ((x.length : Nat) : Int) ≤ 8 := by omega
            rw [decide_eq_false z2] at l2
            exact absurd rfl l2
        refine ite2 (fun l3 => ?_) fun l3 => ?_
        · have e : isNm (.str x) = false := by
            rw [fin, l3]
            simp
          rw [e] at q
          exact ⟨0, q⟩
        · refine lcL_map (fun d => !isLet d) (fun d => d) (fun d => [some (.p (.str x)), some (.p d)]) (fun d => [some (.p (.str x)), some (.p d)]) (fun d hd' Y N y n => ?_) (fun d hd' => ⟨rfl, rfl⟩) (by rw [sizeLine_eq, List.length_nil, sgn_len]; omega) ?_
          · simp only [startD, List.map_cons, List.map_nil, List.length_cons, List.length_nil, Nat.reduceAdd, Nat.reduceSub, List.replicate, List.cons_append, List.nil_append, dSet, dIfS, dT, dOp, dCB, dCons, dNil, dV, dM, dC, dp, dNext, dRet, dRetN, dLst, dTup, dDrop, dNot, dAnd, dOr, dAndV, dOrV, dNotV, intG, intG0, lenG, lenD, ixG, itemD, intCG, intOf, maxG, List.getElem?_cons_zero, List.getElem?_cons_succ, List.set_cons_zero, List.set_cons_succ, Option.some.injEq, B.isU, B.d, B.rd, exists_eq_left', exists_eq_left, exists_and_left, true_and, and_true, B.p.injEq, DD.D.bl.injEq, DD.D.int.injEq, List.cons.injEq, DD.PC, decide_eq_true_eq, and_assoc, Option.map_some, dLc, iAny, walked, wipeE, gN, dCall, dCallP, dCallF, eqG, neG, Bool.not_true, Bool.not_false, if_true, if_false, Bool.false_eq_true, reduceIte, List.append_nil, dCBK, addG, dM1, gT, gsCons, gsNil, iEnumD, dAsP, iR1, dPart, dNo, dSl, freB, lstD, List.all_cons, List.all_nil, litD, Bool.and_self, dReprPair, dDctN, itemD2, ixG2, keyD, lookD, strG2, dPar, bCons, bNil, dFor, List.zip_cons_cons, List.zip_nil_right, List.foldl_cons, List.foldl_nil, dApp, B.o.injEq, DD.D.lst.injEq, DD.D.tup.injEq, exists_eq', dDct0, B.u.injEq, sizeLine_eq, Nat.reduceLeDiff, Nat.reduceLT, Nat.zero_le, true_implies, slG, List.length_map, tupleG, seqD, listG, iR2, List.length_take, List.length_drop, List.length_append, DD.D.str.injEq, mulG, dAsg, dFld, lookF, dSetF, setF, dProp, dMeth, dMake, dMakeK, cxOf_K, dChain, notNG, isNG, isNon_non, isNon_bl, isNon_int, isNon_str, isNon_lst, isNon_tup, isNon_dct, isNon_ins, isNon_exc, dXv, reprG, DD.D.ins.injEq, DD.D.exc.injEq, cmpIG, neIG, clsD, Option.bind_some, B.s.injEq, if_true, if_false, dNeg, dLenSet, dIndex, dClrE, dAppE, dCallK, eqKG, sortedSG, inG, sgn_in hd']
            exact ite2 y fun z => n (by simpa using z)
          · have hsh : ∀ d ∈ ((DD.signs x).filter fun d => !isLet d).map (fun d => d), Sh 40 d := fun d hd' => by
              rw [List.map_id'] at hd'
              exact (sgn_sh h1 d (List.mem_filter.mp hd').1).mono (by decide)
            simp only [startD, List.map_cons, List.map_nil, List.length_cons, List.length_nil, Nat.reduceAdd, Nat.reduceSub, List.replicate, List.cons_append, List.nil_append, dSet, dIfS, dT, dOp, dCB, dCons, dNil, dV, dM, dC, dp, dNext, dRet, dRetN, dLst, dTup, dDrop, dNot, dAnd, dOr, dAndV, dOrV, dNotV, intG, intG0, lenG, lenD, ixG, itemD, intCG, intOf, maxG, List.getElem?_cons_zero, List.getElem?_cons_succ, List.set_cons_zero, List.set_cons_succ, Option.some.injEq, B.isU, B.d, B.rd, exists_eq_left', exists_eq_left, exists_and_left, true_and, and_true, B.p.injEq, DD.D.bl.injEq, DD.D.int.injEq, List.cons.injEq, DD.PC, decide_eq_true_eq, and_assoc, Option.map_some, dLc, iAny, walked, wipeE, gN, dCall, dCallP, dCallF, eqG, neG, Bool.not_true, Bool.not_false, if_true, if_false, Bool.false_eq_true, reduceIte, List.append_nil, dCBK, addG, dM1, gT, gsCons, gsNil, iEnumD, dAsP, iR1, dPart, dNo, dSl, freB, lstD, List.all_cons, List.all_nil, litD, Bool.and_self, dReprPair, dDctN, itemD2, ixG2, keyD, lookD, strG2, dPar, bCons, bNil, dFor, List.zip_cons_cons, List.zip_nil_right, List.foldl_cons, List.foldl_nil, dApp, B.o.injEq, DD.D.lst.injEq, DD.D.tup.injEq, exists_eq', dDct0, B.u.injEq, sizeLine_eq, Nat.reduceLeDiff, Nat.reduceLT, Nat.zero_le, true_implies, slG, List.length_map, tupleG, seqD, listG, iR2, List.length_take, List.length_drop, List.length_append, DD.D.str.injEq, mulG, dAsg, dFld, lookF, dSetF, setF, dProp, dMeth, dMake, dMakeK, cxOf_K, dChain, notNG, isNG, isNon_non, isNon_bl, isNon_int, isNon_str, isNon_lst, isNon_tup, isNon_dct, isNon_ins, isNon_exc, dXv, reprG, DD.D.ins.injEq, DD.D.exc.injEq, cmpIG, neIG, clsD, Option.bind_some, B.s.injEq, if_true, if_false, dNeg, dLenSet, dIndex, dClrE, dAppE, dCallK, eqKG, sortedSG, eqD_nil (by decide) hsh, List.nil_append]
            have e : (((DD.signs x).filter fun d => !isLet d).map fun d => d).isEmpty = isNm (.str x) := by
              have l3' : (!decide (x = "timeout")) = true := by
                cases h : decide (x = "timeout") with
                | false => rfl
                | true => exact absurd (of_decide_eq_true h) l3
              rw [fin, decide_eq_true l2, decide_eq_true (show 1 ≤ x.length by omega), l3', List.map_id', Bool.eq_iff_iff, List.isEmpty_iff, List.filter_eq_nil_iff]
              simp
            rw [e]
            exact ⟨0, q⟩
      · have e : isNm (.str x) = false := by
          rw [fin, decide_eq_false (show ¬ 1 ≤ x.length by omega)]
          simp
        rw [e] at q
        exact ⟨0, q⟩

def isWd (ws : List Str) : D → Bool
  | .str x => decide (x ∈ ws)
  | _ => false
theorem isIn_strs {x : Str} {ws : List Str} : isIn (.str x) (.tup (ws.map D.str)) = some (decide (x ∈ ws)) := by
  have hf : (ws.map D.str).all flatD = true := by
    rw [List.all_eq_true]
    intro y hy
    obtain ⟨n, _, rfl⟩ := List.mem_map.mp hy
    rfl
  show (if (flatD (.str x) && (ws.map D.str).all flatD) = true then some (inD (.str x) (ws.map D.str)) else none) = _
  rw [hf, if_pos (by rfl)]
  congr 1
  unfold inD
  rw [List.map_map]
  unfold inV
  rw [Bool.eq_iff_iff, decide_eq_true_eq]
  simp only [List.any_map, List.any_eq_true, Function.comp, flatV']
  constructor
  · rintro ⟨y, hy, e⟩
    have e2 : y = x := by simpa [eqV] using e
    rw [← e2]
    exact hy
  · exact fun h => ⟨x, h, by simp [eqV]⟩

abbrev s_is_word : Stmt := topS 6
theorem sc_is_word : FnScope ["value", "words"] ["value", "words"] (defScope s_is_word) := ⟨rfl, rfl, rfl, by decide +kernel, rfl, by decide +kernel, by decide +kernel⟩
def spd_is_word  : Spd := fun bs R _ => ∃ d ws, bs = [.p d, .p (.tup (ws.map D.str))] ∧ dat d = true ∧ R (.p (.bl (isWd ws d))) 0
theorem cal_is_word (Da : DefAt K mg "is_word" s_is_word) (m_isinstance : mg "isinstance" = none) (m_str : mg "str" = none) : Cal P w K mg base "is_word" 1 ["value", "words"] spd_is_word := by
  refine cal_mk none Da sc_is_word (fun _ _ _ _ _ _ us hl => match us, hl with | [_, _], _ => rfl) (fun bs R E h => ?_) (fun bs R E h => ?_) fun f cdv A outer s H E W bs R ED gu hr te h fh => ?_
  · obtain ⟨d, ws, rfl, hd, q⟩ := h
    rfl
  · obtain ⟨d, ws, rfl, hd, q⟩ := h
    exact pur_none (by simp [B.own])
  · obtain ⟨d, ws, rfl, hd, q⟩ := h
    have nd := sc_is_word.nd
    have hu := hr.units
    refine ⟨_, (dss_one (ds_ret (de_and (de_callB call_isZ (rc_isa (K := K)) rfl m_isinstance bt_isinstance (da_cons (de_v 0) (da_cons (de_ty m_str bt_str) da_nil))) (de_one (de_cmp op_inAll rd_in (de_v 0) (de_v 1) rfl))))), ?_⟩
    cases hs : isStr d
    · simp only [startD, List.map_cons, List.map_nil, List.length_cons, List.length_nil, Nat.reduceAdd, Nat.reduceSub, List.replicate, List.cons_append, List.nil_append, dSet, dIfS, dT, dOp, dCB, dCons, dNil, dV, dM, dC, dp, dNext, dRet, dRetN, dLst, dTup, dDrop, dNot, dAnd, dOr, dAndV, dOrV, dNotV, intG, intG0, lenG, lenD, ixG, itemD, intCG, intOf, maxG, List.getElem?_cons_zero, List.getElem?_cons_succ, List.set_cons_zero, List.set_cons_succ, Option.some.injEq, B.isU, B.d, B.rd, exists_eq_left', exists_eq_left, exists_and_left, true_and, and_true, B.p.injEq, DD.D.bl.injEq, DD.D.int.injEq, List.cons.injEq, DD.PC, decide_eq_true_eq, and_assoc, Option.map_some, dLc, iAny, walked, wipeE, gN, dCall, dCallP, dCallF, eqG, neG, Bool.not_true, Bool.not_false, if_true, if_false, Bool.false_eq_true, reduceIte, List.append_nil, dCBK, addG, dM1, gT, gsCons, gsNil, iEnumD, dAsP, iR1, dPart, dNo, dSl, freB, lstD, List.all_cons, List.all_nil, litD, Bool.and_self, dReprPair, dDctN, itemD2, ixG2, keyD, lookD, strG2, dPar, bCons, bNil, dFor, List.zip_cons_cons, List.zip_nil_right, List.foldl_cons, List.foldl_nil, dApp, B.o.injEq, DD.D.lst.injEq, DD.D.tup.injEq, exists_eq', dDct0, B.u.injEq, sizeLine_eq, Nat.reduceLeDiff, Nat.reduceLT, Nat.zero_le, true_implies, slG, List.length_map, tupleG, seqD, listG, iR2, List.length_take, List.length_drop, List.length_append, DD.D.str.injEq, mulG, dAsg, dFld, lookF, dSetF, setF, dProp, dMeth, dMake, dMakeK, cxOf_K, dChain, notNG, isNG, isNon_non, isNon_bl, isNon_int, isNon_str, isNon_lst, isNon_tup, isNon_dct, isNon_ins, isNon_exc, dXv, reprG, DD.D.ins.injEq, DD.D.exc.injEq, cmpIG, neIG, clsD, Option.bind_some, B.s.injEq, if_true, if_false, dNeg, dLenSet, dIndex, dClrE, dAppE, dCallK, eqKG, sortedSG, isa_Str hd, hs]
      have e : isWd ws d = false := by
        cases d <;> first | rfl | (cases hs; done)
      rw [e] at q
      exact ⟨0, q⟩
    · cases d <;> first | (cases hs; done) | skip
      rename_i x
      simp only [startD, List.map_cons, List.map_nil, List.length_cons, List.length_nil, Nat.reduceAdd, Nat.reduceSub, List.replicate, List.cons_append, List.nil_append, dSet, dIfS, dT, dOp, dCB, dCons, dNil, dV, dM, dC, dp, dNext, dRet, dRetN, dLst, dTup, dDrop, dNot, dAnd, dOr, dAndV, dOrV, dNotV, intG, intG0, lenG, lenD, ixG, itemD, intCG, intOf, maxG, List.getElem?_cons_zero, List.getElem?_cons_succ, List.set_cons_zero, List.set_cons_succ, Option.some.injEq, B.isU, B.d, B.rd, exists_eq_left', exists_eq_left, exists_and_left, true_and, and_true, B.p.injEq, DD.D.bl.injEq, DD.D.int.injEq, List.cons.injEq, DD.PC, decide_eq_true_eq, and_assoc, Option.map_some, dLc, iAny, walked, wipeE, gN, dCall, dCallP, dCallF, eqG, neG, Bool.not_true, Bool.not_false, if_true, if_false, Bool.false_eq_true, reduceIte, List.append_nil, dCBK, addG, dM1, gT, gsCons, gsNil, iEnumD, dAsP, iR1, dPart, dNo, dSl, freB, lstD, List.all_cons, List.all_nil, litD, Bool.and_self, dReprPair, dDctN, itemD2, ixG2, keyD, lookD, strG2, dPar, bCons, bNil, dFor, List.zip_cons_cons, List.zip_nil_right, List.foldl_cons, List.foldl_nil, dApp, B.o.injEq, DD.D.lst.injEq, DD.D.tup.injEq, exists_eq', dDct0, B.u.injEq, sizeLine_eq, Nat.reduceLeDiff, Nat.reduceLT, Nat.zero_le, true_implies, slG, List.length_map, tupleG, seqD, listG, iR2, List.length_take, List.length_drop, List.length_append, DD.D.str.injEq, mulG, dAsg, dFld, lookF, dSetF, setF, dProp, dMeth, dMake, dMakeK, cxOf_K, dChain, notNG, isNG, isNon_non, isNon_bl, isNon_int, isNon_str, isNon_lst, isNon_tup, isNon_dct, isNon_ins, isNon_exc, dXv, reprG, DD.D.ins.injEq, DD.D.exc.injEq, cmpIG, neIG, clsD, Option.bind_some, B.s.injEq, if_true, if_false, dNeg, dLenSet, dIndex, dClrE, dAppE, dCallK, eqKG, sortedSG, isa_Str hd, hs, inG, isIn_strs]
      exact ⟨0, q⟩

def isNN (d : D) : Bool := isNon d || isNm d

abbrev s_is_name_or_none : Stmt := topS 18
theorem sc_is_name_or_none : FnScope ["value"] ["value"] (defScope s_is_name_or_none) := ⟨rfl, rfl, rfl, by decide +kernel, rfl, by decide +kernel, by decide +kernel⟩
def spd_is_name_or_none  : Spd := fun bs R _ => ∃ d, bs = [.p d] ∧ Dat d ∧ R (.p (.bl (isNN d))) 0
theorem cal_is_name_or_none (Da : DefAt K mg "is_name_or_none" s_is_name_or_none) (c_is_name : Cal P w K mg base "is_name" 1 ["value"] spd_is_name) : Cal P w K mg base "is_name_or_none" 2 ["value"] spd_is_name_or_none := by
  refine cal_mk none Da sc_is_name_or_none (fun _ _ _ _ _ _ us hl => match us, hl with | [_], _ => rfl) (fun bs R E h => ?_) (fun bs R E h => ?_) fun f cdv A outer s H E W bs R ED gu hr te h fh => ?_
  · obtain ⟨d, rfl, hd, q⟩ := h
    rfl
  · obtain ⟨d, rfl, hd, q⟩ := h
    exact pur_none (by simp [B.own])
  · obtain ⟨d, rfl, hd, q⟩ := h
    have nd := sc_is_name_or_none.nd
    have hu := hr.units
    refine ⟨_, (dss_one (ds_ret (de_or (de_cmp op_isN rd_isN (de_v 0) de_non rfl) (de_one (de_c c_is_name gu hr (da_cons (de_v 0) da_nil)))))), ?_⟩
    have e : isNN d = (isNon d || isNm d) := rfl
    rw [e] at q
    cases hn : isNon d
    · rw [hn] at q
      simp only [startD, List.map_cons, List.map_nil, List.length_cons, List.length_nil, Nat.reduceAdd, Nat.reduceSub, List.replicate, List.cons_append, List.nil_append, dSet, dIfS, dT, dOp, dCB, dCons, dNil, dV, dM, dC, dp, dNext, dRet, dRetN, dLst, dTup, dDrop, dNot, dAnd, dOr, dAndV, dOrV, dNotV, intG, intG0, lenG, lenD, ixG, itemD, intCG, intOf, maxG, List.getElem?_cons_zero, List.getElem?_cons_succ, List.set_cons_zero, List.set_cons_succ, Option.some.injEq, B.isU, B.d, B.rd, exists_eq_left', exists_eq_left, exists_and_left, true_and, and_true, B.p.injEq, DD.D.bl.injEq, DD.D.int.injEq, List.cons.injEq, DD.PC, decide_eq_true_eq, and_assoc, Option.map_some, dLc, iAny, walked, wipeE, gN, dCall, dCallP, dCallF, eqG, neG, Bool.not_true, Bool.not_false, if_true, if_false, Bool.false_eq_true, reduceIte, List.append_nil, dCBK, addG, dM1, gT, gsCons, gsNil, iEnumD, dAsP, iR1, dPart, dNo, dSl, freB, lstD, List.all_cons, List.all_nil, litD, Bool.and_self, dReprPair, dDctN, itemD2, ixG2, keyD, lookD, strG2, dPar, bCons, bNil, dFor, List.zip_cons_cons, List.zip_nil_right, List.foldl_cons, List.foldl_nil, dApp, B.o.injEq, DD.D.lst.injEq, DD.D.tup.injEq, exists_eq', dDct0, B.u.injEq, sizeLine_eq, Nat.reduceLeDiff, Nat.reduceLT, Nat.zero_le, true_implies, slG, List.length_map, tupleG, seqD, listG, iR2, List.length_take, List.length_drop, List.length_append, DD.D.str.injEq, mulG, dAsg, dFld, lookF, dSetF, setF, dProp, dMeth, dMake, dMakeK, cxOf_K, dChain, notNG, isNG, isNon_non, isNon_bl, isNon_int, isNon_str, isNon_lst, isNon_tup, isNon_dct, isNon_ins, isNon_exc, dXv, reprG, DD.D.ins.injEq, DD.D.exc.injEq, cmpIG, neIG, clsD, Option.bind_some, B.s.injEq, if_true, if_false, dNeg, dLenSet, dIndex, dClrE, dAppE, dCallK, eqKG, sortedSG, hn]
      exact ⟨d, rfl, hd, rfl, rfl, 0, q⟩
    · rw [hn] at q
      simp only [startD, List.map_cons, List.map_nil, List.length_cons, List.length_nil, Nat.reduceAdd, Nat.reduceSub, List.replicate, List.cons_append, List.nil_append, dSet, dIfS, dT, dOp, dCB, dCons, dNil, dV, dM, dC, dp, dNext, dRet, dRetN, dLst, dTup, dDrop, dNot, dAnd, dOr, dAndV, dOrV, dNotV, intG, intG0, lenG, lenD, ixG, itemD, intCG, intOf, maxG, List.getElem?_cons_zero, List.getElem?_cons_succ, List.set_cons_zero, List.set_cons_succ, Option.some.injEq, B.isU, B.d, B.rd, exists_eq_left', exists_eq_left, exists_and_left, true_and, and_true, B.p.injEq, DD.D.bl.injEq, DD.D.int.injEq, List.cons.injEq, DD.PC, decide_eq_true_eq, and_assoc, Option.map_some, dLc, iAny, walked, wipeE, gN, dCall, dCallP, dCallF, eqG, neG, Bool.not_true, Bool.not_false, if_true, if_false, Bool.false_eq_true, reduceIte, List.append_nil, dCBK, addG, dM1, gT, gsCons, gsNil, iEnumD, dAsP, iR1, dPart, dNo, dSl, freB, lstD, List.all_cons, List.all_nil, litD, Bool.and_self, dReprPair, dDctN, itemD2, ixG2, keyD, lookD, strG2, dPar, bCons, bNil, dFor, List.zip_cons_cons, List.zip_nil_right, List.foldl_cons, List.foldl_nil, dApp, B.o.injEq, DD.D.lst.injEq, DD.D.tup.injEq, exists_eq', dDct0, B.u.injEq, sizeLine_eq, Nat.reduceLeDiff, Nat.reduceLT, Nat.zero_le, true_implies, slG, List.length_map, tupleG, seqD, listG, iR2, List.length_take, List.length_drop, List.length_append, DD.D.str.injEq, mulG, dAsg, dFld, lookF, dSetF, setF, dProp, dMeth, dMake, dMakeK, cxOf_K, dChain, notNG, isNG, isNon_non, isNon_bl, isNon_int, isNon_str, isNon_lst, isNon_tup, isNon_dct, isNon_ins, isNon_exc, dXv, reprG, DD.D.ins.injEq, DD.D.exc.injEq, cmpIG, neIG, clsD, Option.bind_some, B.s.injEq, if_true, if_false, dNeg, dLenSet, dIndex, dClrE, dAppE, dCallK, eqKG, sortedSG, hn]
      exact ⟨0, q⟩

def callerTests : List Str := ["any", "same", "older", "below"]
def hostTests : List Str := ["any", "have", "lack", "held", "better", "meet", "none"]
def callerMoves : List Str := ["stay", "down", "there"]
def hostMoves : List Str := ["stay", "take", "pick", "drop"]
def isFl (m h w t v s : D) : Bool := isNN m && isNN t && isNN s && (isNN h || isWd ["timeout"] h) && isWd (callerTests ++ hostTests) w && isWd (callerMoves ++ hostMoves) v

abbrev s_are_fields : Stmt := topS 19
theorem sc_are_fields : FnScope ["mode", "heard", "which", "then", "move", "send"] ["mode", "heard", "which", "then", "move", "send"] (defScope s_are_fields) := ⟨rfl, rfl, rfl, by decide +kernel, rfl, by decide +kernel, by decide +kernel⟩
def spd_are_fields  : Spd := fun bs R _ => ∃ m h w t v s, bs = [.p m, .p h, .p w, .p t, .p v, .p s] ∧ Dat m ∧ Dat h ∧ Dat w ∧ Dat t ∧ Dat v ∧ Dat s ∧ R (.p (.bl (isFl m h w t v s))) 0
theorem cal_are_fields (Da : DefAt K mg "are_fields" s_are_fields) (c_is_name_or_none : Cal P w K mg base "is_name_or_none" 2 ["value"] spd_is_name_or_none) (c_is_word : Cal P w K mg base "is_word" 1 ["value", "words"] spd_is_word) (c_TIMEOUT : ConAt K mg "TIMEOUT" (.str "timeout")) (c_CALLER_TESTS : ConAt K mg "CALLER_TESTS" (.tup (callerTests.map D.str))) (c_HOST_TESTS : ConAt K mg "HOST_TESTS" (.tup (hostTests.map D.str))) (c_CALLER_MOVES : ConAt K mg "CALLER_MOVES" (.tup (callerMoves.map D.str))) (c_HOST_MOVES : ConAt K mg "HOST_MOVES" (.tup (hostMoves.map D.str))) : Cal P w K mg base "are_fields" 3 ["mode", "heard", "which", "then", "move", "send"] spd_are_fields := by
  refine cal_mk none Da sc_are_fields (fun _ _ _ _ _ _ us hl => match us, hl with | [_, _, _, _, _, _], _ => rfl) (fun bs R E h => ?_) (fun bs R E h => ?_) fun f cdv A outer s H E W bs R ED gu hr te h fh => ?_
  · obtain ⟨m, h, w, t, v, s, rfl, d1, d2, d3, d4, d5, d6, q⟩ := h
    rfl
  · obtain ⟨m, h, w, t, v, s, rfl, d1, d2, d3, d4, d5, d6, q⟩ := h
    exact pur_none (by simp [B.own])
  · obtain ⟨m, h, w, t, v, s, rfl, d1, d2, d3, d4, d5, d6, q⟩ := h
    have nd := sc_are_fields.nd
    have hu := hr.units
    refine ⟨_, (dss_cons (ds_if (DW.dt (dw_or (dt_not (dt_val (he := fun _ => rfl) (de_c c_is_name_or_none gu hr (da_cons (de_v 0) da_nil)))) (dw_or (dt_not (dt_val (he := fun _ => rfl) (de_c c_is_name_or_none gu hr (da_cons (de_v 3) da_nil)))) (dw_or1 (dt_not (dt_val (he := fun _ => rfl) (de_c c_is_name_or_none gu hr (da_cons (de_v 5) da_nil)))))))) (dss_one (ds_ret de_bl)) dss_nil) (dss_cons (ds_if (DW.dt (dw_and (dt_not (dt_val (he := fun _ => rfl) (de_c c_is_name_or_none gu hr (da_cons (de_v 1) da_nil)))) (dw_and1 (dt_not (dt_val (he := fun _ => rfl) (de_c c_is_word gu hr (da_cons (de_v 1) (da_cons (de_tup (da_cons (de_con c_TIMEOUT) da_nil)) da_nil)))))))) (dss_one (ds_ret de_bl)) dss_nil) (dss_one (ds_ret (de_and (de_c c_is_word gu hr (da_cons (de_v 2) (da_cons (de_op op_addAll rd_add (de_con c_CALLER_TESTS) (de_con c_HOST_TESTS)) da_nil))) (de_one (de_c c_is_word gu hr (da_cons (de_v 4) (da_cons (de_op op_addAll rd_add (de_con c_CALLER_MOVES) (de_con c_HOST_MOVES)) da_nil))))))))), ?_⟩
    have e : isFl m h w t v s = (isNN m && isNN t && isNN s && (isNN h || isWd ["timeout"] h) && isWd (callerTests ++ hostTests) w && isWd (callerMoves ++ hostMoves) v) := rfl
    rw [e] at q
    refine dseq ?_
    simp only [startD, List.map_cons, List.map_nil, List.length_cons, List.length_nil, Nat.reduceAdd, Nat.reduceSub, List.replicate, List.cons_append, List.nil_append, dSet, dIfS, dT, dOp, dCB, dCons, dNil, dV, dM, dC, dp, dNext, dRet, dRetN, dLst, dTup, dDrop, dNot, dAnd, dOr, dAndV, dOrV, dNotV, intG, intG0, lenG, lenD, ixG, itemD, intCG, intOf, maxG, List.getElem?_cons_zero, List.getElem?_cons_succ, List.set_cons_zero, List.set_cons_succ, Option.some.injEq, B.isU, B.d, B.rd, exists_eq_left', exists_eq_left, exists_and_left, true_and, and_true, B.p.injEq, DD.D.bl.injEq, DD.D.int.injEq, List.cons.injEq, DD.PC, decide_eq_true_eq, and_assoc, Option.map_some, dLc, iAny, walked, wipeE, gN, dCall, dCallP, dCallF, eqG, neG, Bool.not_true, Bool.not_false, if_true, if_false, Bool.false_eq_true, reduceIte, List.append_nil, dCBK, addG, dM1, gT, gsCons, gsNil, iEnumD, dAsP, iR1, dPart, dNo, dSl, freB, lstD, List.all_cons, List.all_nil, litD, Bool.and_self, dReprPair, dDctN, itemD2, ixG2, keyD, lookD, strG2, dPar, bCons, bNil, dFor, List.zip_cons_cons, List.zip_nil_right, List.foldl_cons, List.foldl_nil, dApp, B.o.injEq, DD.D.lst.injEq, DD.D.tup.injEq, exists_eq', dDct0, B.u.injEq, sizeLine_eq, Nat.reduceLeDiff, Nat.reduceLT, Nat.zero_le, true_implies, slG, List.length_map, tupleG, seqD, listG, iR2, List.length_take, List.length_drop, List.length_append, DD.D.str.injEq, mulG, dAsg, dFld, lookF, dSetF, setF, dProp, dMeth, dMake, dMakeK, cxOf_K, dChain, notNG, isNG, isNon_non, isNon_bl, isNon_int, isNon_str, isNon_lst, isNon_tup, isNon_dct, isNon_ins, isNon_exc, dXv, reprG, DD.D.ins.injEq, DD.D.exc.injEq, cmpIG, neIG, clsD, Option.bind_some, B.s.injEq, if_true, if_false, dNeg, dLenSet, dIndex, dClrE, dAppE, dCallK, eqKG, sortedSG]
    refine ⟨m, rfl, d1, rfl, _, rfl, ?_⟩
    cases hm : isNN m
    · rw [hm] at q
      exact iteT ⟨0, q⟩
    rw [hm] at q
    refine iteF ⟨t, rfl, d4, rfl, _, rfl, ?_⟩
    cases ht : isNN t
    · rw [ht] at q
      exact iteT ⟨0, q⟩
    rw [ht] at q
    refine iteF ⟨s, rfl, d6, rfl, _, rfl, ?_⟩
    cases hs : isNN s
    · rw [hs] at q
      exact iteT ⟨0, q⟩
    rw [hs] at q
    refine iteF (dseq ?_)
    simp only [startD, List.map_cons, List.map_nil, List.length_cons, List.length_nil, Nat.reduceAdd, Nat.reduceSub, List.replicate, List.cons_append, List.nil_append, dSet, dIfS, dT, dOp, dCB, dCons, dNil, dV, dM, dC, dp, dNext, dRet, dRetN, dLst, dTup, dDrop, dNot, dAnd, dOr, dAndV, dOrV, dNotV, intG, intG0, lenG, lenD, ixG, itemD, intCG, intOf, maxG, List.getElem?_cons_zero, List.getElem?_cons_succ, List.set_cons_zero, List.set_cons_succ, Option.some.injEq, B.isU, B.d, B.rd, exists_eq_left', exists_eq_left, exists_and_left, true_and, and_true, B.p.injEq, DD.D.bl.injEq, DD.D.int.injEq, List.cons.injEq, DD.PC, decide_eq_true_eq, and_assoc, Option.map_some, dLc, iAny, walked, wipeE, gN, dCall, dCallP, dCallF, eqG, neG, Bool.not_true, Bool.not_false, if_true, if_false, Bool.false_eq_true, reduceIte, List.append_nil, dCBK, addG, dM1, gT, gsCons, gsNil, iEnumD, dAsP, iR1, dPart, dNo, dSl, freB, lstD, List.all_cons, List.all_nil, litD, Bool.and_self, dReprPair, dDctN, itemD2, ixG2, keyD, lookD, strG2, dPar, bCons, bNil, dFor, List.zip_cons_cons, List.zip_nil_right, List.foldl_cons, List.foldl_nil, dApp, B.o.injEq, DD.D.lst.injEq, DD.D.tup.injEq, exists_eq', dDct0, B.u.injEq, sizeLine_eq, Nat.reduceLeDiff, Nat.reduceLT, Nat.zero_le, true_implies, slG, List.length_map, tupleG, seqD, listG, iR2, List.length_take, List.length_drop, List.length_append, DD.D.str.injEq, mulG, dAsg, dFld, lookF, dSetF, setF, dProp, dMeth, dMake, dMakeK, cxOf_K, dChain, notNG, isNG, isNon_non, isNon_bl, isNon_int, isNon_str, isNon_lst, isNon_tup, isNon_dct, isNon_ins, isNon_exc, dXv, reprG, DD.D.ins.injEq, DD.D.exc.injEq, cmpIG, neIG, clsD, Option.bind_some, B.s.injEq, if_true, if_false, dNeg, dLenSet, dIndex, dClrE, dAppE, dCallK, eqKG, sortedSG]
    refine ⟨h, rfl, d2, rfl, _, rfl, ?_⟩
    cases hh : isNN h
    · refine iteT ⟨h, ["timeout"], rfl, d2.t, ?_⟩
      simp only [startD, List.map_cons, List.map_nil, List.length_cons, List.length_nil, Nat.reduceAdd, Nat.reduceSub, List.replicate, List.cons_append, List.nil_append, dSet, dIfS, dT, dOp, dCB, dCons, dNil, dV, dM, dC, dp, dNext, dRet, dRetN, dLst, dTup, dDrop, dNot, dAnd, dOr, dAndV, dOrV, dNotV, intG, intG0, lenG, lenD, ixG, itemD, intCG, intOf, maxG, List.getElem?_cons_zero, List.getElem?_cons_succ, List.set_cons_zero, List.set_cons_succ, Option.some.injEq, B.isU, B.d, B.rd, exists_eq_left', exists_eq_left, exists_and_left, true_and, and_true, B.p.injEq, DD.D.bl.injEq, DD.D.int.injEq, List.cons.injEq, DD.PC, decide_eq_true_eq, and_assoc, Option.map_some, dLc, iAny, walked, wipeE, gN, dCall, dCallP, dCallF, eqG, neG, Bool.not_true, Bool.not_false, if_true, if_false, Bool.false_eq_true, reduceIte, List.append_nil, dCBK, addG, dM1, gT, gsCons, gsNil, iEnumD, dAsP, iR1, dPart, dNo, dSl, freB, lstD, List.all_cons, List.all_nil, litD, Bool.and_self, dReprPair, dDctN, itemD2, ixG2, keyD, lookD, strG2, dPar, bCons, bNil, dFor, List.zip_cons_cons, List.zip_nil_right, List.foldl_cons, List.foldl_nil, dApp, B.o.injEq, DD.D.lst.injEq, DD.D.tup.injEq, exists_eq', dDct0, B.u.injEq, sizeLine_eq, Nat.reduceLeDiff, Nat.reduceLT, Nat.zero_le, true_implies, slG, List.length_map, tupleG, seqD, listG, iR2, List.length_take, List.length_drop, List.length_append, DD.D.str.injEq, mulG, dAsg, dFld, lookF, dSetF, setF, dProp, dMeth, dMake, dMakeK, cxOf_K, dChain, notNG, isNG, isNon_non, isNon_bl, isNon_int, isNon_str, isNon_lst, isNon_tup, isNon_dct, isNon_ins, isNon_exc, dXv, reprG, DD.D.ins.injEq, DD.D.exc.injEq, cmpIG, neIG, clsD, Option.bind_some, B.s.injEq, if_true, if_false, dNeg, dLenSet, dIndex, dClrE, dAppE, dCallK, eqKG, sortedSG]
      cases hk : isWd ["timeout"] h
      · rw [hh, hk] at q
        exact iteT ⟨0, q⟩
      · rw [hh, hk] at q
        refine iteF ?_
        refine ⟨by decide, by decide, w, callerTests ++ hostTests, by rw [List.map_append], d3.t, ?_⟩
        simp only [startD, List.map_cons, List.map_nil, List.length_cons, List.length_nil, Nat.reduceAdd, Nat.reduceSub, List.replicate, List.cons_append, List.nil_append, dSet, dIfS, dT, dOp, dCB, dCons, dNil, dV, dM, dC, dp, dNext, dRet, dRetN, dLst, dTup, dDrop, dNot, dAnd, dOr, dAndV, dOrV, dNotV, intG, intG0, lenG, lenD, ixG, itemD, intCG, intOf, maxG, List.getElem?_cons_zero, List.getElem?_cons_succ, List.set_cons_zero, List.set_cons_succ, Option.some.injEq, B.isU, B.d, B.rd, exists_eq_left', exists_eq_left, exists_and_left, true_and, and_true, B.p.injEq, DD.D.bl.injEq, DD.D.int.injEq, List.cons.injEq, DD.PC, decide_eq_true_eq, and_assoc, Option.map_some, dLc, iAny, walked, wipeE, gN, dCall, dCallP, dCallF, eqG, neG, Bool.not_true, Bool.not_false, if_true, if_false, Bool.false_eq_true, reduceIte, List.append_nil, dCBK, addG, dM1, gT, gsCons, gsNil, iEnumD, dAsP, iR1, dPart, dNo, dSl, freB, lstD, List.all_cons, List.all_nil, litD, Bool.and_self, dReprPair, dDctN, itemD2, ixG2, keyD, lookD, strG2, dPar, bCons, bNil, dFor, List.zip_cons_cons, List.zip_nil_right, List.foldl_cons, List.foldl_nil, dApp, B.o.injEq, DD.D.lst.injEq, DD.D.tup.injEq, exists_eq', dDct0, B.u.injEq, sizeLine_eq, Nat.reduceLeDiff, Nat.reduceLT, Nat.zero_le, true_implies, slG, List.length_map, tupleG, seqD, listG, iR2, List.length_take, List.length_drop, List.length_append, DD.D.str.injEq, mulG, dAsg, dFld, lookF, dSetF, setF, dProp, dMeth, dMake, dMakeK, cxOf_K, dChain, notNG, isNG, isNon_non, isNon_bl, isNon_int, isNon_str, isNon_lst, isNon_tup, isNon_dct, isNon_ins, isNon_exc, dXv, reprG, DD.D.ins.injEq, DD.D.exc.injEq, cmpIG, neIG, clsD, Option.bind_some, B.s.injEq, if_true, if_false, dNeg, dLenSet, dIndex, dClrE, dAppE, dCallK, eqKG, sortedSG]
        cases hw : isWd (callerTests ++ hostTests) w
        · rw [hw] at q
          exact iteF ⟨0, q⟩
        rw [hw] at q
        refine iteT ⟨by decide, by decide, v, callerMoves ++ hostMoves, by rw [List.map_append], d5.t, ?_⟩
        simp only [startD, List.map_cons, List.map_nil, List.length_cons, List.length_nil, Nat.reduceAdd, Nat.reduceSub, List.replicate, List.cons_append, List.nil_append, dSet, dIfS, dT, dOp, dCB, dCons, dNil, dV, dM, dC, dp, dNext, dRet, dRetN, dLst, dTup, dDrop, dNot, dAnd, dOr, dAndV, dOrV, dNotV, intG, intG0, lenG, lenD, ixG, itemD, intCG, intOf, maxG, List.getElem?_cons_zero, List.getElem?_cons_succ, List.set_cons_zero, List.set_cons_succ, Option.some.injEq, B.isU, B.d, B.rd, exists_eq_left', exists_eq_left, exists_and_left, true_and, and_true, B.p.injEq, DD.D.bl.injEq, DD.D.int.injEq, List.cons.injEq, DD.PC, decide_eq_true_eq, and_assoc, Option.map_some, dLc, iAny, walked, wipeE, gN, dCall, dCallP, dCallF, eqG, neG, Bool.not_true, Bool.not_false, if_true, if_false, Bool.false_eq_true, reduceIte, List.append_nil, dCBK, addG, dM1, gT, gsCons, gsNil, iEnumD, dAsP, iR1, dPart, dNo, dSl, freB, lstD, List.all_cons, List.all_nil, litD, Bool.and_self, dReprPair, dDctN, itemD2, ixG2, keyD, lookD, strG2, dPar, bCons, bNil, dFor, List.zip_cons_cons, List.zip_nil_right, List.foldl_cons, List.foldl_nil, dApp, B.o.injEq, DD.D.lst.injEq, DD.D.tup.injEq, exists_eq', dDct0, B.u.injEq, sizeLine_eq, Nat.reduceLeDiff, Nat.reduceLT, Nat.zero_le, true_implies, slG, List.length_map, tupleG, seqD, listG, iR2, List.length_take, List.length_drop, List.length_append, DD.D.str.injEq, mulG, dAsg, dFld, lookF, dSetF, setF, dProp, dMeth, dMake, dMakeK, cxOf_K, dChain, notNG, isNG, isNon_non, isNon_bl, isNon_int, isNon_str, isNon_lst, isNon_tup, isNon_dct, isNon_ins, isNon_exc, dXv, reprG, DD.D.ins.injEq, DD.D.exc.injEq, cmpIG, neIG, clsD, Option.bind_some, B.s.injEq, if_true, if_false, dNeg, dLenSet, dIndex, dClrE, dAppE, dCallK, eqKG, sortedSG]
        exact ⟨0, q⟩
    · rw [hh] at q
      refine iteF ?_
      refine ⟨by decide, by decide, w, callerTests ++ hostTests, by rw [List.map_append], d3.t, ?_⟩
      simp only [startD, List.map_cons, List.map_nil, List.length_cons, List.length_nil, Nat.reduceAdd, Nat.reduceSub, List.replicate, List.cons_append, List.nil_append, dSet, dIfS, dT, dOp, dCB, dCons, dNil, dV, dM, dC, dp, dNext, dRet, dRetN, dLst, dTup, dDrop, dNot, dAnd, dOr, dAndV, dOrV, dNotV, intG, intG0, lenG, lenD, ixG, itemD, intCG, intOf, maxG, List.getElem?_cons_zero, List.getElem?_cons_succ, List.set_cons_zero, List.set_cons_succ, Option.some.injEq, B.isU, B.d, B.rd, exists_eq_left', exists_eq_left, exists_and_left, true_and, and_true, B.p.injEq, DD.D.bl.injEq, DD.D.int.injEq, List.cons.injEq, DD.PC, decide_eq_true_eq, and_assoc, Option.map_some, dLc, iAny, walked, wipeE, gN, dCall, dCallP, dCallF, eqG, neG, Bool.not_true, Bool.not_false, if_true, if_false, Bool.false_eq_true, reduceIte, List.append_nil, dCBK, addG, dM1, gT, gsCons, gsNil, iEnumD, dAsP, iR1, dPart, dNo, dSl, freB, lstD, List.all_cons, List.all_nil, litD, Bool.and_self, dReprPair, dDctN, itemD2, ixG2, keyD, lookD, strG2, dPar, bCons, bNil, dFor, List.zip_cons_cons, List.zip_nil_right, List.foldl_cons, List.foldl_nil, dApp, B.o.injEq, DD.D.lst.injEq, DD.D.tup.injEq, exists_eq', dDct0, B.u.injEq, sizeLine_eq, Nat.reduceLeDiff, Nat.reduceLT, Nat.zero_le, true_implies, slG, List.length_map, tupleG, seqD, listG, iR2, List.length_take, List.length_drop, List.length_append, DD.D.str.injEq, mulG, dAsg, dFld, lookF, dSetF, setF, dProp, dMeth, dMake, dMakeK, cxOf_K, dChain, notNG, isNG, isNon_non, isNon_bl, isNon_int, isNon_str, isNon_lst, isNon_tup, isNon_dct, isNon_ins, isNon_exc, dXv, reprG, DD.D.ins.injEq, DD.D.exc.injEq, cmpIG, neIG, clsD, Option.bind_some, B.s.injEq, if_true, if_false, dNeg, dLenSet, dIndex, dClrE, dAppE, dCallK, eqKG, sortedSG]
      cases hw : isWd (callerTests ++ hostTests) w
      · rw [hw] at q
        exact iteF ⟨0, q⟩
      rw [hw] at q
      refine iteT ⟨by decide, by decide, v, callerMoves ++ hostMoves, by rw [List.map_append], d5.t, ?_⟩
      simp only [startD, List.map_cons, List.map_nil, List.length_cons, List.length_nil, Nat.reduceAdd, Nat.reduceSub, List.replicate, List.cons_append, List.nil_append, dSet, dIfS, dT, dOp, dCB, dCons, dNil, dV, dM, dC, dp, dNext, dRet, dRetN, dLst, dTup, dDrop, dNot, dAnd, dOr, dAndV, dOrV, dNotV, intG, intG0, lenG, lenD, ixG, itemD, intCG, intOf, maxG, List.getElem?_cons_zero, List.getElem?_cons_succ, List.set_cons_zero, List.set_cons_succ, Option.some.injEq, B.isU, B.d, B.rd, exists_eq_left', exists_eq_left, exists_and_left, true_and, and_true, B.p.injEq, DD.D.bl.injEq, DD.D.int.injEq, List.cons.injEq, DD.PC, decide_eq_true_eq, and_assoc, Option.map_some, dLc, iAny, walked, wipeE, gN, dCall, dCallP, dCallF, eqG, neG, Bool.not_true, Bool.not_false, if_true, if_false, Bool.false_eq_true, reduceIte, List.append_nil, dCBK, addG, dM1, gT, gsCons, gsNil, iEnumD, dAsP, iR1, dPart, dNo, dSl, freB, lstD, List.all_cons, List.all_nil, litD, Bool.and_self, dReprPair, dDctN, itemD2, ixG2, keyD, lookD, strG2, dPar, bCons, bNil, dFor, List.zip_cons_cons, List.zip_nil_right, List.foldl_cons, List.foldl_nil, dApp, B.o.injEq, DD.D.lst.injEq, DD.D.tup.injEq, exists_eq', dDct0, B.u.injEq, sizeLine_eq, Nat.reduceLeDiff, Nat.reduceLT, Nat.zero_le, true_implies, slG, List.length_map, tupleG, seqD, listG, iR2, List.length_take, List.length_drop, List.length_append, DD.D.str.injEq, mulG, dAsg, dFld, lookF, dSetF, setF, dProp, dMeth, dMake, dMakeK, cxOf_K, dChain, notNG, isNG, isNon_non, isNon_bl, isNon_int, isNon_str, isNon_lst, isNon_tup, isNon_dct, isNon_ins, isNon_exc, dXv, reprG, DD.D.ins.injEq, DD.D.exc.injEq, cmpIG, neIG, clsD, Option.bind_some, B.s.injEq, if_true, if_false, dNeg, dLenSet, dIndex, dClrE, dAppE, dCallK, eqKG, sortedSG]
      exact ⟨0, q⟩
abbrev s_Rule___init__ : Stmt := memS (topS 20) 0
theorem sc_Rule___init__ : FnScope ["self", "mode", "heard", "which", "then", "move", "send"] ["self", "mode", "heard", "which", "then", "move", "send"] (defScope s_Rule___init__) := ⟨rfl, rfl, rfl, by decide +kernel, rfl, by decide +kernel, by decide +kernel⟩
def spi_Rule (aR aI : Addr) : SpdS := fun d0 ds R E => ∃ C m h w t v s, d0 = .ins C [] [] ∧ C = aR ∧ ds = [m, h, w, t, v, s] ∧ Dat m ∧ Dat h ∧ Dat w ∧ Dat t ∧ Dat v ∧ Dat s ∧ ((isFl m h w t v s = true ∧ R (.p .non) (.ins C ["fields"] [.tup [m, h, w, t, v, s]])) ∨ (isFl m h w t v s = false ∧ E aI [.tup [m, h, w, t, v, s]] (.ins C [] [])))
theorem cal_Rule {a_Rule : Addr} (Da : InitAt K mg "Rule" a_Rule "Rule.__init__" s_Rule___init__ [.str "any"] [("then", .non), ("move", .str "stay"), ("send", .non)]) (c_are_fields : Cal P w K mg base "are_fields" 3 ["mode", "heard", "which", "then", "move", "send"] spd_are_fields) (fo : FldOk K a_Rule "fields") {aI fI : Addr} (o_InvalidRule : OwnX P K aI fI) (m_InvalidRule : mg "InvalidRule" = some (.ref aI)) :
    ∃ f fd, GnOk P w K mg base 4 f fd ["self", "mode", "heard", "which", "then", "move", "send"] (toSpS K (spi_Rule a_Rule aI)) ∧ Mk K a_Rule f ∧ mg "Rule" = some (.ref a_Rule) ∧ FunD K "__init__" "Rule.__init__" (defArgs s_Rule___init__) (defBody s_Rule___init__) (defScope s_Rule___init__) [.str "any"] [("then", .non), ("move", .str "stay"), ("send", .non)] f fd := by
  refine make_mk Da sc_Rule___init__ (fun d0 ds R E h => ?_) fun f cdv A outer s H E W d0 ds R ED gu hr te h fh => ?_
  · obtain ⟨C, m, h, w, t, v, s, rfl, rfl, rfl, d1, d2, d3, d4, d5, d6, q⟩ := h
    rfl
  · obtain ⟨C, m, h, w, t, v, s, rfl, rfl, rfl, d1, d2, d3, d4, d5, d6, q⟩ := h
    have nd := sc_Rule___init__.nd
    have hu := hr.units
    refine ⟨_, (dss_cons (ds_if (dt_not (dt_val (he := fun _ => rfl) (de_c c_are_fields gu hr (da_cons (de_v 1) (da_cons (de_v 2) (da_cons (de_v 3) (da_cons (de_v 4) (da_cons (de_v 5) (da_cons (de_v 6) da_nil))))))))) (dss_one (ds_raise te o_InvalidRule rfl hr rfl m_InvalidRule (da_cons (de_tup (da_cons (de_v 1) (da_cons (de_v 2) (da_cons (de_v 3) (da_cons (de_v 4) (da_cons (de_v 5) (da_cons (de_v 6) da_nil))))))) da_nil))) dss_nil) (dss_one (ds_setF (i := 0) rfl (de_tup (da_cons (de_v 1) (da_cons (de_v 2) (da_cons (de_v 3) (da_cons (de_v 4) (da_cons (de_v 5) (da_cons (de_v 6) da_nil)))))))))), ?_⟩
    refine dseq ?_
    simp only [startD, List.map_cons, List.map_nil, List.length_cons, List.length_nil, Nat.reduceAdd, Nat.reduceSub, List.replicate, List.cons_append, List.nil_append, dSet, dIfS, dT, dOp, dCB, dCons, dNil, dV, dM, dC, dp, dNext, dRet, dRetN, dLst, dTup, dDrop, dNot, dAnd, dOr, dAndV, dOrV, dNotV, intG, intG0, lenG, lenD, ixG, itemD, intCG, intOf, maxG, List.getElem?_cons_zero, List.getElem?_cons_succ, List.set_cons_zero, List.set_cons_succ, Option.some.injEq, B.isU, B.d, B.rd, exists_eq_left', exists_eq_left, exists_and_left, true_and, and_true, B.p.injEq, DD.D.bl.injEq, DD.D.int.injEq, List.cons.injEq, DD.PC, decide_eq_true_eq, and_assoc, Option.map_some, dLc, iAny, walked, wipeE, gN, dCall, dCallP, dCallF, eqG, neG, Bool.not_true, Bool.not_false, if_true, if_false, Bool.false_eq_true, reduceIte, List.append_nil, dCBK, addG, dM1, gT, gsCons, gsNil, iEnumD, dAsP, iR1, dPart, dNo, dSl, freB, lstD, List.all_cons, List.all_nil, litD, Bool.and_self, dReprPair, dDctN, itemD2, ixG2, keyD, lookD, strG2, dPar, bCons, bNil, dFor, List.zip_cons_cons, List.zip_nil_right, List.foldl_cons, List.foldl_nil, dApp, B.o.injEq, DD.D.lst.injEq, DD.D.tup.injEq, exists_eq', dDct0, B.u.injEq, sizeLine_eq, Nat.reduceLeDiff, Nat.reduceLT, Nat.zero_le, true_implies, slG, List.length_map, tupleG, seqD, listG, iR2, List.length_take, List.length_drop, List.length_append, DD.D.str.injEq, mulG, dAsg, dFld, lookF, dSetF, setF, dProp, dMeth, dMake, dMakeK, cxOf_K, dChain, notNG, isNG, isNon_non, isNon_bl, isNon_int, isNon_str, isNon_lst, isNon_tup, isNon_dct, isNon_ins, isNon_exc, dXv, reprG, DD.D.ins.injEq, DD.D.exc.injEq, cmpIG, neIG, clsD, Option.bind_some, B.s.injEq, if_true, if_false, dNeg, dLenSet, dIndex, dClrE, dAppE, dCallK, eqKG, sortedSG, dRaise]
    refine ⟨m, h, w, t, v, s, rfl, d1, d2, d3, d4, d5, d6, ?_⟩
    simp only [startD, List.map_cons, List.map_nil, List.length_cons, List.length_nil, Nat.reduceAdd, Nat.reduceSub, List.replicate, List.cons_append, List.nil_append, dSet, dIfS, dT, dOp, dCB, dCons, dNil, dV, dM, dC, dp, dNext, dRet, dRetN, dLst, dTup, dDrop, dNot, dAnd, dOr, dAndV, dOrV, dNotV, intG, intG0, lenG, lenD, ixG, itemD, intCG, intOf, maxG, List.getElem?_cons_zero, List.getElem?_cons_succ, List.set_cons_zero, List.set_cons_succ, Option.some.injEq, B.isU, B.d, B.rd, exists_eq_left', exists_eq_left, exists_and_left, true_and, and_true, B.p.injEq, DD.D.bl.injEq, DD.D.int.injEq, List.cons.injEq, DD.PC, decide_eq_true_eq, and_assoc, Option.map_some, dLc, iAny, walked, wipeE, gN, dCall, dCallP, dCallF, eqG, neG, Bool.not_true, Bool.not_false, if_true, if_false, Bool.false_eq_true, reduceIte, List.append_nil, dCBK, addG, dM1, gT, gsCons, gsNil, iEnumD, dAsP, iR1, dPart, dNo, dSl, freB, lstD, List.all_cons, List.all_nil, litD, Bool.and_self, dReprPair, dDctN, itemD2, ixG2, keyD, lookD, strG2, dPar, bCons, bNil, dFor, List.zip_cons_cons, List.zip_nil_right, List.foldl_cons, List.foldl_nil, dApp, B.o.injEq, DD.D.lst.injEq, DD.D.tup.injEq, exists_eq', dDct0, B.u.injEq, sizeLine_eq, Nat.reduceLeDiff, Nat.reduceLT, Nat.zero_le, true_implies, slG, List.length_map, tupleG, seqD, listG, iR2, List.length_take, List.length_drop, List.length_append, DD.D.str.injEq, mulG, dAsg, dFld, lookF, dSetF, setF, dProp, dMeth, dMake, dMakeK, cxOf_K, dChain, notNG, isNG, isNon_non, isNon_bl, isNon_int, isNon_str, isNon_lst, isNon_tup, isNon_dct, isNon_ins, isNon_exc, dXv, reprG, DD.D.ins.injEq, DD.D.exc.injEq, cmpIG, neIG, clsD, Option.bind_some, B.s.injEq, if_true, if_false, dNeg, dLenSet, dIndex, dClrE, dAppE, dCallK, eqKG, sortedSG]
    rcases q with ⟨hf, q⟩ | ⟨hf, q⟩
    · rw [hf]
      exact iteF ⟨fo, q⟩
    · rw [hf]
      exact iteT q
abbrev s_Rule_mode : Stmt := memS (topS 20) 1
theorem sc_Rule_mode : FnScope ["self"] ["self"] (defScope s_Rule_mode) := ⟨rfl, rfl, rfl, by decide +kernel, rfl, by decide +kernel, by decide +kernel⟩
def spd_Rule_mode (aR : Addr) : Spd := fun bs R _ => ∃ a0 a1 a2 a3 a4 a5, bs = [.p (.ins aR ["fields"] [.tup [a0, a1, a2, a3, a4, a5]])] ∧ R (.p a0) 0
theorem cal_Rule_mode {a_Rule : Addr} (Da : PropAt K a_Rule "mode" "Rule.mode" s_Rule_mode) (fo : FldOk K a_Rule "fields") : PropC P w K mg base a_Rule "mode" 1 (spd_Rule_mode a_Rule) := by
  refine prop_mk Da sc_Rule_mode (fun _ _ _ _ _ _ us hl => match us, hl with | [_], _ => rfl) (fun bs R E h => ?_) (fun bs R E h => ?_) fun f cdv A outer s H E W bs R ED gu hr te h fh => ?_
  · obtain ⟨a0, a1, a2, a3, a4, a5, rfl, q⟩ := h
    rfl
  · obtain ⟨a0, a1, a2, a3, a4, a5, rfl, q⟩ := h
    exact pur_none (by simp [B.own])
  · obtain ⟨a0, a1, a2, a3, a4, a5, rfl, q⟩ := h
    have nd := sc_Rule_mode.nd
    have hu := hr.units
    refine ⟨_, (dss_one (ds_ret (de_ix2 hu (de_fld (de_v 0)) de_int fun _ _ => rfl))), ?_⟩
    simp only [startD, List.map_cons, List.map_nil, List.length_cons, List.length_nil, Nat.reduceAdd, Nat.reduceSub, List.replicate, List.cons_append, List.nil_append, dSet, dIfS, dT, dOp, dCB, dCons, dNil, dV, dM, dC, dp, dNext, dRet, dRetN, dLst, dTup, dDrop, dNot, dAnd, dOr, dAndV, dOrV, dNotV, intG, intG0, lenG, lenD, ixG, itemD, intCG, intOf, maxG, List.getElem?_cons_zero, List.getElem?_cons_succ, List.set_cons_zero, List.set_cons_succ, Option.some.injEq, B.isU, B.d, B.rd, exists_eq_left', exists_eq_left, exists_and_left, true_and, and_true, B.p.injEq, DD.D.bl.injEq, DD.D.int.injEq, List.cons.injEq, DD.PC, decide_eq_true_eq, and_assoc, Option.map_some, dLc, iAny, walked, wipeE, gN, dCall, dCallP, dCallF, eqG, neG, Bool.not_true, Bool.not_false, if_true, if_false, Bool.false_eq_true, reduceIte, List.append_nil, dCBK, addG, dM1, gT, gsCons, gsNil, iEnumD, dAsP, iR1, dPart, dNo, dSl, freB, lstD, List.all_cons, List.all_nil, litD, Bool.and_self, dReprPair, dDctN, itemD2, ixG2, keyD, lookD, strG2, dPar, bCons, bNil, dFor, List.zip_cons_cons, List.zip_nil_right, List.foldl_cons, List.foldl_nil, dApp, B.o.injEq, DD.D.lst.injEq, DD.D.tup.injEq, exists_eq', dDct0, B.u.injEq, sizeLine_eq, Nat.reduceLeDiff, Nat.reduceLT, Nat.zero_le, true_implies, slG, List.length_map, tupleG, seqD, listG, iR2, List.length_take, List.length_drop, List.length_append, DD.D.str.injEq, mulG, dAsg, dFld, lookF, dSetF, setF, dProp, dMeth, dMake, dMakeK, cxOf_K, dChain, notNG, isNG, isNon_non, isNon_bl, isNon_int, isNon_str, isNon_lst, isNon_tup, isNon_dct, isNon_ins, isNon_exc, dXv, reprG, DD.D.ins.injEq, DD.D.exc.injEq, cmpIG, neIG, clsD, Option.bind_some, B.s.injEq, if_true, if_false, dNeg, dLenSet, dIndex, dClrE, dAppE, dCallK, eqKG, sortedSG]
    exact ⟨fo, _, rfl, 0, q⟩
abbrev s_Rule_heard : Stmt := memS (topS 20) 2
theorem sc_Rule_heard : FnScope ["self"] ["self"] (defScope s_Rule_heard) := ⟨rfl, rfl, rfl, by decide +kernel, rfl, by decide +kernel, by decide +kernel⟩
def spd_Rule_heard (aR : Addr) : Spd := fun bs R _ => ∃ a0 a1 a2 a3 a4 a5, bs = [.p (.ins aR ["fields"] [.tup [a0, a1, a2, a3, a4, a5]])] ∧ R (.p a1) 0
theorem cal_Rule_heard {a_Rule : Addr} (Da : PropAt K a_Rule "heard" "Rule.heard" s_Rule_heard) (fo : FldOk K a_Rule "fields") : PropC P w K mg base a_Rule "heard" 1 (spd_Rule_heard a_Rule) := by
  refine prop_mk Da sc_Rule_heard (fun _ _ _ _ _ _ us hl => match us, hl with | [_], _ => rfl) (fun bs R E h => ?_) (fun bs R E h => ?_) fun f cdv A outer s H E W bs R ED gu hr te h fh => ?_
  · obtain ⟨a0, a1, a2, a3, a4, a5, rfl, q⟩ := h
    rfl
  · obtain ⟨a0, a1, a2, a3, a4, a5, rfl, q⟩ := h
    exact pur_none (by simp [B.own])
  · obtain ⟨a0, a1, a2, a3, a4, a5, rfl, q⟩ := h
    have nd := sc_Rule_heard.nd
    have hu := hr.units
    refine ⟨_, (dss_one (ds_ret (de_ix2 hu (de_fld (de_v 0)) de_int fun _ _ => rfl))), ?_⟩
    simp only [startD, List.map_cons, List.map_nil, List.length_cons, List.length_nil, Nat.reduceAdd, Nat.reduceSub, List.replicate, List.cons_append, List.nil_append, dSet, dIfS, dT, dOp, dCB, dCons, dNil, dV, dM, dC, dp, dNext, dRet, dRetN, dLst, dTup, dDrop, dNot, dAnd, dOr, dAndV, dOrV, dNotV, intG, intG0, lenG, lenD, ixG, itemD, intCG, intOf, maxG, List.getElem?_cons_zero, List.getElem?_cons_succ, List.set_cons_zero, List.set_cons_succ, Option.some.injEq, B.isU, B.d, B.rd, exists_eq_left', exists_eq_left, exists_and_left, true_and, and_true, B.p.injEq, DD.D.bl.injEq, DD.D.int.injEq, List.cons.injEq, DD.PC, decide_eq_true_eq, and_assoc, Option.map_some, dLc, iAny, walked, wipeE, gN, dCall, dCallP, dCallF, eqG, neG, Bool.not_true, Bool.not_false, if_true, if_false, Bool.false_eq_true, reduceIte, List.append_nil, dCBK, addG, dM1, gT, gsCons, gsNil, iEnumD, dAsP, iR1, dPart, dNo, dSl, freB, lstD, List.all_cons, List.all_nil, litD, Bool.and_self, dReprPair, dDctN, itemD2, ixG2, keyD, lookD, strG2, dPar, bCons, bNil, dFor, List.zip_cons_cons, List.zip_nil_right, List.foldl_cons, List.foldl_nil, dApp, B.o.injEq, DD.D.lst.injEq, DD.D.tup.injEq, exists_eq', dDct0, B.u.injEq, sizeLine_eq, Nat.reduceLeDiff, Nat.reduceLT, Nat.zero_le, true_implies, slG, List.length_map, tupleG, seqD, listG, iR2, List.length_take, List.length_drop, List.length_append, DD.D.str.injEq, mulG, dAsg, dFld, lookF, dSetF, setF, dProp, dMeth, dMake, dMakeK, cxOf_K, dChain, notNG, isNG, isNon_non, isNon_bl, isNon_int, isNon_str, isNon_lst, isNon_tup, isNon_dct, isNon_ins, isNon_exc, dXv, reprG, DD.D.ins.injEq, DD.D.exc.injEq, cmpIG, neIG, clsD, Option.bind_some, B.s.injEq, if_true, if_false, dNeg, dLenSet, dIndex, dClrE, dAppE, dCallK, eqKG, sortedSG]
    exact ⟨fo, _, rfl, 0, q⟩
abbrev s_Rule_which : Stmt := memS (topS 20) 3
theorem sc_Rule_which : FnScope ["self"] ["self"] (defScope s_Rule_which) := ⟨rfl, rfl, rfl, by decide +kernel, rfl, by decide +kernel, by decide +kernel⟩
def spd_Rule_which (aR : Addr) : Spd := fun bs R _ => ∃ a0 a1 a2 a3 a4 a5, bs = [.p (.ins aR ["fields"] [.tup [a0, a1, a2, a3, a4, a5]])] ∧ R (.p a2) 0
theorem cal_Rule_which {a_Rule : Addr} (Da : PropAt K a_Rule "which" "Rule.which" s_Rule_which) (fo : FldOk K a_Rule "fields") : PropC P w K mg base a_Rule "which" 1 (spd_Rule_which a_Rule) := by
  refine prop_mk Da sc_Rule_which (fun _ _ _ _ _ _ us hl => match us, hl with | [_], _ => rfl) (fun bs R E h => ?_) (fun bs R E h => ?_) fun f cdv A outer s H E W bs R ED gu hr te h fh => ?_
  · obtain ⟨a0, a1, a2, a3, a4, a5, rfl, q⟩ := h
    rfl
  · obtain ⟨a0, a1, a2, a3, a4, a5, rfl, q⟩ := h
    exact pur_none (by simp [B.own])
  · obtain ⟨a0, a1, a2, a3, a4, a5, rfl, q⟩ := h
    have nd := sc_Rule_which.nd
    have hu := hr.units
    refine ⟨_, (dss_one (ds_ret (de_ix2 hu (de_fld (de_v 0)) de_int fun _ _ => rfl))), ?_⟩
    simp only [startD, List.map_cons, List.map_nil, List.length_cons, List.length_nil, Nat.reduceAdd, Nat.reduceSub, List.replicate, List.cons_append, List.nil_append, dSet, dIfS, dT, dOp, dCB, dCons, dNil, dV, dM, dC, dp, dNext, dRet, dRetN, dLst, dTup, dDrop, dNot, dAnd, dOr, dAndV, dOrV, dNotV, intG, intG0, lenG, lenD, ixG, itemD, intCG, intOf, maxG, List.getElem?_cons_zero, List.getElem?_cons_succ, List.set_cons_zero, List.set_cons_succ, Option.some.injEq, B.isU, B.d, B.rd, exists_eq_left', exists_eq_left, exists_and_left, true_and, and_true, B.p.injEq, DD.D.bl.injEq, DD.D.int.injEq, List.cons.injEq, DD.PC, decide_eq_true_eq, and_assoc, Option.map_some, dLc, iAny, walked, wipeE, gN, dCall, dCallP, dCallF, eqG, neG, Bool.not_true, Bool.not_false, if_true, if_false, Bool.false_eq_true, reduceIte, List.append_nil, dCBK, addG, dM1, gT, gsCons, gsNil, iEnumD, dAsP, iR1, dPart, dNo, dSl, freB, lstD, List.all_cons, List.all_nil, litD, Bool.and_self, dReprPair, dDctN, itemD2, ixG2, keyD, lookD, strG2, dPar, bCons, bNil, dFor, List.zip_cons_cons, List.zip_nil_right, List.foldl_cons, List.foldl_nil, dApp, B.o.injEq, DD.D.lst.injEq, DD.D.tup.injEq, exists_eq', dDct0, B.u.injEq, sizeLine_eq, Nat.reduceLeDiff, Nat.reduceLT, Nat.zero_le, true_implies, slG, List.length_map, tupleG, seqD, listG, iR2, List.length_take, List.length_drop, List.length_append, DD.D.str.injEq, mulG, dAsg, dFld, lookF, dSetF, setF, dProp, dMeth, dMake, dMakeK, cxOf_K, dChain, notNG, isNG, isNon_non, isNon_bl, isNon_int, isNon_str, isNon_lst, isNon_tup, isNon_dct, isNon_ins, isNon_exc, dXv, reprG, DD.D.ins.injEq, DD.D.exc.injEq, cmpIG, neIG, clsD, Option.bind_some, B.s.injEq, if_true, if_false, dNeg, dLenSet, dIndex, dClrE, dAppE, dCallK, eqKG, sortedSG]
    exact ⟨fo, _, rfl, 0, q⟩
abbrev s_Rule_then : Stmt := memS (topS 20) 4
theorem sc_Rule_then : FnScope ["self"] ["self"] (defScope s_Rule_then) := ⟨rfl, rfl, rfl, by decide +kernel, rfl, by decide +kernel, by decide +kernel⟩
def spd_Rule_then (aR : Addr) : Spd := fun bs R _ => ∃ a0 a1 a2 a3 a4 a5, bs = [.p (.ins aR ["fields"] [.tup [a0, a1, a2, a3, a4, a5]])] ∧ R (.p a3) 0
theorem cal_Rule_then {a_Rule : Addr} (Da : PropAt K a_Rule "then" "Rule.then" s_Rule_then) (fo : FldOk K a_Rule "fields") : PropC P w K mg base a_Rule "then" 1 (spd_Rule_then a_Rule) := by
  refine prop_mk Da sc_Rule_then (fun _ _ _ _ _ _ us hl => match us, hl with | [_], _ => rfl) (fun bs R E h => ?_) (fun bs R E h => ?_) fun f cdv A outer s H E W bs R ED gu hr te h fh => ?_
  · obtain ⟨a0, a1, a2, a3, a4, a5, rfl, q⟩ := h
    rfl
  · obtain ⟨a0, a1, a2, a3, a4, a5, rfl, q⟩ := h
    exact pur_none (by simp [B.own])
  · obtain ⟨a0, a1, a2, a3, a4, a5, rfl, q⟩ := h
    have nd := sc_Rule_then.nd
    have hu := hr.units
    refine ⟨_, (dss_one (ds_ret (de_ix2 hu (de_fld (de_v 0)) de_int fun _ _ => rfl))), ?_⟩
    simp only [startD, List.map_cons, List.map_nil, List.length_cons, List.length_nil, Nat.reduceAdd, Nat.reduceSub, List.replicate, List.cons_append, List.nil_append, dSet, dIfS, dT, dOp, dCB, dCons, dNil, dV, dM, dC, dp, dNext, dRet, dRetN, dLst, dTup, dDrop, dNot, dAnd, dOr, dAndV, dOrV, dNotV, intG, intG0, lenG, lenD, ixG, itemD, intCG, intOf, maxG, List.getElem?_cons_zero, List.getElem?_cons_succ, List.set_cons_zero, List.set_cons_succ, Option.some.injEq, B.isU, B.d, B.rd, exists_eq_left', exists_eq_left, exists_and_left, true_and, and_true, B.p.injEq, DD.D.bl.injEq, DD.D.int.injEq, List.cons.injEq, DD.PC, decide_eq_true_eq, and_assoc, Option.map_some, dLc, iAny, walked, wipeE, gN, dCall, dCallP, dCallF, eqG, neG, Bool.not_true, Bool.not_false, if_true, if_false, Bool.false_eq_true, reduceIte, List.append_nil, dCBK, addG, dM1, gT, gsCons, gsNil, iEnumD, dAsP, iR1, dPart, dNo, dSl, freB, lstD, List.all_cons, List.all_nil, litD, Bool.and_self, dReprPair, dDctN, itemD2, ixG2, keyD, lookD, strG2, dPar, bCons, bNil, dFor, List.zip_cons_cons, List.zip_nil_right, List.foldl_cons, List.foldl_nil, dApp, B.o.injEq, DD.D.lst.injEq, DD.D.tup.injEq, exists_eq', dDct0, B.u.injEq, sizeLine_eq, Nat.reduceLeDiff, Nat.reduceLT, Nat.zero_le, true_implies, slG, List.length_map, tupleG, seqD, listG, iR2, List.length_take, List.length_drop, List.length_append, DD.D.str.injEq, mulG, dAsg, dFld, lookF, dSetF, setF, dProp, dMeth, dMake, dMakeK, cxOf_K, dChain, notNG, isNG, isNon_non, isNon_bl, isNon_int, isNon_str, isNon_lst, isNon_tup, isNon_dct, isNon_ins, isNon_exc, dXv, reprG, DD.D.ins.injEq, DD.D.exc.injEq, cmpIG, neIG, clsD, Option.bind_some, B.s.injEq, if_true, if_false, dNeg, dLenSet, dIndex, dClrE, dAppE, dCallK, eqKG, sortedSG]
    exact ⟨fo, _, rfl, 0, q⟩
abbrev s_Rule_move : Stmt := memS (topS 20) 5
theorem sc_Rule_move : FnScope ["self"] ["self"] (defScope s_Rule_move) := ⟨rfl, rfl, rfl, by decide +kernel, rfl, by decide +kernel, by decide +kernel⟩
def spd_Rule_move (aR : Addr) : Spd := fun bs R _ => ∃ a0 a1 a2 a3 a4 a5, bs = [.p (.ins aR ["fields"] [.tup [a0, a1, a2, a3, a4, a5]])] ∧ R (.p a4) 0
theorem cal_Rule_move {a_Rule : Addr} (Da : PropAt K a_Rule "move" "Rule.move" s_Rule_move) (fo : FldOk K a_Rule "fields") : PropC P w K mg base a_Rule "move" 1 (spd_Rule_move a_Rule) := by
  refine prop_mk Da sc_Rule_move (fun _ _ _ _ _ _ us hl => match us, hl with | [_], _ => rfl) (fun bs R E h => ?_) (fun bs R E h => ?_) fun f cdv A outer s H E W bs R ED gu hr te h fh => ?_
  · obtain ⟨a0, a1, a2, a3, a4, a5, rfl, q⟩ := h
    rfl
  · obtain ⟨a0, a1, a2, a3, a4, a5, rfl, q⟩ := h
    exact pur_none (by simp [B.own])
  · obtain ⟨a0, a1, a2, a3, a4, a5, rfl, q⟩ := h
    have nd := sc_Rule_move.nd
    have hu := hr.units
    refine ⟨_, (dss_one (ds_ret (de_ix2 hu (de_fld (de_v 0)) de_int fun _ _ => rfl))), ?_⟩
    simp only [startD, List.map_cons, List.map_nil, List.length_cons, List.length_nil, Nat.reduceAdd, Nat.reduceSub, List.replicate, List.cons_append, List.nil_append, dSet, dIfS, dT, dOp, dCB, dCons, dNil, dV, dM, dC, dp, dNext, dRet, dRetN, dLst, dTup, dDrop, dNot, dAnd, dOr, dAndV, dOrV, dNotV, intG, intG0, lenG, lenD, ixG, itemD, intCG, intOf, maxG, List.getElem?_cons_zero, List.getElem?_cons_succ, List.set_cons_zero, List.set_cons_succ, Option.some.injEq, B.isU, B.d, B.rd, exists_eq_left', exists_eq_left, exists_and_left, true_and, and_true, B.p.injEq, DD.D.bl.injEq, DD.D.int.injEq, List.cons.injEq, DD.PC, decide_eq_true_eq, and_assoc, Option.map_some, dLc, iAny, walked, wipeE, gN, dCall, dCallP, dCallF, eqG, neG, Bool.not_true, Bool.not_false, if_true, if_false, Bool.false_eq_true, reduceIte, List.append_nil, dCBK, addG, dM1, gT, gsCons, gsNil, iEnumD, dAsP, iR1, dPart, dNo, dSl, freB, lstD, List.all_cons, List.all_nil, litD, Bool.and_self, dReprPair, dDctN, itemD2, ixG2, keyD, lookD, strG2, dPar, bCons, bNil, dFor, List.zip_cons_cons, List.zip_nil_right, List.foldl_cons, List.foldl_nil, dApp, B.o.injEq, DD.D.lst.injEq, DD.D.tup.injEq, exists_eq', dDct0, B.u.injEq, sizeLine_eq, Nat.reduceLeDiff, Nat.reduceLT, Nat.zero_le, true_implies, slG, List.length_map, tupleG, seqD, listG, iR2, List.length_take, List.length_drop, List.length_append, DD.D.str.injEq, mulG, dAsg, dFld, lookF, dSetF, setF, dProp, dMeth, dMake, dMakeK, cxOf_K, dChain, notNG, isNG, isNon_non, isNon_bl, isNon_int, isNon_str, isNon_lst, isNon_tup, isNon_dct, isNon_ins, isNon_exc, dXv, reprG, DD.D.ins.injEq, DD.D.exc.injEq, cmpIG, neIG, clsD, Option.bind_some, B.s.injEq, if_true, if_false, dNeg, dLenSet, dIndex, dClrE, dAppE, dCallK, eqKG, sortedSG]
    exact ⟨fo, _, rfl, 0, q⟩
abbrev s_Rule_send : Stmt := memS (topS 20) 6
theorem sc_Rule_send : FnScope ["self"] ["self"] (defScope s_Rule_send) := ⟨rfl, rfl, rfl, by decide +kernel, rfl, by decide +kernel, by decide +kernel⟩
def spd_Rule_send (aR : Addr) : Spd := fun bs R _ => ∃ a0 a1 a2 a3 a4 a5, bs = [.p (.ins aR ["fields"] [.tup [a0, a1, a2, a3, a4, a5]])] ∧ R (.p a5) 0
theorem cal_Rule_send {a_Rule : Addr} (Da : PropAt K a_Rule "send" "Rule.send" s_Rule_send) (fo : FldOk K a_Rule "fields") : PropC P w K mg base a_Rule "send" 1 (spd_Rule_send a_Rule) := by
  refine prop_mk Da sc_Rule_send (fun _ _ _ _ _ _ us hl => match us, hl with | [_], _ => rfl) (fun bs R E h => ?_) (fun bs R E h => ?_) fun f cdv A outer s H E W bs R ED gu hr te h fh => ?_
  · obtain ⟨a0, a1, a2, a3, a4, a5, rfl, q⟩ := h
    rfl
  · obtain ⟨a0, a1, a2, a3, a4, a5, rfl, q⟩ := h
    exact pur_none (by simp [B.own])
  · obtain ⟨a0, a1, a2, a3, a4, a5, rfl, q⟩ := h
    have nd := sc_Rule_send.nd
    have hu := hr.units
    refine ⟨_, (dss_one (ds_ret (de_ix2 hu (de_fld (de_v 0)) de_int fun _ _ => rfl))), ?_⟩
    simp only [startD, List.map_cons, List.map_nil, List.length_cons, List.length_nil, Nat.reduceAdd, Nat.reduceSub, List.replicate, List.cons_append, List.nil_append, dSet, dIfS, dT, dOp, dCB, dCons, dNil, dV, dM, dC, dp, dNext, dRet, dRetN, dLst, dTup, dDrop, dNot, dAnd, dOr, dAndV, dOrV, dNotV, intG, intG0, lenG, lenD, ixG, itemD, intCG, intOf, maxG, List.getElem?_cons_zero, List.getElem?_cons_succ, List.set_cons_zero, List.set_cons_succ, Option.some.injEq, B.isU, B.d, B.rd, exists_eq_left', exists_eq_left, exists_and_left, true_and, and_true, B.p.injEq, DD.D.bl.injEq, DD.D.int.injEq, List.cons.injEq, DD.PC, decide_eq_true_eq, and_assoc, Option.map_some, dLc, iAny, walked, wipeE, gN, dCall, dCallP, dCallF, eqG, neG, Bool.not_true, Bool.not_false, if_true, if_false, Bool.false_eq_true, reduceIte, List.append_nil, dCBK, addG, dM1, gT, gsCons, gsNil, iEnumD, dAsP, iR1, dPart, dNo, dSl, freB, lstD, List.all_cons, List.all_nil, litD, Bool.and_self, dReprPair, dDctN, itemD2, ixG2, keyD, lookD, strG2, dPar, bCons, bNil, dFor, List.zip_cons_cons, List.zip_nil_right, List.foldl_cons, List.foldl_nil, dApp, B.o.injEq, DD.D.lst.injEq, DD.D.tup.injEq, exists_eq', dDct0, B.u.injEq, sizeLine_eq, Nat.reduceLeDiff, Nat.reduceLT, Nat.zero_le, true_implies, slG, List.length_map, tupleG, seqD, listG, iR2, List.length_take, List.length_drop, List.length_append, DD.D.str.injEq, mulG, dAsg, dFld, lookF, dSetF, setF, dProp, dMeth, dMake, dMakeK, cxOf_K, dChain, notNG, isNG, isNon_non, isNon_bl, isNon_int, isNon_str, isNon_lst, isNon_tup, isNon_dct, isNon_ins, isNon_exc, dXv, reprG, DD.D.ins.injEq, DD.D.exc.injEq, cmpIG, neIG, clsD, Option.bind_some, B.s.injEq, if_true, if_false, dNeg, dLenSet, dIndex, dClrE, dAppE, dCallK, eqKG, sortedSG]
    exact ⟨fo, _, rfl, 0, q⟩

def frow (fs : List D) (aR : Addr) : D := .ins aR ["fields"] [.tup fs]

abbrev s_Rule___eq__ : Stmt := memS (topS 20) 7
theorem sc_Rule___eq__ : FnScope ["self", "other"] ["self", "other"] (defScope s_Rule___eq__) := ⟨rfl, rfl, rfl, by decide +kernel, rfl, by decide +kernel, by decide +kernel⟩
def spd_Rule___eq__ (aR : Addr) : Spd := fun bs R _ => ∃ fs y, bs = [.p (.ins aR ["fields"] [.tup fs]), .p y] ∧ ((dat y = true ∧ R (.p (.bl false)) 0) ∨ ∃ gs k, y = .ins aR ["fields"] [.tup gs] ∧ eqD (.tup fs) (.tup gs) = some k ∧ R (.p (.bl k)) 0)
theorem cal_Rule___eq__ {a_Rule : Addr} (Da : MethAt K a_Rule "__eq__" "Rule.__eq__" s_Rule___eq__) (fo : FldOk K a_Rule "fields") (io : InsOk K a_Rule) (nk : NoKit K a_Rule) (c_Rule : ConAt K mg "Rule" (.ref a_Rule)) (m_isinstance : mg "isinstance" = none) : MethC P w K mg base a_Rule "__eq__" 1 ["self", "other"] (spd_Rule___eq__ a_Rule) := by
  refine meth_mk Da sc_Rule___eq__ (fun _ _ _ _ _ _ us hl => match us, hl with | [_, _], _ => rfl) (fun bs R E h => ?_) (fun bs R E h => ?_) fun f cdv A outer s H E W bs R ED gu hr te h fh => ?_
  · obtain ⟨fs, y, rfl, q⟩ := h
    rfl
  · obtain ⟨fs, y, rfl, q⟩ := h
    exact pur_none (by simp [B.own])
  · obtain ⟨fs, y, rfl, q⟩ := h
    have nd := sc_Rule___eq__.nd
    have hu := hr.units
    refine ⟨_, (dss_one (ds_ret (de_and (de_callB call_isZ (rc_isa (K := K)) rfl m_isinstance bt_isinstance (da_cons (de_v 1) (da_cons (de_con c_Rule) da_nil))) (de_one (de_cmp (op_eqAll hu) rd_eq (de_fld (de_v 0)) (de_fld (de_v 1)) rfl))))), ?_⟩
    rcases q with ⟨hy, q⟩ | ⟨gs, k, rfl, hk, q⟩
    · simp only [startD, List.map_cons, List.map_nil, List.length_cons, List.length_nil, Nat.reduceAdd, Nat.reduceSub, List.replicate, List.cons_append, List.nil_append, dSet, dIfS, dT, dOp, dCB, dCons, dNil, dV, dM, dC, dp, dNext, dRet, dRetN, dLst, dTup, dDrop, dNot, dAnd, dOr, dAndV, dOrV, dNotV, intG, intG0, lenG, lenD, ixG, itemD, intCG, intOf, maxG, List.getElem?_cons_zero, List.getElem?_cons_succ, List.set_cons_zero, List.set_cons_succ, Option.some.injEq, B.isU, B.d, B.rd, exists_eq_left', exists_eq_left, exists_and_left, true_and, and_true, B.p.injEq, DD.D.bl.injEq, DD.D.int.injEq, List.cons.injEq, DD.PC, decide_eq_true_eq, and_assoc, Option.map_some, dLc, iAny, walked, wipeE, gN, dCall, dCallP, dCallF, eqG, neG, Bool.not_true, Bool.not_false, if_true, if_false, Bool.false_eq_true, reduceIte, List.append_nil, dCBK, addG, dM1, gT, gsCons, gsNil, iEnumD, dAsP, iR1, dPart, dNo, dSl, freB, lstD, List.all_cons, List.all_nil, litD, Bool.and_self, dReprPair, dDctN, itemD2, ixG2, keyD, lookD, strG2, dPar, bCons, bNil, dFor, List.zip_cons_cons, List.zip_nil_right, List.foldl_cons, List.foldl_nil, dApp, B.o.injEq, DD.D.lst.injEq, DD.D.tup.injEq, exists_eq', dDct0, B.u.injEq, sizeLine_eq, Nat.reduceLeDiff, Nat.reduceLT, Nat.zero_le, true_implies, slG, List.length_map, tupleG, seqD, listG, iR2, List.length_take, List.length_drop, List.length_append, DD.D.str.injEq, mulG, dAsg, dFld, lookF, dSetF, setF, dProp, dMeth, dMake, dMakeK, cxOf_K, dChain, notNG, isNG, isNon_non, isNon_bl, isNon_int, isNon_str, isNon_lst, isNon_tup, isNon_dct, isNon_ins, isNon_exc, dXv, reprG, DD.D.ins.injEq, DD.D.exc.injEq, cmpIG, neIG, clsD, Option.bind_some, B.s.injEq, if_true, if_false, dNeg, dLenSet, dIndex, dClrE, dAppE, dCallK, eqKG, sortedSG, isa_no hy nk]
      exact ⟨0, q⟩
    · simp only [startD, List.map_cons, List.map_nil, List.length_cons, List.length_nil, Nat.reduceAdd, Nat.reduceSub, List.replicate, List.cons_append, List.nil_append, dSet, dIfS, dT, dOp, dCB, dCons, dNil, dV, dM, dC, dp, dNext, dRet, dRetN, dLst, dTup, dDrop, dNot, dAnd, dOr, dAndV, dOrV, dNotV, intG, intG0, lenG, lenD, ixG, itemD, intCG, intOf, maxG, List.getElem?_cons_zero, List.getElem?_cons_succ, List.set_cons_zero, List.set_cons_succ, Option.some.injEq, B.isU, B.d, B.rd, exists_eq_left', exists_eq_left, exists_and_left, true_and, and_true, B.p.injEq, DD.D.bl.injEq, DD.D.int.injEq, List.cons.injEq, DD.PC, decide_eq_true_eq, and_assoc, Option.map_some, dLc, iAny, walked, wipeE, gN, dCall, dCallP, dCallF, eqG, neG, Bool.not_true, Bool.not_false, if_true, if_false, Bool.false_eq_true, reduceIte, List.append_nil, dCBK, addG, dM1, gT, gsCons, gsNil, iEnumD, dAsP, iR1, dPart, dNo, dSl, freB, lstD, List.all_cons, List.all_nil, litD, Bool.and_self, dReprPair, dDctN, itemD2, ixG2, keyD, lookD, strG2, dPar, bCons, bNil, dFor, List.zip_cons_cons, List.zip_nil_right, List.foldl_cons, List.foldl_nil, dApp, B.o.injEq, DD.D.lst.injEq, DD.D.tup.injEq, exists_eq', dDct0, B.u.injEq, sizeLine_eq, Nat.reduceLeDiff, Nat.reduceLT, Nat.zero_le, true_implies, slG, List.length_map, tupleG, seqD, listG, iR2, List.length_take, List.length_drop, List.length_append, DD.D.str.injEq, mulG, dAsg, dFld, lookF, dSetF, setF, dProp, dMeth, dMake, dMakeK, cxOf_K, dChain, notNG, isNG, isNon_non, isNon_bl, isNon_int, isNon_str, isNon_lst, isNon_tup, isNon_dct, isNon_ins, isNon_exc, dXv, reprG, DD.D.ins.injEq, DD.D.exc.injEq, cmpIG, neIG, clsD, Option.bind_some, B.s.injEq, if_true, if_false, dNeg, dLenSet, dIndex, dClrE, dAppE, dCallK, eqKG, sortedSG, isa_ins io kitOne_self]
      exact ⟨fo, fo, k, hk, 0, q⟩
end
end K

set_option Elab.async false
set_option linter.all false
set_option maxRecDepth 100000
set_option maxHeartbeats 8000000
namespace K
open PySem PySem.Spec PyProof.Rows L2 DD
section
variable {P : Program} {w : World} {K : PySem.W.Frag} {mg : Str → Option Value} {base : Heap}
theorem pv_mode {aR : Addr} {a0 a1 a2 a3 a4 a5 : D} {R : B → Nat → Prop} {E : Addr → List DD.D → Nat → Prop} : spd_Rule_mode aR [.p (.ins aR ["fields"] [.tup [a0, a1, a2, a3, a4, a5]])] R E ↔ R (.p a0) 0 :=
  ⟨fun ⟨_, _, _, _, _, _, e, q⟩ => by cases e; exact q, fun q => ⟨_, _, _, _, _, _, rfl, q⟩⟩
theorem pv_heard {aR : Addr} {a0 a1 a2 a3 a4 a5 : D} {R : B → Nat → Prop} {E : Addr → List DD.D → Nat → Prop} : spd_Rule_heard aR [.p (.ins aR ["fields"] [.tup [a0, a1, a2, a3, a4, a5]])] R E ↔ R (.p a1) 0 :=
  ⟨fun ⟨_, _, _, _, _, _, e, q⟩ => by cases e; exact q, fun q => ⟨_, _, _, _, _, _, rfl, q⟩⟩
theorem pv_which {aR : Addr} {a0 a1 a2 a3 a4 a5 : D} {R : B → Nat → Prop} {E : Addr → List DD.D → Nat → Prop} : spd_Rule_which aR [.p (.ins aR ["fields"] [.tup [a0, a1, a2, a3, a4, a5]])] R E ↔ R (.p a2) 0 :=
  ⟨fun ⟨_, _, _, _, _, _, e, q⟩ => by cases e; exact q, fun q => ⟨_, _, _, _, _, _, rfl, q⟩⟩
theorem pv_then {aR : Addr} {a0 a1 a2 a3 a4 a5 : D} {R : B → Nat → Prop} {E : Addr → List DD.D → Nat → Prop} : spd_Rule_then aR [.p (.ins aR ["fields"] [.tup [a0, a1, a2, a3, a4, a5]])] R E ↔ R (.p a3) 0 :=
  ⟨fun ⟨_, _, _, _, _, _, e, q⟩ => by cases e; exact q, fun q => ⟨_, _, _, _, _, _, rfl, q⟩⟩
theorem pv_move {aR : Addr} {a0 a1 a2 a3 a4 a5 : D} {R : B → Nat → Prop} {E : Addr → List DD.D → Nat → Prop} : spd_Rule_move aR [.p (.ins aR ["fields"] [.tup [a0, a1, a2, a3, a4, a5]])] R E ↔ R (.p a4) 0 :=
  ⟨fun ⟨_, _, _, _, _, _, e, q⟩ => by cases e; exact q, fun q => ⟨_, _, _, _, _, _, rfl, q⟩⟩
theorem pv_send {aR : Addr} {a0 a1 a2 a3 a4 a5 : D} {R : B → Nat → Prop} {E : Addr → List DD.D → Nat → Prop} : spd_Rule_send aR [.p (.ins aR ["fields"] [.tup [a0, a1, a2, a3, a4, a5]])] R E ↔ R (.p a5) 0 :=
  ⟨fun ⟨_, _, _, _, _, _, e, q⟩ => by cases e; exact q, fun q => ⟨_, _, _, _, _, _, rfl, q⟩⟩

def rowD (aR : Addr) (m h : D) (w : Str) (t : D) (v : Str) (s : D) : D := .ins aR ["fields"] [.tup [m, h, .str w, t, .str v, s]]
def fitC (w v : Str) (s : D) : Bool := decide (w ∈ callerTests) && decide (v ∈ callerMoves) && !(decide (v = "down") && isNon s) && (!decide (v = "there") || decide (w = "below"))
def fitH (w v : Str) : Bool := decide (w ∈ hostTests) && decide (v ∈ hostMoves) && !(decide (v = "take") && !decide (w ∈ (["have", "held"] : List Str))) && (!decide (v = "pick") || decide (w = "meet"))
def isTO : D → Bool
  | .str x => decide (x = "timeout")
  | _ => false
def fitS (sd : Str) (h : D) (w v : Str) (s : D) : Bool := !(isTO h && !decide (w = "any")) && (if sd = "caller" then fitC w v s else fitH w v)
theorem eqD_to {h : D} (hn : isNon h = true ∨ isStr h = true) : eqD h (.str "timeout") = some (isTO h) := by
  cases h <;> first | (rcases hn with z | z <;> cases z; done) | skip
  · decide +kernel
  · exact eqD_str

abbrev s_fits_caller : Stmt := topS 21
theorem sc_fits_caller : FnScope ["rule"] ["rule"] (defScope s_fits_caller) := ⟨rfl, rfl, rfl, by decide +kernel, rfl, by decide +kernel, by decide +kernel⟩
def spd_fits_caller (aR : Addr) : Spd := fun bs R _ => ∃ m h w t v s, bs = [.p (rowD aR m h w t v s)] ∧ R (.p (.bl (fitC w v s))) 0
theorem cal_fits_caller (Da : DefAt K mg "fits_caller" s_fits_caller) {a_Rule : Addr} (pr_Rule_which : PropC P w K mg base a_Rule "which" 1 (spd_Rule_which a_Rule)) (pr_Rule_move : PropC P w K mg base a_Rule "move" 1 (spd_Rule_move a_Rule)) (pr_Rule_send : PropC P w K mg base a_Rule "send" 1 (spd_Rule_send a_Rule)) (c_CALLER_TESTS : ConAt K mg "CALLER_TESTS" (.tup (callerTests.map D.str))) (c_CALLER_MOVES : ConAt K mg "CALLER_MOVES" (.tup (callerMoves.map D.str))) : Cal P w K mg base "fits_caller" 3 ["rule"] (spd_fits_caller a_Rule) := by
  refine cal_mk none Da sc_fits_caller (fun _ _ _ _ _ _ us hl => match us, hl with | [_], _ => rfl) (fun bs R E h => ?_) (fun bs R E h => ?_) fun f cdv A outer s H E W bs R ED gu hr te h fh => ?_
  · obtain ⟨m, h, w, t, v, s, rfl, q⟩ := h
    rfl
  · obtain ⟨m, h, w, t, v, s, rfl, q⟩ := h
    exact pur_none (by simp [B.own])
  · obtain ⟨m, h, w, t, v, s, rfl, q⟩ := h
    have nd := sc_fits_caller.nd
    have hu := hr.units
    refine ⟨_, (dss_cons (ds_if (DW.dt (dw_or (dt_cmp op_notInAll rd_in (de_prop pr_Rule_which gu hr (de_v 0)) (de_con c_CALLER_TESTS) rfl) (dw_or1 (dt_cmp op_notInAll rd_in (de_prop pr_Rule_move gu hr (de_v 0)) (de_con c_CALLER_MOVES) rfl)))) (dss_one (ds_ret de_bl)) dss_nil) (dss_cons (ds_if (DW.dt (dw_and (dt_cmp (op_eqAll hu) rd_eq (de_prop pr_Rule_move gu hr (de_v 0)) de_str rfl) (dw_and1 (dt_cmp op_isN rd_isN (de_prop pr_Rule_send gu hr (de_v 0)) de_non rfl)))) (dss_one (ds_ret de_bl)) dss_nil) (dss_one (ds_ret (de_or (de_cmp (op_neAll hu) rd_ne (de_prop pr_Rule_move gu hr (de_v 0)) de_str rfl) (de_one (de_cmp (op_eqAll hu) rd_eq (de_prop pr_Rule_which gu hr (de_v 0)) de_str rfl))))))), ?_⟩
    refine dseq ?_
    simp only [startD, List.map_cons, List.map_nil, List.length_cons, List.length_nil, Nat.reduceAdd, Nat.reduceSub, List.replicate, List.cons_append, List.nil_append, dSeq, dSet, dIfS, dT, dOp, dCB, dCons, dNil, dV, dM, dC, dp, dNext, dRet, dRetN, dLst, dTup, dDrop, dNot, dAnd, dOr, dAndV, dOrV, dNotV, intG, intG0, lenG, lenD, ixG, itemD, intCG, intOf, maxG, List.getElem?_cons_zero, List.getElem?_cons_succ, List.set_cons_zero, List.set_cons_succ, Option.some.injEq, B.isU, B.d, B.rd, exists_eq_left', exists_eq_left, exists_and_left, true_and, and_true, B.p.injEq, DD.D.bl.injEq, DD.D.int.injEq, List.cons.injEq, DD.PC, decide_eq_true_eq, and_assoc, Option.map_some, dLc, iAny, walked, wipeE, gN, dCall, dCallP, dCallF, eqG, neG, Bool.not_true, Bool.not_false, if_true, if_false, Bool.false_eq_true, reduceIte, List.append_nil, dCBK, addG, dM1, gT, gsCons, gsNil, iEnumD, dAsP, iR1, dPart, dNo, dSl, freB, lstD, List.all_cons, List.all_nil, litD, Bool.and_self, dReprPair, dDctN, itemD2, ixG2, keyD, lookD, strG2, dPar, bCons, bNil, dFor, List.zip_cons_cons, List.zip_nil_right, List.foldl_cons, List.foldl_nil, dApp, B.o.injEq, DD.D.lst.injEq, DD.D.tup.injEq, exists_eq', dDct0, B.u.injEq, sizeLine_eq, Nat.reduceLeDiff, Nat.reduceLT, Nat.zero_le, true_implies, slG, List.length_map, tupleG, seqD, listG, iR2, List.length_take, List.length_drop, List.length_append, DD.D.str.injEq, mulG, dAsg, dFld, lookF, dSetF, setF, dProp, dMeth, dMake, dMakeK, cxOf_K, dChain, notNG, isNG, isNon_non, isNon_bl, isNon_int, isNon_str, isNon_lst, isNon_tup, isNon_dct, isNon_ins, isNon_exc, dXv, reprG, DD.D.ins.injEq, DD.D.exc.injEq, cmpIG, neIG, clsD, Option.bind_some, B.s.injEq, if_true, if_false, dNeg, dLenSet, dIndex, dClrE, dAppE, dCallK, eqKG, sortedSG, rowD, pv_mode, pv_heard, pv_which, pv_then, pv_move, pv_send, inG, isIn_strs, eqD_str]
    revert q
    unfold fitC
    by_cases h3 : v = "down" <;> by_cases h5 : v = "there" <;> by_cases h6 : w = "below" <;> (try simp only [if_pos h3, decide_eq_true h3]) <;> (try simp only [if_neg h3, decide_eq_false h3]) <;> (try simp only [if_pos h5, decide_eq_true h5]) <;> (try simp only [if_neg h5, decide_eq_false h5]) <;> (try simp only [if_pos h6, decide_eq_true h6]) <;> (try simp only [if_neg h6, decide_eq_false h6]) <;> cases decide (w ∈ callerTests) <;> cases decide (v ∈ callerMoves) <;> cases isNon s <;> exact fun q => ⟨0, q⟩

theorem isIn_strs2 {x a b : Str} : isIn (.str x) (.tup [.str a, .str b]) = some (decide (x ∈ ([a, b] : List Str))) := isIn_strs (ws := [a, b])

abbrev s_fits_host : Stmt := topS 22
theorem sc_fits_host : FnScope ["rule"] ["rule"] (defScope s_fits_host) := ⟨rfl, rfl, rfl, by decide +kernel, rfl, by decide +kernel, by decide +kernel⟩
def spd_fits_host (aR : Addr) : Spd := fun bs R _ => ∃ m h w t v s, bs = [.p (rowD aR m h w t v s)] ∧ R (.p (.bl (fitH w v))) 0
theorem cal_fits_host (Da : DefAt K mg "fits_host" s_fits_host) {a_Rule : Addr} (pr_Rule_which : PropC P w K mg base a_Rule "which" 1 (spd_Rule_which a_Rule)) (pr_Rule_move : PropC P w K mg base a_Rule "move" 1 (spd_Rule_move a_Rule)) (c_HOST_TESTS : ConAt K mg "HOST_TESTS" (.tup (hostTests.map D.str))) (c_HOST_MOVES : ConAt K mg "HOST_MOVES" (.tup (hostMoves.map D.str))) : Cal P w K mg base "fits_host" 3 ["rule"] (spd_fits_host a_Rule) := by
  refine cal_mk none Da sc_fits_host (fun _ _ _ _ _ _ us hl => match us, hl with | [_], _ => rfl) (fun bs R E h => ?_) (fun bs R E h => ?_) fun f cdv A outer s H E W bs R ED gu hr te h fh => ?_
  · obtain ⟨m, h, w, t, v, s, rfl, q⟩ := h
    rfl
  · obtain ⟨m, h, w, t, v, s, rfl, q⟩ := h
    exact pur_none (by simp [B.own])
  · obtain ⟨m, h, w, t, v, s, rfl, q⟩ := h
    have nd := sc_fits_host.nd
    have hu := hr.units
    refine ⟨_, (dss_cons (ds_if (DW.dt (dw_or (dt_cmp op_notInAll rd_in (de_prop pr_Rule_which gu hr (de_v 0)) (de_con c_HOST_TESTS) rfl) (dw_or1 (dt_cmp op_notInAll rd_in (de_prop pr_Rule_move gu hr (de_v 0)) (de_con c_HOST_MOVES) rfl)))) (dss_one (ds_ret de_bl)) dss_nil) (dss_cons (ds_if (DW.dt (dw_and (dt_cmp (op_eqAll hu) rd_eq (de_prop pr_Rule_move gu hr (de_v 0)) de_str rfl) (dw_and1 (dt_cmp op_notInAll rd_in (de_prop pr_Rule_which gu hr (de_v 0)) (de_tup (da_cons de_str (da_cons de_str da_nil))) rfl)))) (dss_one (ds_ret de_bl)) dss_nil) (dss_one (ds_ret (de_or (de_cmp (op_neAll hu) rd_ne (de_prop pr_Rule_move gu hr (de_v 0)) de_str rfl) (de_one (de_cmp (op_eqAll hu) rd_eq (de_prop pr_Rule_which gu hr (de_v 0)) de_str rfl))))))), ?_⟩
    simp only [startD, List.map_cons, List.map_nil, List.length_cons, List.length_nil, Nat.reduceAdd, Nat.reduceSub, List.replicate, List.cons_append, List.nil_append, dSeq, dSet, dIfS, dT, dOp, dCB, dCons, dNil, dV, dM, dC, dp, dNext, dRet, dRetN, dLst, dTup, dDrop, dNot, dAnd, dOr, dAndV, dOrV, dNotV, intG, intG0, lenG, lenD, ixG, itemD, intCG, intOf, maxG, List.getElem?_cons_zero, List.getElem?_cons_succ, List.set_cons_zero, List.set_cons_succ, Option.some.injEq, B.isU, B.d, B.rd, exists_eq_left', exists_eq_left, exists_and_left, true_and, and_true, B.p.injEq, DD.D.bl.injEq, DD.D.int.injEq, List.cons.injEq, DD.PC, decide_eq_true_eq, and_assoc, Option.map_some, dLc, iAny, walked, wipeE, gN, dCall, dCallP, dCallF, eqG, neG, Bool.not_true, Bool.not_false, if_true, if_false, Bool.false_eq_true, reduceIte, List.append_nil, dCBK, addG, dM1, gT, gsCons, gsNil, iEnumD, dAsP, iR1, dPart, dNo, dSl, freB, lstD, List.all_cons, List.all_nil, litD, Bool.and_self, dReprPair, dDctN, itemD2, ixG2, keyD, lookD, strG2, dPar, bCons, bNil, dFor, List.zip_cons_cons, List.zip_nil_right, List.foldl_cons, List.foldl_nil, dApp, B.o.injEq, DD.D.lst.injEq, DD.D.tup.injEq, exists_eq', dDct0, B.u.injEq, sizeLine_eq, Nat.reduceLeDiff, Nat.reduceLT, Nat.zero_le, true_implies, slG, List.length_map, tupleG, seqD, listG, iR2, List.length_take, List.length_drop, List.length_append, DD.D.str.injEq, mulG, dAsg, dFld, lookF, dSetF, setF, dProp, dMeth, dMake, dMakeK, cxOf_K, dChain, notNG, isNG, isNon_non, isNon_bl, isNon_int, isNon_str, isNon_lst, isNon_tup, isNon_dct, isNon_ins, isNon_exc, dXv, reprG, DD.D.ins.injEq, DD.D.exc.injEq, cmpIG, neIG, clsD, Option.bind_some, B.s.injEq, if_true, if_false, dNeg, dLenSet, dIndex, dClrE, dAppE, dCallK, eqKG, sortedSG, rowD, pv_mode, pv_heard, pv_which, pv_then, pv_move, pv_send, inG, isIn_strs, isIn_strs2, eqD_str]
    revert q
    unfold fitH
    by_cases h3 : v = "take" <;> by_cases h5 : v = "pick" <;> by_cases h6 : w = "meet" <;> (try simp only [if_pos h3, decide_eq_true h3]) <;> (try simp only [if_neg h3, decide_eq_false h3]) <;> (try simp only [if_pos h5, decide_eq_true h5]) <;> (try simp only [if_neg h5, decide_eq_false h5]) <;> (try simp only [if_pos h6, decide_eq_true h6]) <;> (try simp only [if_neg h6, decide_eq_false h6]) <;> cases decide (w ∈ hostTests) <;> cases decide (v ∈ hostMoves) <;> cases decide (w ∈ (["have", "held"] : List Str)) <;> exact fun q => ⟨0, q⟩
abbrev s_fits_side : Stmt := topS 23
theorem sc_fits_side : FnScope ["rule", "side"] ["rule", "side"] (defScope s_fits_side) := ⟨rfl, rfl, rfl, by decide +kernel, rfl, by decide +kernel, by decide +kernel⟩
def spd_fits_side (aR : Addr) : Spd := fun bs R _ => ∃ m h w t v s sd, bs = [.p (rowD aR m h w t v s), .p (.str sd)] ∧ (isNon h = true ∨ isStr h = true) ∧ R (.p (.bl (fitS sd h w v s))) 0
theorem cal_fits_side (Da : DefAt K mg "fits_side" s_fits_side) {a_Rule : Addr} (pr_Rule_heard : PropC P w K mg base a_Rule "heard" 1 (spd_Rule_heard a_Rule)) (pr_Rule_which : PropC P w K mg base a_Rule "which" 1 (spd_Rule_which a_Rule)) (c_TIMEOUT : ConAt K mg "TIMEOUT" (.str "timeout")) (c_fits_caller : Cal P w K mg base "fits_caller" 3 ["rule"] (spd_fits_caller a_Rule)) (c_fits_host : Cal P w K mg base "fits_host" 3 ["rule"] (spd_fits_host a_Rule)) : Cal P w K mg base "fits_side" 4 ["rule", "side"] (spd_fits_side a_Rule) := by
  refine cal_mk none Da sc_fits_side (fun _ _ _ _ _ _ us hl => match us, hl with | [_, _], _ => rfl) (fun bs R E h => ?_) (fun bs R E h => ?_) fun f cdv A outer s H E W bs R ED gu hr te h fh => ?_
  · obtain ⟨m, h, w, t, v, s, sd, rfl, hh, q⟩ := h
    rfl
  · obtain ⟨m, h, w, t, v, s, sd, rfl, hh, q⟩ := h
    exact pur_none (by simp [B.own])
  · obtain ⟨m, h, w, t, v, s, sd, rfl, hh, q⟩ := h
    have nd := sc_fits_side.nd
    have hu := hr.units
    refine ⟨_, (dss_cons (ds_if (DW.dt (dw_and (dt_cmp (op_eqAll hu) rd_eq (de_prop pr_Rule_heard gu hr (de_v 0)) (de_con c_TIMEOUT) rfl) (dw_and1 (dt_cmp (op_neAll hu) rd_ne (de_prop pr_Rule_which gu hr (de_v 0)) de_str rfl)))) (dss_one (ds_ret de_bl)) dss_nil) (dss_cons (ds_if (dt_cmp (op_eqAll hu) rd_eq (de_v 1) de_str rfl) (dss_one (ds_ret (de_c c_fits_caller gu hr (da_cons (de_v 0) da_nil)))) dss_nil) (dss_one (ds_ret (de_c c_fits_host gu hr (da_cons (de_v 0) da_nil)))))), ?_⟩
    simp only [startD, List.map_cons, List.map_nil, List.length_cons, List.length_nil, Nat.reduceAdd, Nat.reduceSub, List.replicate, List.cons_append, List.nil_append, dSeq, dSet, dIfS, dT, dOp, dCB, dCons, dNil, dV, dM, dC, dp, dNext, dRet, dRetN, dLst, dTup, dDrop, dNot, dAnd, dOr, dAndV, dOrV, dNotV, intG, intG0, lenG, lenD, ixG, itemD, intCG, intOf, maxG, List.getElem?_cons_zero, List.getElem?_cons_succ, List.set_cons_zero, List.set_cons_succ, Option.some.injEq, B.isU, B.d, B.rd, exists_eq_left', exists_eq_left, exists_and_left, true_and, and_true, B.p.injEq, DD.D.bl.injEq, DD.D.int.injEq, List.cons.injEq, DD.PC, decide_eq_true_eq, and_assoc, Option.map_some, dLc, iAny, walked, wipeE, gN, dCall, dCallP, dCallF, eqG, neG, Bool.not_true, Bool.not_false, if_true, if_false, Bool.false_eq_true, reduceIte, List.append_nil, dCBK, addG, dM1, gT, gsCons, gsNil, iEnumD, dAsP, iR1, dPart, dNo, dSl, freB, lstD, List.all_cons, List.all_nil, litD, Bool.and_self, dReprPair, dDctN, itemD2, ixG2, keyD, lookD, strG2, dPar, bCons, bNil, dFor, List.zip_cons_cons, List.zip_nil_right, List.foldl_cons, List.foldl_nil, dApp, B.o.injEq, DD.D.lst.injEq, DD.D.tup.injEq, exists_eq', dDct0, B.u.injEq, sizeLine_eq, Nat.reduceLeDiff, Nat.reduceLT, Nat.zero_le, true_implies, slG, List.length_map, tupleG, seqD, listG, iR2, List.length_take, List.length_drop, List.length_append, DD.D.str.injEq, mulG, dAsg, dFld, lookF, dSetF, setF, dProp, dMeth, dMake, dMakeK, cxOf_K, dChain, notNG, isNG, isNon_non, isNon_bl, isNon_int, isNon_str, isNon_lst, isNon_tup, isNon_dct, isNon_ins, isNon_exc, dXv, reprG, DD.D.ins.injEq, DD.D.exc.injEq, cmpIG, neIG, clsD, Option.bind_some, B.s.injEq, if_true, if_false, dNeg, dLenSet, dIndex, dClrE, dAppE, dCallK, eqKG, sortedSG, rowD, pv_mode, pv_heard, pv_which, pv_then, pv_move, pv_send, eqD_str, eqD_to hh]
    have fc : ∀ sd : Str, sd = "caller" → fitS sd h w v s = (!(isTO h && !decide (w = "any")) && fitC w v s) := fun sd e => by unfold fitS; rw [if_pos e]
    have fh : ∀ sd : Str, ¬ sd = "caller" → fitS sd h w v s = (!(isTO h && !decide (w = "any")) && fitH w v) := fun sd e => by unfold fitS; rw [if_neg e]
    by_cases h4 : sd = "caller"
    · rw [fc sd h4] at q
      simp only [if_pos h4]
      revert q
      cases isTO h <;> cases decide (w = "any") <;> intro q <;> first | exact ⟨0, q⟩ | exact ⟨m, h, w, t, v, s, rfl, rfl, rfl, 0, q⟩
    · rw [fh sd h4] at q
      simp only [if_neg h4]
      revert q
      cases isTO h <;> cases decide (w = "any") <;> intro q <;> first | exact ⟨0, q⟩ | exact ⟨m, h, w, t, v, s, rfl, rfl, rfl, 0, q⟩

theorem isIn_strsL {x : Str} {ws : List Str} : isIn (.str x) (.lst (ws.map D.str)) = some (decide (x ∈ ws)) := isIn_strs

abbrev s_are_settled : Stmt := topS 26
theorem sc_are_settled : FnScope ["first", "settled", "mode"] ["first", "settled"] (defScope s_are_settled) := ⟨rfl, rfl, rfl, by decide +kernel, rfl, by decide +kernel, by decide +kernel⟩
def spd_are_settled  : Spd := fun bs R _ => ∃ (f : Str) (ss : List Str) (d : D), bs = [.p (.str f), .p d] ∧ (d = .lst (ss.map D.str) ∨ d = .tup (ss.map D.str)) ∧ ss.length ≤ 1 ∧ (∀ s ∈ ss, isNm (.str s) = true ∧ Dat (.str s)) ∧ R (.p (.bl (!decide (f ∈ ss)))) 0
theorem cal_are_settled (Da : DefAt K mg "are_settled" s_are_settled) (c_is_name : Cal P w K mg base "is_name" 1 ["value"] spd_is_name) (m_isinstance : mg "isinstance" = none) (m_list : mg "list" = none) (m_tuple : mg "tuple" = none) (m_len : mg "len" = none) (m_set : mg "set" = none) : Cal P w K mg base "are_settled" 2 ["first", "settled"] spd_are_settled := by
  refine cal_mk none Da sc_are_settled (fun _ _ _ _ _ _ us hl => match us, hl with | [_, _], _ => rfl) (fun bs R E h => ?_) (fun bs R E h => ?_) fun f cdv A outer s H E W bs R ED gu hr te h fh => ?_
  · obtain ⟨f, ss, d, rfl, hd, hl, hs, q⟩ := h
    rfl
  · obtain ⟨f, ss, d, rfl, hd, hl, hs, q⟩ := h
    exact pur_none (by simp [B.own])
  · obtain ⟨f, ss, d, rfl, hd, hl, hs, q⟩ := h
    have nd := sc_are_settled.nd
    have hu := hr.units
    refine ⟨_, (dss_cons (ds_if (DW.dt (dw_or (dt_not (dt_val (he := fun _ => rfl) (de_callB call_isT (rc_isT (K := K)) rfl m_isinstance bt_isinstance (da_cons (de_v 1) (da_cons (de_tup (da_cons (de_ty m_list bt_list) (da_cons (de_ty m_tuple bt_tuple) da_nil))) da_nil))))) (dw_or1 (dt_cmp (op_neAll hu) rd_ne (de_lc rfl nd (di_any (de_v 1)) (own := [("mode", 2)]) (blkOk_by (by kernel_rfl)) (fun _ _ _ _ _ _ => (dgc_name (i := 2) (by decide) nd rfl (by first | exact Or.inl rfl | exact Or.inr rfl))) (fun _ _ _ _ _ _ => (dts_one (dt_not (dt_val (he := fun _ => rfl) (de_c c_is_name gu hr (da_cons (de_v 2) da_nil)))))) (fun _ _ _ _ _ _ => (de_v 2))) (de_lst da_nil) rfl)))) (dss_one (ds_ret de_bl)) dss_nil) (dss_one (ds_ret (de_and (de_cmp op_notInAll rd_in (de_v 0) (de_v 1) rfl) (de_one (de_cmp (op_eqAll hu) rd_eq (de_lenSet rfl m_len m_set (de_v 1)) (de_callB cr_lenAll rc_len rfl m_len bt_len (da_cons (de_v 1) da_nil)) rfl)))))), ?_⟩
    have fl : (ss.map D.str).filter (fun d => !isNm d) = [] := by
      rw [List.filter_eq_nil_iff]
      intro d hd'
      obtain ⟨x, hx, rfl⟩ := List.mem_map.mp hd'
      rw [(hs x hx).1]
      exact Bool.false_ne_true
    have dn : eqD (.lst []) (.lst []) = some true := by decide +kernel
    rcases hd with rfl | rfl
    · refine dseq ?_
      simp only [startD, List.map_cons, List.map_nil, List.length_cons, List.length_nil, Nat.reduceAdd, Nat.reduceSub, List.replicate, List.cons_append, List.nil_append, dSet, dIfS, dT, dOp, dCB, dCons, dNil, dV, dM, dC, dp, dNext, dRet, dRetN, dLst, dTup, dDrop, dNot, dAnd, dOr, dAndV, dOrV, dNotV, intG, intG0, lenG, lenD, ixG, itemD, intCG, intOf, maxG, List.getElem?_cons_zero, List.getElem?_cons_succ, List.set_cons_zero, List.set_cons_succ, Option.some.injEq, B.isU, B.d, B.rd, exists_eq_left', exists_eq_left, exists_and_left, true_and, and_true, B.p.injEq, DD.D.bl.injEq, DD.D.int.injEq, List.cons.injEq, DD.PC, decide_eq_true_eq, and_assoc, Option.map_some, dLc, iAny, walked, wipeE, gN, dCall, dCallP, dCallF, eqG, neG, Bool.not_true, Bool.not_false, if_true, if_false, Bool.false_eq_true, reduceIte, List.append_nil, dCBK, addG, dM1, gT, gsCons, gsNil, iEnumD, dAsP, iR1, dPart, dNo, dSl, freB, lstD, List.all_cons, List.all_nil, litD, Bool.and_self, dReprPair, dDctN, itemD2, ixG2, keyD, lookD, strG2, dPar, bCons, bNil, dFor, List.zip_cons_cons, List.zip_nil_right, List.foldl_cons, List.foldl_nil, dApp, B.o.injEq, DD.D.lst.injEq, DD.D.tup.injEq, exists_eq', dDct0, B.u.injEq, sizeLine_eq, Nat.reduceLeDiff, Nat.reduceLT, Nat.zero_le, true_implies, slG, List.length_map, tupleG, seqD, listG, iR2, List.length_take, List.length_drop, List.length_append, DD.D.str.injEq, mulG, dAsg, dFld, lookF, dSetF, setF, dProp, dMeth, dMake, dMakeK, cxOf_K, dChain, notNG, isNG, isNon_non, isNon_bl, isNon_int, isNon_str, isNon_lst, isNon_tup, isNon_dct, isNon_ins, isNon_exc, dXv, reprG, DD.D.ins.injEq, DD.D.exc.injEq, cmpIG, neIG, clsD, Option.bind_some, B.s.injEq, if_true, if_false, dNeg, dLenSet, dIndex, dClrE, dAppE, dCallK, eqKG, sortedSG, isT_LT (show dat (.lst (ss.map D.str)) = true from rfl), isLst, isTup, Bool.true_or]
      refine lcL_map (fun d => !isNm d) (fun d => d) (fun d => [some (.p (.str f)), some (.p (.lst (ss.map D.str))), some (.p d)]) (fun d => [some (.p (.str f)), some (.p (.lst (ss.map D.str))), some (.p d)]) (fun d hd' Y N y n => ?_) (fun d hd' => ⟨rfl, rfl⟩) (by rw [sizeLine_eq, List.length_nil, List.length_map]; omega) ?_
      · obtain ⟨x, hx, rfl⟩ := List.mem_map.mp hd'
        simp only [startD, List.map_cons, List.map_nil, List.length_cons, List.length_nil, Nat.reduceAdd, Nat.reduceSub, List.replicate, List.cons_append, List.nil_append, dSet, dIfS, dT, dOp, dCB, dCons, dNil, dV, dM, dC, dp, dNext, dRet, dRetN, dLst, dTup, dDrop, dNot, dAnd, dOr, dAndV, dOrV, dNotV, intG, intG0, lenG, lenD, ixG, itemD, intCG, intOf, maxG, List.getElem?_cons_zero, List.getElem?_cons_succ, List.set_cons_zero, List.set_cons_succ, Option.some.injEq, B.isU, B.d, B.rd, exists_eq_left', exists_eq_left, exists_and_left, true_and, and_true, B.p.injEq, DD.D.bl.injEq, DD.D.int.injEq, List.cons.injEq, DD.PC, decide_eq_true_eq, and_assoc, Option.map_some, dLc, iAny, walked, wipeE, gN, dCall, dCallP, dCallF, eqG, neG, Bool.not_true, Bool.not_false, if_true, if_false, Bool.false_eq_true, reduceIte, List.append_nil, dCBK, addG, dM1, gT, gsCons, gsNil, iEnumD, dAsP, iR1, dPart, dNo, dSl, freB, lstD, List.all_cons, List.all_nil, litD, Bool.and_self, dReprPair, dDctN, itemD2, ixG2, keyD, lookD, strG2, dPar, bCons, bNil, dFor, List.zip_cons_cons, List.zip_nil_right, List.foldl_cons, List.foldl_nil, dApp, B.o.injEq, DD.D.lst.injEq, DD.D.tup.injEq, exists_eq', dDct0, B.u.injEq, sizeLine_eq, Nat.reduceLeDiff, Nat.reduceLT, Nat.zero_le, true_implies, slG, List.length_map, tupleG, seqD, listG, iR2, List.length_take, List.length_drop, List.length_append, DD.D.str.injEq, mulG, dAsg, dFld, lookF, dSetF, setF, dProp, dMeth, dMake, dMakeK, cxOf_K, dChain, notNG, isNG, isNon_non, isNon_bl, isNon_int, isNon_str, isNon_lst, isNon_tup, isNon_dct, isNon_ins, isNon_exc, dXv, reprG, DD.D.ins.injEq, DD.D.exc.injEq, cmpIG, neIG, clsD, Option.bind_some, B.s.injEq, if_true, if_false, dNeg, dLenSet, dIndex, dClrE, dAppE, dCallK, eqKG, sortedSG]
        refine ⟨.str x, rfl, (hs x hx).2, rfl, _, rfl, ?_⟩
        exact ite2 y fun z => n (by simpa using z)
      · simp only [startD, List.map_cons, List.map_nil, List.length_cons, List.length_nil, Nat.reduceAdd, Nat.reduceSub, List.replicate, List.cons_append, List.nil_append, dSet, dIfS, dT, dOp, dCB, dCons, dNil, dV, dM, dC, dp, dNext, dRet, dRetN, dLst, dTup, dDrop, dNot, dAnd, dOr, dAndV, dOrV, dNotV, intG, intG0, lenG, lenD, ixG, itemD, intCG, intOf, maxG, List.getElem?_cons_zero, List.getElem?_cons_succ, List.set_cons_zero, List.set_cons_succ, Option.some.injEq, B.isU, B.d, B.rd, exists_eq_left', exists_eq_left, exists_and_left, true_and, and_true, B.p.injEq, DD.D.bl.injEq, DD.D.int.injEq, List.cons.injEq, DD.PC, decide_eq_true_eq, and_assoc, Option.map_some, dLc, iAny, walked, wipeE, gN, dCall, dCallP, dCallF, eqG, neG, Bool.not_true, Bool.not_false, if_true, if_false, Bool.false_eq_true, reduceIte, List.append_nil, dCBK, addG, dM1, gT, gsCons, gsNil, iEnumD, dAsP, iR1, dPart, dNo, dSl, freB, lstD, List.all_cons, List.all_nil, litD, Bool.and_self, dReprPair, dDctN, itemD2, ixG2, keyD, lookD, strG2, dPar, bCons, bNil, dFor, List.zip_cons_cons, List.zip_nil_right, List.foldl_cons, List.foldl_nil, dApp, B.o.injEq, DD.D.lst.injEq, DD.D.tup.injEq, exists_eq', dDct0, B.u.injEq, sizeLine_eq, Nat.reduceLeDiff, Nat.reduceLT, Nat.zero_le, true_implies, slG, List.length_map, tupleG, seqD, listG, iR2, List.length_take, List.length_drop, List.length_append, DD.D.str.injEq, mulG, dAsg, dFld, lookF, dSetF, setF, dProp, dMeth, dMake, dMakeK, cxOf_K, dChain, notNG, isNG, isNon_non, isNon_bl, isNon_int, isNon_str, isNon_lst, isNon_tup, isNon_dct, isNon_ins, isNon_exc, dXv, reprG, DD.D.ins.injEq, DD.D.exc.injEq, cmpIG, neIG, clsD, Option.bind_some, B.s.injEq, if_true, if_false, dNeg, dLenSet, dIndex, dClrE, dAppE, dCallK, eqKG, sortedSG, fl, dn, List.map_nil, List.nil_append, inG, isIn_strsL]
        revert q
        cases decide (f ∈ ss)
        · exact fun q => ⟨ss, rfl, hl, true, eqD_int.trans (by rw [decide_eq_true rfl]), 0, q⟩
        · exact fun q => ⟨0, q⟩
    · refine dseq ?_
      simp only [startD, List.map_cons, List.map_nil, List.length_cons, List.length_nil, Nat.reduceAdd, Nat.reduceSub, List.replicate, List.cons_append, List.nil_append, dSet, dIfS, dT, dOp, dCB, dCons, dNil, dV, dM, dC, dp, dNext, dRet, dRetN, dLst, dTup, dDrop, dNot, dAnd, dOr, dAndV, dOrV, dNotV, intG, intG0, lenG, lenD, ixG, itemD, intCG, intOf, maxG, List.getElem?_cons_zero, List.getElem?_cons_succ, List.set_cons_zero, List.set_cons_succ, Option.some.injEq, B.isU, B.d, B.rd, exists_eq_left', exists_eq_left, exists_and_left, true_and, and_true, B.p.injEq, DD.D.bl.injEq, DD.D.int.injEq, List.cons.injEq, DD.PC, decide_eq_true_eq, and_assoc, Option.map_some, dLc, iAny, walked, wipeE, gN, dCall, dCallP, dCallF, eqG, neG, Bool.not_true, Bool.not_false, if_true, if_false, Bool.false_eq_true, reduceIte, List.append_nil, dCBK, addG, dM1, gT, gsCons, gsNil, iEnumD, dAsP, iR1, dPart, dNo, dSl, freB, lstD, List.all_cons, List.all_nil, litD, Bool.and_self, dReprPair, dDctN, itemD2, ixG2, keyD, lookD, strG2, dPar, bCons, bNil, dFor, List.zip_cons_cons, List.zip_nil_right, List.foldl_cons, List.foldl_nil, dApp, B.o.injEq, DD.D.lst.injEq, DD.D.tup.injEq, exists_eq', dDct0, B.u.injEq, sizeLine_eq, Nat.reduceLeDiff, Nat.reduceLT, Nat.zero_le, true_implies, slG, List.length_map, tupleG, seqD, listG, iR2, List.length_take, List.length_drop, List.length_append, DD.D.str.injEq, mulG, dAsg, dFld, lookF, dSetF, setF, dProp, dMeth, dMake, dMakeK, cxOf_K, dChain, notNG, isNG, isNon_non, isNon_bl, isNon_int, isNon_str, isNon_lst, isNon_tup, isNon_dct, isNon_ins, isNon_exc, dXv, reprG, DD.D.ins.injEq, DD.D.exc.injEq, cmpIG, neIG, clsD, Option.bind_some, B.s.injEq, if_true, if_false, dNeg, dLenSet, dIndex, dClrE, dAppE, dCallK, eqKG, sortedSG, isT_LT (show dat (.tup (ss.map D.str)) = true from rfl), isLst, isTup, Bool.false_or]
      refine lcL_map (fun d => !isNm d) (fun d => d) (fun d => [some (.p (.str f)), some (.p (.tup (ss.map D.str))), some (.p d)]) (fun d => [some (.p (.str f)), some (.p (.tup (ss.map D.str))), some (.p d)]) (fun d hd' Y N y n => ?_) (fun d hd' => ⟨rfl, rfl⟩) (by rw [sizeLine_eq, List.length_nil, List.length_map]; omega) ?_
      · obtain ⟨x, hx, rfl⟩ := List.mem_map.mp hd'
        simp only [startD, List.map_cons, List.map_nil, List.length_cons, List.length_nil, Nat.reduceAdd, Nat.reduceSub, List.replicate, List.cons_append, List.nil_append, dSet, dIfS, dT, dOp, dCB, dCons, dNil, dV, dM, dC, dp, dNext, dRet, dRetN, dLst, dTup, dDrop, dNot, dAnd, dOr, dAndV, dOrV, dNotV, intG, intG0, lenG, lenD, ixG, itemD, intCG, intOf, maxG, List.getElem?_cons_zero, List.getElem?_cons_succ, List.set_cons_zero, List.set_cons_succ, Option.some.injEq, B.isU, B.d, B.rd, exists_eq_left', exists_eq_left, exists_and_left, true_and, and_true, B.p.injEq, DD.D.bl.injEq, DD.D.int.injEq, List.cons.injEq, DD.PC, decide_eq_true_eq, and_assoc, Option.map_some, dLc, iAny, walked, wipeE, gN, dCall, dCallP, dCallF, eqG, neG, Bool.not_true, Bool.not_false, if_true, if_false, Bool.false_eq_true, reduceIte, List.append_nil, dCBK, addG, dM1, gT, gsCons, gsNil, iEnumD, dAsP, iR1, dPart, dNo, dSl, freB, lstD, List.all_cons, List.all_nil, litD, Bool.and_self, dReprPair, dDctN, itemD2, ixG2, keyD, lookD, strG2, dPar, bCons, bNil, dFor, List.zip_cons_cons, List.zip_nil_right, List.foldl_cons, List.foldl_nil, dApp, B.o.injEq, DD.D.lst.injEq, DD.D.tup.injEq, exists_eq', dDct0, B.u.injEq, sizeLine_eq, Nat.reduceLeDiff, Nat.reduceLT, Nat.zero_le, true_implies, slG, List.length_map, tupleG, seqD, listG, iR2, List.length_take, List.length_drop, List.length_append, DD.D.str.injEq, mulG, dAsg, dFld, lookF, dSetF, setF, dProp, dMeth, dMake, dMakeK, cxOf_K, dChain, notNG, isNG, isNon_non, isNon_bl, isNon_int, isNon_str, isNon_lst, isNon_tup, isNon_dct, isNon_ins, isNon_exc, dXv, reprG, DD.D.ins.injEq, DD.D.exc.injEq, cmpIG, neIG, clsD, Option.bind_some, B.s.injEq, if_true, if_false, dNeg, dLenSet, dIndex, dClrE, dAppE, dCallK, eqKG, sortedSG]
        refine ⟨.str x, rfl, (hs x hx).2, rfl, _, rfl, ?_⟩
        exact ite2 y fun z => n (by simpa using z)
      · simp only [startD, List.map_cons, List.map_nil, List.length_cons, List.length_nil, Nat.reduceAdd, Nat.reduceSub, List.replicate, List.cons_append, List.nil_append, dSet, dIfS, dT, dOp, dCB, dCons, dNil, dV, dM, dC, dp, dNext, dRet, dRetN, dLst, dTup, dDrop, dNot, dAnd, dOr, dAndV, dOrV, dNotV, intG, intG0, lenG, lenD, ixG, itemD, intCG, intOf, maxG, List.getElem?_cons_zero, List.getElem?_cons_succ, List.set_cons_zero, List.set_cons_succ, Option.some.injEq, B.isU, B.d, B.rd, exists_eq_left', exists_eq_left, exists_and_left, true_and, and_true, B.p.injEq, DD.D.bl.injEq, DD.D.int.injEq, List.cons.injEq, DD.PC, decide_eq_true_eq, and_assoc, Option.map_some, dLc, iAny, walked, wipeE, gN, dCall, dCallP, dCallF, eqG, neG, Bool.not_true, Bool.not_false, if_true, if_false, Bool.false_eq_true, reduceIte, List.append_nil, dCBK, addG, dM1, gT, gsCons, gsNil, iEnumD, dAsP, iR1, dPart, dNo, dSl, freB, lstD, List.all_cons, List.all_nil, litD, Bool.and_self, dReprPair, dDctN, itemD2, ixG2, keyD, lookD, strG2, dPar, bCons, bNil, dFor, List.zip_cons_cons, List.zip_nil_right, List.foldl_cons, List.foldl_nil, dApp, B.o.injEq, DD.D.lst.injEq, DD.D.tup.injEq, exists_eq', dDct0, B.u.injEq, sizeLine_eq, Nat.reduceLeDiff, Nat.reduceLT, Nat.zero_le, true_implies, slG, List.length_map, tupleG, seqD, listG, iR2, List.length_take, List.length_drop, List.length_append, DD.D.str.injEq, mulG, dAsg, dFld, lookF, dSetF, setF, dProp, dMeth, dMake, dMakeK, cxOf_K, dChain, notNG, isNG, isNon_non, isNon_bl, isNon_int, isNon_str, isNon_lst, isNon_tup, isNon_dct, isNon_ins, isNon_exc, dXv, reprG, DD.D.ins.injEq, DD.D.exc.injEq, cmpIG, neIG, clsD, Option.bind_some, B.s.injEq, if_true, if_false, dNeg, dLenSet, dIndex, dClrE, dAppE, dCallK, eqKG, sortedSG, fl, dn, List.map_nil, List.nil_append, inG, isIn_strs]
        revert q
        cases decide (f ∈ ss)
        · exact fun q => ⟨ss, rfl, hl, true, eqD_int.trans (by rw [decide_eq_true rfl]), 0, q⟩
        · exact fun q => ⟨0, q⟩
end
end K

set_option Elab.async false
set_option linter.all false
set_option maxRecDepth 100000
set_option maxHeartbeats 8000000
namespace K
open PySem PySem.Spec PyProof.Rows L2 DD
section
variable {P : Program} {w : World} {K : PySem.W.Frag} {mg : Str → Option Value} {base : Heap}

/-- rules that a side may have -/
def RowsOk (aR : Addr) (sd : Str) (rs : List D) : Prop := ∀ r ∈ rs, ∃ m h w t v s, r = rowD aR m h w t v s ∧ (isNon h = true ∨ isStr h = true) ∧ fitS sd h w v s = true
def sides : List Str := ["caller", "host"]
def roleD (aRo : Addr) (sd f : Str) (rs : List D) (ss : List Str) : D := .ins aRo ["ends", "table", "calm"] [.tup [.str sd, .str f], .tup rs, .tup (ss.map D.str)]

abbrev s_are_parts : Stmt := topS 27
theorem sc_are_parts : FnScope ["side", "first", "rules", "settled", "rule"] ["side", "first", "rules", "settled"] (defScope s_are_parts) := ⟨rfl, rfl, rfl, by decide +kernel, rfl, by decide +kernel, by decide +kernel⟩
def spd_are_parts (aR : Addr) : Spd := fun bs R _ => ∃ (sd f : Str) (rs : List D) (ss : List Str) (d' : D), bs = [.p (.str sd), .p (.str f), .p (.lst rs), .p d'] ∧ sd ∈ sides ∧ isNm (.str f) = true ∧ Dat (.str f) ∧ rs.length ≤ 1000 ∧ RowsOk aR sd rs ∧ (d' = .lst (ss.map D.str) ∨ d' = .tup (ss.map D.str)) ∧ ss.length ≤ 1 ∧ (∀ s ∈ ss, isNm (.str s) = true ∧ Dat (.str s)) ∧ R (.p (.bl (!decide (f ∈ ss)))) 0
theorem cal_are_parts (Da : DefAt K mg "are_parts" s_are_parts) {a_Rule : Addr} (c_is_word : Cal P w K mg base "is_word" 1 ["value", "words"] spd_is_word) (c_is_name : Cal P w K mg base "is_name" 1 ["value"] spd_is_name) (c_fits_side : Cal P w K mg base "fits_side" 4 ["rule", "side"] (spd_fits_side a_Rule)) (c_are_settled : Cal P w K mg base "are_settled" 2 ["first", "settled"] spd_are_settled) (c_SIDES : ConAt K mg "SIDES" (.tup (sides.map D.str))) (c_Rule : ConAt K mg "Rule" (.ref a_Rule)) (m_isinstance : mg "isinstance" = none) (m_list : mg "list" = none) (io : InsOk K a_Rule) : Cal P w K mg base "are_parts" 5 ["side", "first", "rules", "settled"] (spd_are_parts a_Rule) := by
  refine cal_mk none Da sc_are_parts (fun _ _ _ _ _ _ us hl => match us, hl with | [_, _, _, _], _ => rfl) (fun bs R E h => ?_) (fun bs R E h => ?_) fun f cdv A outer s H E W bs R ED gu hr te h fh => ?_
  · obtain ⟨sd, f, rs, ss, d', rfl, h1, h2, h3, hl, h4, h5, h6, h7, q⟩ := h
    rfl
  · obtain ⟨sd, f, rs, ss, d', rfl, h1, h2, h3, hl, h4, h5, h6, h7, q⟩ := h
    exact pur_none (by simp [B.own])
  · obtain ⟨sd, f, rs, ss, d', rfl, h1, h2, h3, hl, h4, h5, h6, h7, q⟩ := h
    have nd := sc_are_parts.nd
    have hu := hr.units
    refine ⟨_, (dss_cons (ds_if (DW.dt (dw_or (dt_not (dt_val (he := fun _ => rfl) (de_c c_is_word gu hr (da_cons (de_v 0) (da_cons (de_con c_SIDES) da_nil))))) (dw_or (dt_not (dt_val (he := fun _ => rfl) (de_c c_is_name gu hr (da_cons (de_v 1) da_nil)))) (dw_or1 (dt_not (dt_val (he := fun _ => rfl) (de_callB call_isZ (rc_isa (K := K)) rfl m_isinstance bt_isinstance (da_cons (de_v 2) (da_cons (de_ty m_list bt_list) da_nil))))))))) (dss_one (ds_ret de_bl)) dss_nil) (dss_cons (ds_if (dt_cmp (op_neAll hu) rd_ne (de_lc rfl nd (di_any (de_v 2)) (own := [("rule", 4)]) (blkOk_by (by kernel_rfl)) (fun _ _ _ _ _ _ => (dgc_name (i := 4) (by decide) nd rfl (by first | exact Or.inl rfl | exact Or.inr rfl))) (fun _ _ _ _ _ _ => (dts_one (DW.dt (dw_or (dt_not (dt_val (he := fun _ => rfl) (de_callB call_isZ (rc_isa (K := K)) rfl m_isinstance bt_isinstance (da_cons (de_v 4) (da_cons (de_con c_Rule) da_nil))))) (dw_or1 (dt_not (dt_val (he := fun _ => rfl) (de_c c_fits_side gu hr (da_cons (de_v 4) (da_cons (de_v 0) da_nil)))))))))) (fun _ _ _ _ _ _ => (de_v 4))) (de_lst da_nil) rfl) (dss_one (ds_ret de_bl)) dss_nil) (dss_one (ds_ret (de_c c_are_settled gu hr (da_cons (de_v 1) (da_cons (de_v 3) da_nil))))))), ?_⟩
    have ws : isWd sides (.str sd) = true := decide_eq_true h1
    have dn : eqD (.lst []) (.lst []) = some true := by decide +kernel
    refine dseq ?_
    simp only [startD, List.map_cons, List.map_nil, List.length_cons, List.length_nil, Nat.reduceAdd, Nat.reduceSub, List.replicate, List.cons_append, List.nil_append, dSet, dIfS, dT, dOp, dCB, dCons, dNil, dV, dM, dC, dp, dNext, dRet, dRetN, dLst, dTup, dDrop, dNot, dAnd, dOr, dAndV, dOrV, dNotV, intG, intG0, lenG, lenD, ixG, itemD, intCG, intOf, maxG, List.getElem?_cons_zero, List.getElem?_cons_succ, List.set_cons_zero, List.set_cons_succ, Option.some.injEq, B.isU, B.d, B.rd, exists_eq_left', exists_eq_left, exists_and_left, true_and, and_true, B.p.injEq, DD.D.bl.injEq, DD.D.int.injEq, List.cons.injEq, DD.PC, decide_eq_true_eq, and_assoc, Option.map_some, dLc, iAny, walked, wipeE, gN, dCall, dCallP, dCallF, eqG, neG, Bool.not_true, Bool.not_false, if_true, if_false, Bool.false_eq_true, reduceIte, List.append_nil, dCBK, addG, dM1, gT, gsCons, gsNil, iEnumD, dAsP, iR1, dPart, dNo, dSl, freB, lstD, List.all_cons, List.all_nil, litD, Bool.and_self, dReprPair, dDctN, itemD2, ixG2, keyD, lookD, strG2, dPar, bCons, bNil, dFor, List.zip_cons_cons, List.zip_nil_right, List.foldl_cons, List.foldl_nil, dApp, B.o.injEq, DD.D.lst.injEq, DD.D.tup.injEq, exists_eq', dDct0, B.u.injEq, sizeLine_eq, Nat.reduceLeDiff, Nat.reduceLT, Nat.zero_le, true_implies, slG, List.length_map, tupleG, seqD, listG, iR2, List.length_take, List.length_drop, List.length_append, DD.D.str.injEq, mulG, dAsg, dFld, lookF, dSetF, setF, dProp, dMeth, dMake, dMakeK, cxOf_K, dChain, notNG, isNG, isNon_non, isNon_bl, isNon_int, isNon_str, isNon_lst, isNon_tup, isNon_dct, isNon_ins, isNon_exc, dXv, reprG, DD.D.ins.injEq, DD.D.exc.injEq, cmpIG, neIG, clsD, Option.bind_some, B.s.injEq, if_true, if_false, dNeg, dLenSet, dIndex, dClrE, dAppE, dCallK, eqKG, sortedSG]
    refine ⟨_, sides, rfl, rfl, rfl, _, rfl, ?_⟩
    rw [ws]
    refine iteF ⟨_, rfl, h3, rfl, _, rfl, ?_⟩
    rw [h2]
    refine iteF ?_
    simp only [isa_Lst (show dat (.lst rs) = true from rfl), isLst]
    refine ⟨_, rfl, iteF (dseq ?_)⟩
    simp only [startD, List.map_cons, List.map_nil, List.length_cons, List.length_nil, Nat.reduceAdd, Nat.reduceSub, List.replicate, List.cons_append, List.nil_append, dSet, dIfS, dT, dOp, dCB, dCons, dNil, dV, dM, dC, dp, dNext, dRet, dRetN, dLst, dTup, dDrop, dNot, dAnd, dOr, dAndV, dOrV, dNotV, intG, intG0, lenG, lenD, ixG, itemD, intCG, intOf, maxG, List.getElem?_cons_zero, List.getElem?_cons_succ, List.set_cons_zero, List.set_cons_succ, Option.some.injEq, B.isU, B.d, B.rd, exists_eq_left', exists_eq_left, exists_and_left, true_and, and_true, B.p.injEq, DD.D.bl.injEq, DD.D.int.injEq, List.cons.injEq, DD.PC, decide_eq_true_eq, and_assoc, Option.map_some, dLc, iAny, walked, wipeE, gN, dCall, dCallP, dCallF, eqG, neG, Bool.not_true, Bool.not_false, if_true, if_false, Bool.false_eq_true, reduceIte, List.append_nil, dCBK, addG, dM1, gT, gsCons, gsNil, iEnumD, dAsP, iR1, dPart, dNo, dSl, freB, lstD, List.all_cons, List.all_nil, litD, Bool.and_self, dReprPair, dDctN, itemD2, ixG2, keyD, lookD, strG2, dPar, bCons, bNil, dFor, List.zip_cons_cons, List.zip_nil_right, List.foldl_cons, List.foldl_nil, dApp, B.o.injEq, DD.D.lst.injEq, DD.D.tup.injEq, exists_eq', dDct0, B.u.injEq, sizeLine_eq, Nat.reduceLeDiff, Nat.reduceLT, Nat.zero_le, true_implies, slG, List.length_map, tupleG, seqD, listG, iR2, List.length_take, List.length_drop, List.length_append, DD.D.str.injEq, mulG, dAsg, dFld, lookF, dSetF, setF, dProp, dMeth, dMake, dMakeK, cxOf_K, dChain, notNG, isNG, isNon_non, isNon_bl, isNon_int, isNon_str, isNon_lst, isNon_tup, isNon_dct, isNon_ins, isNon_exc, dXv, reprG, DD.D.ins.injEq, DD.D.exc.injEq, cmpIG, neIG, clsD, Option.bind_some, B.s.injEq, if_true, if_false, dNeg, dLenSet, dIndex, dClrE, dAppE, dCallK, eqKG, sortedSG]
    have fl : rs.filter (fun _ => false) = [] := by
      rw [List.filter_eq_nil_iff]
      exact fun _ _ => Bool.false_ne_true
    refine lcL_map (fun _ => false) (fun d => d) (fun d => [some (.p (.str sd)), some (.p (.str f)), some (.p (.lst rs)), some (.p d'), some (.p d)]) (fun d => [some (.p (.str sd)), some (.p (.str f)), some (.p (.lst rs)), some (.p d'), some (.p d)]) (fun r hr' Y N y n => ?_) (fun r hr' => ⟨rfl, rfl⟩) (by rw [sizeLine_eq, List.length_nil]; omega) ?_
    · obtain ⟨m, h, w, t, v, s, rfl, hh, hf⟩ := h4 r hr'
      simp only [startD, List.map_cons, List.map_nil, List.length_cons, List.length_nil, Nat.reduceAdd, Nat.reduceSub, List.replicate, List.cons_append, List.nil_append, dSet, dIfS, dT, dOp, dCB, dCons, dNil, dV, dM, dC, dp, dNext, dRet, dRetN, dLst, dTup, dDrop, dNot, dAnd, dOr, dAndV, dOrV, dNotV, intG, intG0, lenG, lenD, ixG, itemD, intCG, intOf, maxG, List.getElem?_cons_zero, List.getElem?_cons_succ, List.set_cons_zero, List.set_cons_succ, Option.some.injEq, B.isU, B.d, B.rd, exists_eq_left', exists_eq_left, exists_and_left, true_and, and_true, B.p.injEq, DD.D.bl.injEq, DD.D.int.injEq, List.cons.injEq, DD.PC, decide_eq_true_eq, and_assoc, Option.map_some, dLc, iAny, walked, wipeE, gN, dCall, dCallP, dCallF, eqG, neG, Bool.not_true, Bool.not_false, if_true, if_false, Bool.false_eq_true, reduceIte, List.append_nil, dCBK, addG, dM1, gT, gsCons, gsNil, iEnumD, dAsP, iR1, dPart, dNo, dSl, freB, lstD, List.all_cons, List.all_nil, litD, Bool.and_self, dReprPair, dDctN, itemD2, ixG2, keyD, lookD, strG2, dPar, bCons, bNil, dFor, List.zip_cons_cons, List.zip_nil_right, List.foldl_cons, List.foldl_nil, dApp, B.o.injEq, DD.D.lst.injEq, DD.D.tup.injEq, exists_eq', dDct0, B.u.injEq, sizeLine_eq, Nat.reduceLeDiff, Nat.reduceLT, Nat.zero_le, true_implies, slG, List.length_map, tupleG, seqD, listG, iR2, List.length_take, List.length_drop, List.length_append, DD.D.str.injEq, mulG, dAsg, dFld, lookF, dSetF, setF, dProp, dMeth, dMake, dMakeK, cxOf_K, dChain, notNG, isNG, isNon_non, isNon_bl, isNon_int, isNon_str, isNon_lst, isNon_tup, isNon_dct, isNon_ins, isNon_exc, dXv, reprG, DD.D.ins.injEq, DD.D.exc.injEq, cmpIG, neIG, clsD, Option.bind_some, B.s.injEq, if_true, if_false, dNeg, dLenSet, dIndex, dClrE, dAppE, dCallK, eqKG, sortedSG, rowD, isa_ins io kitOne_self]
      refine ⟨m, h, w, t, v, s, sd, rfl, hh, rfl, _, rfl, ?_⟩
      rw [hf]
      exact iteF (n rfl)
    · simp only [startD, List.map_cons, List.map_nil, List.length_cons, List.length_nil, Nat.reduceAdd, Nat.reduceSub, List.replicate, List.cons_append, List.nil_append, dSet, dIfS, dT, dOp, dCB, dCons, dNil, dV, dM, dC, dp, dNext, dRet, dRetN, dLst, dTup, dDrop, dNot, dAnd, dOr, dAndV, dOrV, dNotV, intG, intG0, lenG, lenD, ixG, itemD, intCG, intOf, maxG, List.getElem?_cons_zero, List.getElem?_cons_succ, List.set_cons_zero, List.set_cons_succ, Option.some.injEq, B.isU, B.d, B.rd, exists_eq_left', exists_eq_left, exists_and_left, true_and, and_true, B.p.injEq, DD.D.bl.injEq, DD.D.int.injEq, List.cons.injEq, DD.PC, decide_eq_true_eq, and_assoc, Option.map_some, dLc, iAny, walked, wipeE, gN, dCall, dCallP, dCallF, eqG, neG, Bool.not_true, Bool.not_false, if_true, if_false, Bool.false_eq_true, reduceIte, List.append_nil, dCBK, addG, dM1, gT, gsCons, gsNil, iEnumD, dAsP, iR1, dPart, dNo, dSl, freB, lstD, List.all_cons, List.all_nil, litD, Bool.and_self, dReprPair, dDctN, itemD2, ixG2, keyD, lookD, strG2, dPar, bCons, bNil, dFor, List.zip_cons_cons, List.zip_nil_right, List.foldl_cons, List.foldl_nil, dApp, B.o.injEq, DD.D.lst.injEq, DD.D.tup.injEq, exists_eq', dDct0, B.u.injEq, sizeLine_eq, Nat.reduceLeDiff, Nat.reduceLT, Nat.zero_le, true_implies, slG, List.length_map, tupleG, seqD, listG, iR2, List.length_take, List.length_drop, List.length_append, DD.D.str.injEq, mulG, dAsg, dFld, lookF, dSetF, setF, dProp, dMeth, dMake, dMakeK, cxOf_K, dChain, notNG, isNG, isNon_non, isNon_bl, isNon_int, isNon_str, isNon_lst, isNon_tup, isNon_dct, isNon_ins, isNon_exc, dXv, reprG, DD.D.ins.injEq, DD.D.exc.injEq, cmpIG, neIG, clsD, Option.bind_some, B.s.injEq, if_true, if_false, dNeg, dLenSet, dIndex, dClrE, dAppE, dCallK, eqKG, sortedSG, fl, dn, List.map_nil, List.nil_append]
      exact ⟨f, ss, d', rfl, h5, h6, h7, rfl, rfl, 0, q⟩
end
end K

set_option Elab.async false
set_option linter.all false
set_option maxRecDepth 100000
set_option maxHeartbeats 8000000
namespace K
open PySem PySem.Spec PyProof.Rows L2 DD
section
variable {P : Program} {w : World} {K : PySem.W.Frag} {mg : Str → Option Value} {base : Heap}

theorem perm_one {xs ys : List Str} (h : xs.length ≤ 1) (p : ys.Perm xs) : ys = xs := by
  match xs, h with
  | [], _ => exact List.Perm.eq_nil p
  | [x], _ => exact List.perm_singleton.mp p

variable {eT : Addr}
abbrev s_Role___init__ : Stmt := memS (topS 28) 0
theorem sc_Role___init__ : FnScope ["self", "side", "first", "rules", "settled", "mode"] ["self", "side", "first", "rules", "settled"] (defScope s_Role___init__) := ⟨rfl, rfl, rfl, by decide +kernel, rfl, by decide +kernel, by decide +kernel⟩
def spi_Role (aRo aR aI : Addr) : SpdS := fun d0 ds R E => ∃ (C : Addr) (sd f : Str) (rs : List D) (ss : List Str) (d' : D), d0 = .ins C [] [] ∧ C = aRo ∧ ds = [.str sd, .str f, .lst rs, d'] ∧ sd ∈ sides ∧ isNm (.str f) = true ∧ Dat (.str f) ∧ rs ≠ [] ∧ rs.length ≤ 1000 ∧ RowsOk aR sd rs ∧ (d' = .lst (ss.map D.str) ∨ d' = .tup (ss.map D.str)) ∧ ss.length ≤ 1 ∧ (∀ s ∈ ss, isNm (.str s) = true ∧ Dat (.str s)) ∧ f ∉ ss ∧ R (.p .non) (roleD C sd f rs ss)
theorem cal_Role {a_Role : Addr} (Da : InitAt K mg "Role" a_Role "Role.__init__" s_Role___init__ [V.ref eT] []) {a_Rule : Addr} (c_are_parts : Cal P w K mg base "are_parts" 5 ["side", "first", "rules", "settled"] (spd_are_parts a_Rule)) (fo_e : FldOk K a_Role "ends") (fo_t : FldOk K a_Role "table") (fo_c : FldOk K a_Role "calm") {aI fI : Addr} (o_InvalidRole : OwnX P K aI fI) (m_InvalidRole : mg "InvalidRole" = some (.ref aI)) (m_tuple : mg "tuple" = none) (m_sorted : mg "sorted" = none) (m_str : mg "str" = none) :
    ∃ f fd, GnOk P w K mg base 6 f fd ["self", "side", "first", "rules", "settled"] (toSpS K (spi_Role a_Role a_Rule aI)) ∧ Mk K a_Role f ∧ mg "Role" = some (.ref a_Role) ∧ FunD K "__init__" "Role.__init__" (defArgs s_Role___init__) (defBody s_Role___init__) (defScope s_Role___init__) [V.ref eT] [] f fd := by
  refine make_mk Da sc_Role___init__ (fun d0 ds R E h => ?_) fun f cdv A outer s H E W d0 ds R ED gu hr te h fh => ?_
  · obtain ⟨C, sd, f, rs, ss, d', rfl, rfl, rfl, h1, h2, h3, h0, hl, h4, h5, h6, h7, h8, q⟩ := h
    rfl
  · obtain ⟨C, sd, f, rs, ss, d', rfl, rfl, rfl, h1, h2, h3, h0, hl, h4, h5, h6, h7, h8, q⟩ := h
    have nd := sc_Role___init__.nd
    have hu := hr.units
    refine ⟨_, (dss_cons (ds_if (dt_not (dt_val (he := fun _ => rfl) (de_c c_are_parts gu hr (da_cons (de_v 1) (da_cons (de_v 2) (da_cons (de_v 3) (da_cons (de_v 4) da_nil))))))) (dss_one (ds_raise te o_InvalidRole rfl hr rfl m_InvalidRole (da_cons (de_tup (da_cons (de_v 1) (da_cons (de_v 2) (da_cons (de_v 3) (da_cons (de_v 4) da_nil))))) da_nil))) dss_nil) (dss_cons (ds_setF (i := 0) rfl (de_tup (da_cons (de_v 1) (da_cons (de_v 2) da_nil)))) (dss_cons (ds_setF (i := 0) rfl (de_callTy call_tuple_of rc_tuple rfl m_tuple bt_tuple (da_cons (de_v 3) da_nil))) (dss_one (ds_setF (i := 0) rfl (de_callTy call_tuple_of rc_tuple rfl m_tuple bt_tuple (da_cons (de_callB cr_sortedS rc_sortedS rfl m_sorted bt_sorted (da_cons (de_lc rfl nd (di_any (de_v 4)) (own := [("mode", 5)]) (blkOk_by (by kernel_rfl)) (fun _ _ _ _ _ _ => (dgc_name (i := 5) (by decide) nd rfl (by first | exact Or.inl rfl | exact Or.inr rfl))) (fun _ _ _ _ _ _ => dts_nil) (fun _ _ _ _ _ _ => (de_callTy call_str2 rc_str2 rfl m_str bt_str (da_cons (de_v 5) da_nil)))) da_nil)) da_nil))))))), ?_⟩
    refine dseq ?_
    simp only [startD, List.map_cons, List.map_nil, List.length_cons, List.length_nil, Nat.reduceAdd, Nat.reduceSub, List.replicate, List.cons_append, List.nil_append, dSet, dIfS, dT, dOp, dCB, dCons, dNil, dV, dM, dC, dp, dNext, dRet, dRetN, dLst, dTup, dDrop, dNot, dAnd, dOr, dAndV, dOrV, dNotV, intG, intG0, lenG, lenD, ixG, itemD, intCG, intOf, maxG, List.getElem?_cons_zero, List.getElem?_cons_succ, List.set_cons_zero, List.set_cons_succ, Option.some.injEq, B.isU, B.d, B.rd, exists_eq_left', exists_eq_left, exists_and_left, true_and, and_true, B.p.injEq, DD.D.bl.injEq, DD.D.int.injEq, List.cons.injEq, DD.PC, decide_eq_true_eq, and_assoc, Option.map_some, dLc, iAny, walked, wipeE, gN, dCall, dCallP, dCallF, eqG, neG, Bool.not_true, Bool.not_false, if_true, if_false, Bool.false_eq_true, reduceIte, List.append_nil, dCBK, addG, dM1, gT, gsCons, gsNil, iEnumD, dAsP, iR1, dPart, dNo, dSl, freB, lstD, List.all_cons, List.all_nil, litD, Bool.and_self, dReprPair, dDctN, itemD2, ixG2, keyD, lookD, strG2, dPar, bCons, bNil, dFor, List.zip_cons_cons, List.zip_nil_right, List.foldl_cons, List.foldl_nil, dApp, B.o.injEq, DD.D.lst.injEq, DD.D.tup.injEq, exists_eq', dDct0, B.u.injEq, sizeLine_eq, Nat.reduceLeDiff, Nat.reduceLT, Nat.zero_le, true_implies, slG, List.length_map, tupleG, seqD, listG, iR2, List.length_take, List.length_drop, List.length_append, DD.D.str.injEq, mulG, dAsg, dFld, lookF, dSetF, setF, dProp, dMeth, dMake, dMakeK, cxOf_K, dChain, notNG, isNG, isNon_non, isNon_bl, isNon_int, isNon_str, isNon_lst, isNon_tup, isNon_dct, isNon_ins, isNon_exc, dXv, reprG, DD.D.ins.injEq, DD.D.exc.injEq, cmpIG, neIG, clsD, Option.bind_some, B.s.injEq, if_true, if_false, dNeg, dLenSet, dIndex, dClrE, dAppE, dCallK, eqKG, sortedSG, dRaise]
    refine ⟨sd, f, rs, ss, d', rfl, h1, h2, h3, hl, h4, h5, h6, h7, ?_⟩
    rw [decide_eq_false h8]
    simp only [startD, List.map_cons, List.map_nil, List.length_cons, List.length_nil, Nat.reduceAdd, Nat.reduceSub, List.replicate, List.cons_append, List.nil_append, dSet, dIfS, dT, dOp, dCB, dCons, dNil, dV, dM, dC, dp, dNext, dRet, dRetN, dLst, dTup, dDrop, dNot, dAnd, dOr, dAndV, dOrV, dNotV, intG, intG0, lenG, lenD, ixG, itemD, intCG, intOf, maxG, List.getElem?_cons_zero, List.getElem?_cons_succ, List.set_cons_zero, List.set_cons_succ, Option.some.injEq, B.isU, B.d, B.rd, exists_eq_left', exists_eq_left, exists_and_left, true_and, and_true, B.p.injEq, DD.D.bl.injEq, DD.D.int.injEq, List.cons.injEq, DD.PC, decide_eq_true_eq, and_assoc, Option.map_some, dLc, iAny, walked, wipeE, gN, dCall, dCallP, dCallF, eqG, neG, Bool.not_true, Bool.not_false, if_true, if_false, Bool.false_eq_true, reduceIte, List.append_nil, dCBK, addG, dM1, gT, gsCons, gsNil, iEnumD, dAsP, iR1, dPart, dNo, dSl, freB, lstD, List.all_cons, List.all_nil, litD, Bool.and_self, dReprPair, dDctN, itemD2, ixG2, keyD, lookD, strG2, dPar, bCons, bNil, dFor, List.zip_cons_cons, List.zip_nil_right, List.foldl_cons, List.foldl_nil, dApp, B.o.injEq, DD.D.lst.injEq, DD.D.tup.injEq, exists_eq', dDct0, B.u.injEq, sizeLine_eq, Nat.reduceLeDiff, Nat.reduceLT, Nat.zero_le, true_implies, slG, List.length_map, tupleG, seqD, listG, iR2, List.length_take, List.length_drop, List.length_append, DD.D.str.injEq, mulG, dAsg, dFld, lookF, dSetF, setF, dProp, dMeth, dMake, dMakeK, cxOf_K, dChain, notNG, isNG, isNon_non, isNon_bl, isNon_int, isNon_str, isNon_lst, isNon_tup, isNon_dct, isNon_ins, isNon_exc, dXv, reprG, DD.D.ins.injEq, DD.D.exc.injEq, cmpIG, neIG, clsD, Option.bind_some, B.s.injEq, if_true, if_false, dNeg, dLenSet, dIndex, dClrE, dAppE, dCallK, eqKG, sortedSG]
    rcases h5 with rfl | rfl
    all_goals have n1 : (Str.ofString "ends" = Str.ofString "table") = False := eq_false (by decide)
    all_goals have n2 : (Str.ofString "ends" = Str.ofString "calm") = False := eq_false (by decide)
    all_goals have n3 : (Str.ofString "table" = Str.ofString "calm") = False := eq_false (by decide)
    all_goals have fa : (ss.map D.str).filter (fun _ => true) = ss.map D.str := by simp
    · refine dseq ?_
      simp only [startD, List.map_cons, List.map_nil, List.length_cons, List.length_nil, Nat.reduceAdd, Nat.reduceSub, List.replicate, List.cons_append, List.nil_append, dSet, dIfS, dT, dOp, dCB, dCons, dNil, dV, dM, dC, dp, dNext, dRet, dRetN, dLst, dTup, dDrop, dNot, dAnd, dOr, dAndV, dOrV, dNotV, intG, intG0, lenG, lenD, ixG, itemD, intCG, intOf, maxG, List.getElem?_cons_zero, List.getElem?_cons_succ, List.set_cons_zero, List.set_cons_succ, Option.some.injEq, B.isU, B.d, B.rd, exists_eq_left', exists_eq_left, exists_and_left, true_and, and_true, B.p.injEq, DD.D.bl.injEq, DD.D.int.injEq, List.cons.injEq, DD.PC, decide_eq_true_eq, and_assoc, Option.map_some, dLc, iAny, walked, wipeE, gN, dCall, dCallP, dCallF, eqG, neG, Bool.not_true, Bool.not_false, if_true, if_false, Bool.false_eq_true, reduceIte, List.append_nil, dCBK, addG, dM1, gT, gsCons, gsNil, iEnumD, dAsP, iR1, dPart, dNo, dSl, freB, lstD, List.all_cons, List.all_nil, litD, Bool.and_self, dReprPair, dDctN, itemD2, ixG2, keyD, lookD, strG2, dPar, bCons, bNil, dFor, List.zip_cons_cons, List.zip_nil_right, List.foldl_cons, List.foldl_nil, dApp, B.o.injEq, DD.D.lst.injEq, DD.D.tup.injEq, exists_eq', dDct0, B.u.injEq, sizeLine_eq, Nat.reduceLeDiff, Nat.reduceLT, Nat.zero_le, true_implies, slG, List.length_map, tupleG, seqD, listG, iR2, List.length_take, List.length_drop, List.length_append, DD.D.str.injEq, mulG, dAsg, dFld, lookF, dSetF, setF, dProp, dMeth, dMake, dMakeK, cxOf_K, dChain, notNG, isNG, isNon_non, isNon_bl, isNon_int, isNon_str, isNon_lst, isNon_tup, isNon_dct, isNon_ins, isNon_exc, dXv, reprG, DD.D.ins.injEq, DD.D.exc.injEq, cmpIG, neIG, clsD, Option.bind_some, B.s.injEq, if_true, if_false, dNeg, dLenSet, dIndex, dClrE, dAppE, dCallK, eqKG, sortedSG]
      refine ⟨fo_e, dseq ?_⟩
      simp only [startD, List.map_cons, List.map_nil, List.length_cons, List.length_nil, Nat.reduceAdd, Nat.reduceSub, List.replicate, List.cons_append, List.nil_append, dSet, dIfS, dT, dOp, dCB, dCons, dNil, dV, dM, dC, dp, dNext, dRet, dRetN, dLst, dTup, dDrop, dNot, dAnd, dOr, dAndV, dOrV, dNotV, intG, intG0, lenG, lenD, ixG, itemD, intCG, intOf, maxG, List.getElem?_cons_zero, List.getElem?_cons_succ, List.set_cons_zero, List.set_cons_succ, Option.some.injEq, B.isU, B.d, B.rd, exists_eq_left', exists_eq_left, exists_and_left, true_and, and_true, B.p.injEq, DD.D.bl.injEq, DD.D.int.injEq, List.cons.injEq, DD.PC, decide_eq_true_eq, and_assoc, Option.map_some, dLc, iAny, walked, wipeE, gN, dCall, dCallP, dCallF, eqG, neG, Bool.not_true, Bool.not_false, if_true, if_false, Bool.false_eq_true, reduceIte, List.append_nil, dCBK, addG, dM1, gT, gsCons, gsNil, iEnumD, dAsP, iR1, dPart, dNo, dSl, freB, lstD, List.all_cons, List.all_nil, litD, Bool.and_self, dReprPair, dDctN, itemD2, ixG2, keyD, lookD, strG2, dPar, bCons, bNil, dFor, List.zip_cons_cons, List.zip_nil_right, List.foldl_cons, List.foldl_nil, dApp, B.o.injEq, DD.D.lst.injEq, DD.D.tup.injEq, exists_eq', dDct0, B.u.injEq, sizeLine_eq, Nat.reduceLeDiff, Nat.reduceLT, Nat.zero_le, true_implies, slG, List.length_map, tupleG, seqD, listG, iR2, List.length_take, List.length_drop, List.length_append, DD.D.str.injEq, mulG, dAsg, dFld, lookF, dSetF, setF, dProp, dMeth, dMake, dMakeK, cxOf_K, dChain, notNG, isNG, isNon_non, isNon_bl, isNon_int, isNon_str, isNon_lst, isNon_tup, isNon_dct, isNon_ins, isNon_exc, dXv, reprG, DD.D.ins.injEq, DD.D.exc.injEq, cmpIG, neIG, clsD, Option.bind_some, B.s.injEq, if_true, if_false, dNeg, dLenSet, dIndex, dClrE, dAppE, dCallK, eqKG, sortedSG, n1, n2, n3]
      refine ⟨fo_t, ?_⟩
      refine lcL_map (fun _ => true) (fun d => d) (fun d => [some (.s (.ins C ["ends", "table"] [.tup [.str sd, .str f], .tup rs])), some (.p (.str sd)), some (.p (.str f)), some (.p (.lst rs)), some (.p (.lst (ss.map D.str))), some (.p d)]) (fun d => [some (.s (.ins C ["ends", "table"] [.tup [.str sd, .str f], .tup rs])), some (.p (.str sd)), some (.p (.str f)), some (.p (.lst rs)), some (.p (.lst (ss.map D.str))), some (.p d)]) (fun r hr' Y N y n => ?_) (fun r hr' => ⟨rfl, ?_⟩) (by rw [sizeLine_eq, List.length_nil, List.length_map]; omega) ?_
      · obtain ⟨x, hx, rfl⟩ := List.mem_map.mp hr'
        simp only [dYes, startD, List.map_cons, List.map_nil, List.length_cons, List.length_nil, Nat.reduceAdd, Nat.reduceSub, List.replicate, List.cons_append, List.nil_append, dSet, dIfS, dT, dOp, dCB, dCons, dNil, dV, dM, dC, dp, dNext, dRet, dRetN, dLst, dTup, dDrop, dNot, dAnd, dOr, dAndV, dOrV, dNotV, intG, intG0, lenG, lenD, ixG, itemD, intCG, intOf, maxG, List.getElem?_cons_zero, List.getElem?_cons_succ, List.set_cons_zero, List.set_cons_succ, Option.some.injEq, B.isU, B.d, B.rd, exists_eq_left', exists_eq_left, exists_and_left, true_and, and_true, B.p.injEq, DD.D.bl.injEq, DD.D.int.injEq, List.cons.injEq, DD.PC, decide_eq_true_eq, and_assoc, Option.map_some, dLc, iAny, walked, wipeE, gN, dCall, dCallP, dCallF, eqG, neG, Bool.not_true, Bool.not_false, if_true, if_false, Bool.false_eq_true, reduceIte, List.append_nil, dCBK, addG, dM1, gT, gsCons, gsNil, iEnumD, dAsP, iR1, dPart, dNo, dSl, freB, lstD, List.all_cons, List.all_nil, litD, Bool.and_self, dReprPair, dDctN, itemD2, ixG2, keyD, lookD, strG2, dPar, bCons, bNil, dFor, List.zip_cons_cons, List.zip_nil_right, List.foldl_cons, List.foldl_nil, dApp, B.o.injEq, DD.D.lst.injEq, DD.D.tup.injEq, exists_eq', dDct0, B.u.injEq, sizeLine_eq, Nat.reduceLeDiff, Nat.reduceLT, Nat.zero_le, true_implies, slG, List.length_map, tupleG, seqD, listG, iR2, List.length_take, List.length_drop, List.length_append, DD.D.str.injEq, mulG, dAsg, dFld, lookF, dSetF, setF, dProp, dMeth, dMake, dMakeK, cxOf_K, dChain, notNG, isNG, isNon_non, isNon_bl, isNon_int, isNon_str, isNon_lst, isNon_tup, isNon_dct, isNon_ins, isNon_exc, dXv, reprG, DD.D.ins.injEq, DD.D.exc.injEq, cmpIG, neIG, clsD, Option.bind_some, B.s.injEq, if_true, if_false, dNeg, dLenSet, dIndex, dClrE, dAppE, dCallK, eqKG, sortedSG]
        exact y rfl
      · rfl
      · rw [fa]
        simp only [startD, List.map_cons, List.map_nil, List.length_cons, List.length_nil, Nat.reduceAdd, Nat.reduceSub, List.replicate, List.cons_append, List.nil_append, dSet, dIfS, dT, dOp, dCB, dCons, dNil, dV, dM, dC, dp, dNext, dRet, dRetN, dLst, dTup, dDrop, dNot, dAnd, dOr, dAndV, dOrV, dNotV, intG, intG0, lenG, lenD, ixG, itemD, intCG, intOf, maxG, List.getElem?_cons_zero, List.getElem?_cons_succ, List.set_cons_zero, List.set_cons_succ, Option.some.injEq, B.isU, B.d, B.rd, exists_eq_left', exists_eq_left, exists_and_left, true_and, and_true, B.p.injEq, DD.D.bl.injEq, DD.D.int.injEq, List.cons.injEq, DD.PC, decide_eq_true_eq, and_assoc, Option.map_some, dLc, iAny, walked, wipeE, gN, dCall, dCallP, dCallF, eqG, neG, Bool.not_true, Bool.not_false, if_true, if_false, Bool.false_eq_true, reduceIte, List.append_nil, dCBK, addG, dM1, gT, gsCons, gsNil, iEnumD, dAsP, iR1, dPart, dNo, dSl, freB, lstD, List.all_cons, List.all_nil, litD, Bool.and_self, dReprPair, dDctN, itemD2, ixG2, keyD, lookD, strG2, dPar, bCons, bNil, dFor, List.zip_cons_cons, List.zip_nil_right, List.foldl_cons, List.foldl_nil, dApp, B.o.injEq, DD.D.lst.injEq, DD.D.tup.injEq, exists_eq', dDct0, B.u.injEq, sizeLine_eq, Nat.reduceLeDiff, Nat.reduceLT, Nat.zero_le, true_implies, slG, List.length_map, tupleG, seqD, listG, iR2, List.length_take, List.length_drop, List.length_append, DD.D.str.injEq, mulG, dAsg, dFld, lookF, dSetF, setF, dProp, dMeth, dMake, dMakeK, cxOf_K, dChain, notNG, isNG, isNon_non, isNon_bl, isNon_int, isNon_str, isNon_lst, isNon_tup, isNon_dct, isNon_ins, isNon_exc, dXv, reprG, DD.D.ins.injEq, DD.D.exc.injEq, cmpIG, neIG, clsD, Option.bind_some, B.s.injEq, if_true, if_false, dNeg, dLenSet, dIndex, dClrE, dAppE, dCallK, eqKG, sortedSG, List.map_id', n1, n2, n3]
        refine ⟨ss, rfl, by omega, fun ys hp _ => ?_⟩
        rw [perm_one h6 hp]
        exact ⟨fo_c, q⟩
    · refine dseq ?_
      simp only [startD, List.map_cons, List.map_nil, List.length_cons, List.length_nil, Nat.reduceAdd, Nat.reduceSub, List.replicate, List.cons_append, List.nil_append, dSet, dIfS, dT, dOp, dCB, dCons, dNil, dV, dM, dC, dp, dNext, dRet, dRetN, dLst, dTup, dDrop, dNot, dAnd, dOr, dAndV, dOrV, dNotV, intG, intG0, lenG, lenD, ixG, itemD, intCG, intOf, maxG, List.getElem?_cons_zero, List.getElem?_cons_succ, List.set_cons_zero, List.set_cons_succ, Option.some.injEq, B.isU, B.d, B.rd, exists_eq_left', exists_eq_left, exists_and_left, true_and, and_true, B.p.injEq, DD.D.bl.injEq, DD.D.int.injEq, List.cons.injEq, DD.PC, decide_eq_true_eq, and_assoc, Option.map_some, dLc, iAny, walked, wipeE, gN, dCall, dCallP, dCallF, eqG, neG, Bool.not_true, Bool.not_false, if_true, if_false, Bool.false_eq_true, reduceIte, List.append_nil, dCBK, addG, dM1, gT, gsCons, gsNil, iEnumD, dAsP, iR1, dPart, dNo, dSl, freB, lstD, List.all_cons, List.all_nil, litD, Bool.and_self, dReprPair, dDctN, itemD2, ixG2, keyD, lookD, strG2, dPar, bCons, bNil, dFor, List.zip_cons_cons, List.zip_nil_right, List.foldl_cons, List.foldl_nil, dApp, B.o.injEq, DD.D.lst.injEq, DD.D.tup.injEq, exists_eq', dDct0, B.u.injEq, sizeLine_eq, Nat.reduceLeDiff, Nat.reduceLT, Nat.zero_le, true_implies, slG, List.length_map, tupleG, seqD, listG, iR2, List.length_take, List.length_drop, List.length_append, DD.D.str.injEq, mulG, dAsg, dFld, lookF, dSetF, setF, dProp, dMeth, dMake, dMakeK, cxOf_K, dChain, notNG, isNG, isNon_non, isNon_bl, isNon_int, isNon_str, isNon_lst, isNon_tup, isNon_dct, isNon_ins, isNon_exc, dXv, reprG, DD.D.ins.injEq, DD.D.exc.injEq, cmpIG, neIG, clsD, Option.bind_some, B.s.injEq, if_true, if_false, dNeg, dLenSet, dIndex, dClrE, dAppE, dCallK, eqKG, sortedSG]
      refine ⟨fo_e, dseq ?_⟩
      simp only [startD, List.map_cons, List.map_nil, List.length_cons, List.length_nil, Nat.reduceAdd, Nat.reduceSub, List.replicate, List.cons_append, List.nil_append, dSet, dIfS, dT, dOp, dCB, dCons, dNil, dV, dM, dC, dp, dNext, dRet, dRetN, dLst, dTup, dDrop, dNot, dAnd, dOr, dAndV, dOrV, dNotV, intG, intG0, lenG, lenD, ixG, itemD, intCG, intOf, maxG, List.getElem?_cons_zero, List.getElem?_cons_succ, List.set_cons_zero, List.set_cons_succ, Option.some.injEq, B.isU, B.d, B.rd, exists_eq_left', exists_eq_left, exists_and_left, true_and, and_true, B.p.injEq, DD.D.bl.injEq, DD.D.int.injEq, List.cons.injEq, DD.PC, decide_eq_true_eq, and_assoc, Option.map_some, dLc, iAny, walked, wipeE, gN, dCall, dCallP, dCallF, eqG, neG, Bool.not_true, Bool.not_false, if_true, if_false, Bool.false_eq_true, reduceIte, List.append_nil, dCBK, addG, dM1, gT, gsCons, gsNil, iEnumD, dAsP, iR1, dPart, dNo, dSl, freB, lstD, List.all_cons, List.all_nil, litD, Bool.and_self, dReprPair, dDctN, itemD2, ixG2, keyD, lookD, strG2, dPar, bCons, bNil, dFor, List.zip_cons_cons, List.zip_nil_right, List.foldl_cons, List.foldl_nil, dApp, B.o.injEq, DD.D.lst.injEq, DD.D.tup.injEq, exists_eq', dDct0, B.u.injEq, sizeLine_eq, Nat.reduceLeDiff, Nat.reduceLT, Nat.zero_le, true_implies, slG, List.length_map, tupleG, seqD, listG, iR2, List.length_take, List.length_drop, List.length_append, DD.D.str.injEq, mulG, dAsg, dFld, lookF, dSetF, setF, dProp, dMeth, dMake, dMakeK, cxOf_K, dChain, notNG, isNG, isNon_non, isNon_bl, isNon_int, isNon_str, isNon_lst, isNon_tup, isNon_dct, isNon_ins, isNon_exc, dXv, reprG, DD.D.ins.injEq, DD.D.exc.injEq, cmpIG, neIG, clsD, Option.bind_some, B.s.injEq, if_true, if_false, dNeg, dLenSet, dIndex, dClrE, dAppE, dCallK, eqKG, sortedSG, n1, n2, n3]
      refine ⟨fo_t, ?_⟩
      refine lcL_map (fun _ => true) (fun d => d) (fun d => [some (.s (.ins C ["ends", "table"] [.tup [.str sd, .str f], .tup rs])), some (.p (.str sd)), some (.p (.str f)), some (.p (.lst rs)), some (.p (.tup (ss.map D.str))), some (.p d)]) (fun d => [some (.s (.ins C ["ends", "table"] [.tup [.str sd, .str f], .tup rs])), some (.p (.str sd)), some (.p (.str f)), some (.p (.lst rs)), some (.p (.tup (ss.map D.str))), some (.p d)]) (fun r hr' Y N y n => ?_) (fun r hr' => ⟨rfl, ?_⟩) (by rw [sizeLine_eq, List.length_nil, List.length_map]; omega) ?_
      · obtain ⟨x, hx, rfl⟩ := List.mem_map.mp hr'
        simp only [dYes, startD, List.map_cons, List.map_nil, List.length_cons, List.length_nil, Nat.reduceAdd, Nat.reduceSub, List.replicate, List.cons_append, List.nil_append, dSet, dIfS, dT, dOp, dCB, dCons, dNil, dV, dM, dC, dp, dNext, dRet, dRetN, dLst, dTup, dDrop, dNot, dAnd, dOr, dAndV, dOrV, dNotV, intG, intG0, lenG, lenD, ixG, itemD, intCG, intOf, maxG, List.getElem?_cons_zero, List.getElem?_cons_succ, List.set_cons_zero, List.set_cons_succ, Option.some.injEq, B.isU, B.d, B.rd, exists_eq_left', exists_eq_left, exists_and_left, true_and, and_true, B.p.injEq, DD.D.bl.injEq, DD.D.int.injEq, List.cons.injEq, DD.PC, decide_eq_true_eq, and_assoc, Option.map_some, dLc, iAny, walked, wipeE, gN, dCall, dCallP, dCallF, eqG, neG, Bool.not_true, Bool.not_false, if_true, if_false, Bool.false_eq_true, reduceIte, List.append_nil, dCBK, addG, dM1, gT, gsCons, gsNil, iEnumD, dAsP, iR1, dPart, dNo, dSl, freB, lstD, List.all_cons, List.all_nil, litD, Bool.and_self, dReprPair, dDctN, itemD2, ixG2, keyD, lookD, strG2, dPar, bCons, bNil, dFor, List.zip_cons_cons, List.zip_nil_right, List.foldl_cons, List.foldl_nil, dApp, B.o.injEq, DD.D.lst.injEq, DD.D.tup.injEq, exists_eq', dDct0, B.u.injEq, sizeLine_eq, Nat.reduceLeDiff, Nat.reduceLT, Nat.zero_le, true_implies, slG, List.length_map, tupleG, seqD, listG, iR2, List.length_take, List.length_drop, List.length_append, DD.D.str.injEq, mulG, dAsg, dFld, lookF, dSetF, setF, dProp, dMeth, dMake, dMakeK, cxOf_K, dChain, notNG, isNG, isNon_non, isNon_bl, isNon_int, isNon_str, isNon_lst, isNon_tup, isNon_dct, isNon_ins, isNon_exc, dXv, reprG, DD.D.ins.injEq, DD.D.exc.injEq, cmpIG, neIG, clsD, Option.bind_some, B.s.injEq, if_true, if_false, dNeg, dLenSet, dIndex, dClrE, dAppE, dCallK, eqKG, sortedSG]
        exact y rfl
      · rfl
      · rw [fa]
        simp only [startD, List.map_cons, List.map_nil, List.length_cons, List.length_nil, Nat.reduceAdd, Nat.reduceSub, List.replicate, List.cons_append, List.nil_append, dSet, dIfS, dT, dOp, dCB, dCons, dNil, dV, dM, dC, dp, dNext, dRet, dRetN, dLst, dTup, dDrop, dNot, dAnd, dOr, dAndV, dOrV, dNotV, intG, intG0, lenG, lenD, ixG, itemD, intCG, intOf, maxG, List.getElem?_cons_zero, List.getElem?_cons_succ, List.set_cons_zero, List.set_cons_succ, Option.some.injEq, B.isU, B.d, B.rd, exists_eq_left', exists_eq_left, exists_and_left, true_and, and_true, B.p.injEq, DD.D.bl.injEq, DD.D.int.injEq, List.cons.injEq, DD.PC, decide_eq_true_eq, and_assoc, Option.map_some, dLc, iAny, walked, wipeE, gN, dCall, dCallP, dCallF, eqG, neG, Bool.not_true, Bool.not_false, if_true, if_false, Bool.false_eq_true, reduceIte, List.append_nil, dCBK, addG, dM1, gT, gsCons, gsNil, iEnumD, dAsP, iR1, dPart, dNo, dSl, freB, lstD, List.all_cons, List.all_nil, litD, Bool.and_self, dReprPair, dDctN, itemD2, ixG2, keyD, lookD, strG2, dPar, bCons, bNil, dFor, List.zip_cons_cons, List.zip_nil_right, List.foldl_cons, List.foldl_nil, dApp, B.o.injEq, DD.D.lst.injEq, DD.D.tup.injEq, exists_eq', dDct0, B.u.injEq, sizeLine_eq, Nat.reduceLeDiff, Nat.reduceLT, Nat.zero_le, true_implies, slG, List.length_map, tupleG, seqD, listG, iR2, List.length_take, List.length_drop, List.length_append, DD.D.str.injEq, mulG, dAsg, dFld, lookF, dSetF, setF, dProp, dMeth, dMake, dMakeK, cxOf_K, dChain, notNG, isNG, isNon_non, isNon_bl, isNon_int, isNon_str, isNon_lst, isNon_tup, isNon_dct, isNon_ins, isNon_exc, dXv, reprG, DD.D.ins.injEq, DD.D.exc.injEq, cmpIG, neIG, clsD, Option.bind_some, B.s.injEq, if_true, if_false, dNeg, dLenSet, dIndex, dClrE, dAppE, dCallK, eqKG, sortedSG, List.map_id', n1, n2, n3]
        refine ⟨ss, rfl, by omega, fun ys hp _ => ?_⟩
        rw [perm_one h6 hp]
        exact ⟨fo_c, q⟩
abbrev s_Role_side : Stmt := memS (topS 28) 1
theorem sc_Role_side : FnScope ["self"] ["self"] (defScope s_Role_side) := ⟨rfl, rfl, rfl, by decide +kernel, rfl, by decide +kernel, by decide +kernel⟩
def spd_Role_side (aRo : Addr) : Spd := fun bs R _ => ∃ (sd f : Str) (rs : List D) (ss : List Str), bs = [.p (roleD aRo sd f rs ss)] ∧ rs.length ≤ 1000 ∧ ss.length ≤ 1 ∧ R (.p (.str sd)) 0
theorem cal_Role_side {a_Role : Addr} (Da : PropAt K a_Role "side" "Role.side" s_Role_side) (fo_e : FldOk K a_Role "ends") (fo_t : FldOk K a_Role "table") (fo_c : FldOk K a_Role "calm") : PropC P w K mg base a_Role "side" 1 (spd_Role_side a_Role) := by
  refine prop_mk Da sc_Role_side (fun _ _ _ _ _ _ us hl => match us, hl with | [_], _ => rfl) (fun bs R E h => ?_) (fun bs R E h => ?_) fun f cdv A outer s H E W bs R ED gu hr te h fh => ?_
  · obtain ⟨sd, f, rs, ss, rfl, l1, l2, q⟩ := h
    rfl
  · obtain ⟨sd, f, rs, ss, rfl, l1, l2, q⟩ := h
    exact pur_none (by simp [B.own])
  · obtain ⟨sd, f, rs, ss, rfl, l1, l2, q⟩ := h
    have nd := sc_Role_side.nd
    have hu := hr.units
    refine ⟨_, (dss_one (ds_ret (de_ix2 hu (de_fld (de_v 0)) de_int fun _ _ => rfl))), ?_⟩
    have n1 : (Str.ofString "ends" = Str.ofString "table") = False := eq_false (by decide)
    have n2 : (Str.ofString "ends" = Str.ofString "calm") = False := eq_false (by decide)
    have n3 : (Str.ofString "table" = Str.ofString "calm") = False := eq_false (by decide)
    have n4 : (Str.ofString "table" = Str.ofString "ends") = False := eq_false (by decide)
    have n5 : (Str.ofString "calm" = Str.ofString "ends") = False := eq_false (by decide)
    have n6 : (Str.ofString "calm" = Str.ofString "table") = False := eq_false (by decide)
    have hl1 : rs.length ≤ 16777216 := by omega
    have hl2 : ss.length ≤ 16777216 := by omega
    simp only [startD, List.map_cons, List.map_nil, List.length_cons, List.length_nil, Nat.reduceAdd, Nat.reduceSub, List.replicate, List.cons_append, List.nil_append, dSet, dIfS, dT, dOp, dCB, dCons, dNil, dV, dM, dC, dp, dNext, dRet, dRetN, dLst, dTup, dDrop, dNot, dAnd, dOr, dAndV, dOrV, dNotV, intG, intG0, lenG, lenD, ixG, itemD, intCG, intOf, maxG, List.getElem?_cons_zero, List.getElem?_cons_succ, List.set_cons_zero, List.set_cons_succ, Option.some.injEq, B.isU, B.d, B.rd, exists_eq_left', exists_eq_left, exists_and_left, true_and, and_true, B.p.injEq, DD.D.bl.injEq, DD.D.int.injEq, List.cons.injEq, DD.PC, decide_eq_true_eq, and_assoc, Option.map_some, dLc, iAny, walked, wipeE, gN, dCall, dCallP, dCallF, eqG, neG, Bool.not_true, Bool.not_false, if_true, if_false, Bool.false_eq_true, reduceIte, List.append_nil, dCBK, addG, dM1, gT, gsCons, gsNil, iEnumD, dAsP, iR1, dPart, dNo, dSl, freB, lstD, List.all_cons, List.all_nil, litD, Bool.and_self, dReprPair, dDctN, itemD2, ixG2, keyD, lookD, strG2, dPar, bCons, bNil, dFor, List.zip_cons_cons, List.zip_nil_right, List.foldl_cons, List.foldl_nil, dApp, B.o.injEq, DD.D.lst.injEq, DD.D.tup.injEq, exists_eq', dDct0, B.u.injEq, sizeLine_eq, Nat.reduceLeDiff, Nat.reduceLT, Nat.zero_le, true_implies, slG, List.length_map, tupleG, seqD, listG, iR2, List.length_take, List.length_drop, List.length_append, DD.D.str.injEq, mulG, dAsg, dFld, lookF, dSetF, setF, dProp, dMeth, dMake, dMakeK, cxOf_K, dChain, notNG, isNG, isNon_non, isNon_bl, isNon_int, isNon_str, isNon_lst, isNon_tup, isNon_dct, isNon_ins, isNon_exc, dXv, reprG, DD.D.ins.injEq, DD.D.exc.injEq, cmpIG, neIG, clsD, Option.bind_some, B.s.injEq, if_true, if_false, dNeg, dLenSet, dIndex, dClrE, dAppE, dCallK, eqKG, sortedSG, roleD, n4, n5, n6]
    exact ⟨fo_e, _, rfl, 0, q⟩
abbrev s_Role_first : Stmt := memS (topS 28) 2
theorem sc_Role_first : FnScope ["self"] ["self"] (defScope s_Role_first) := ⟨rfl, rfl, rfl, by decide +kernel, rfl, by decide +kernel, by decide +kernel⟩
def spd_Role_first (aRo : Addr) : Spd := fun bs R _ => ∃ (sd f : Str) (rs : List D) (ss : List Str), bs = [.p (roleD aRo sd f rs ss)] ∧ rs.length ≤ 1000 ∧ ss.length ≤ 1 ∧ R (.p (.str f)) 0
theorem cal_Role_first {a_Role : Addr} (Da : PropAt K a_Role "first" "Role.first" s_Role_first) (fo_e : FldOk K a_Role "ends") (fo_t : FldOk K a_Role "table") (fo_c : FldOk K a_Role "calm") : PropC P w K mg base a_Role "first" 1 (spd_Role_first a_Role) := by
  refine prop_mk Da sc_Role_first (fun _ _ _ _ _ _ us hl => match us, hl with | [_], _ => rfl) (fun bs R E h => ?_) (fun bs R E h => ?_) fun f cdv A outer s H E W bs R ED gu hr te h fh => ?_
  · obtain ⟨sd, f, rs, ss, rfl, l1, l2, q⟩ := h
    rfl
  · obtain ⟨sd, f, rs, ss, rfl, l1, l2, q⟩ := h
    exact pur_none (by simp [B.own])
  · obtain ⟨sd, f, rs, ss, rfl, l1, l2, q⟩ := h
    have nd := sc_Role_first.nd
    have hu := hr.units
    refine ⟨_, (dss_one (ds_ret (de_ix2 hu (de_fld (de_v 0)) de_int fun _ _ => rfl))), ?_⟩
    have n1 : (Str.ofString "ends" = Str.ofString "table") = False := eq_false (by decide)
    have n2 : (Str.ofString "ends" = Str.ofString "calm") = False := eq_false (by decide)
    have n3 : (Str.ofString "table" = Str.ofString "calm") = False := eq_false (by decide)
    have n4 : (Str.ofString "table" = Str.ofString "ends") = False := eq_false (by decide)
    have n5 : (Str.ofString "calm" = Str.ofString "ends") = False := eq_false (by decide)
    have n6 : (Str.ofString "calm" = Str.ofString "table") = False := eq_false (by decide)
    have hl1 : rs.length ≤ 16777216 := by omega
    have hl2 : ss.length ≤ 16777216 := by omega
    simp only [startD, List.map_cons, List.map_nil, List.length_cons, List.length_nil, Nat.reduceAdd, Nat.reduceSub, List.replicate, List.cons_append, List.nil_append, dSet, dIfS, dT, dOp, dCB, dCons, dNil, dV, dM, dC, dp, dNext, dRet, dRetN, dLst, dTup, dDrop, dNot, dAnd, dOr, dAndV, dOrV, dNotV, intG, intG0, lenG, lenD, ixG, itemD, intCG, intOf, maxG, List.getElem?_cons_zero, List.getElem?_cons_succ, List.set_cons_zero, List.set_cons_succ, Option.some.injEq, B.isU, B.d, B.rd, exists_eq_left', exists_eq_left, exists_and_left, true_and, and_true, B.p.injEq, DD.D.bl.injEq, DD.D.int.injEq, List.cons.injEq, DD.PC, decide_eq_true_eq, and_assoc, Option.map_some, dLc, iAny, walked, wipeE, gN, dCall, dCallP, dCallF, eqG, neG, Bool.not_true, Bool.not_false, if_true, if_false, Bool.false_eq_true, reduceIte, List.append_nil, dCBK, addG, dM1, gT, gsCons, gsNil, iEnumD, dAsP, iR1, dPart, dNo, dSl, freB, lstD, List.all_cons, List.all_nil, litD, Bool.and_self, dReprPair, dDctN, itemD2, ixG2, keyD, lookD, strG2, dPar, bCons, bNil, dFor, List.zip_cons_cons, List.zip_nil_right, List.foldl_cons, List.foldl_nil, dApp, B.o.injEq, DD.D.lst.injEq, DD.D.tup.injEq, exists_eq', dDct0, B.u.injEq, sizeLine_eq, Nat.reduceLeDiff, Nat.reduceLT, Nat.zero_le, true_implies, slG, List.length_map, tupleG, seqD, listG, iR2, List.length_take, List.length_drop, List.length_append, DD.D.str.injEq, mulG, dAsg, dFld, lookF, dSetF, setF, dProp, dMeth, dMake, dMakeK, cxOf_K, dChain, notNG, isNG, isNon_non, isNon_bl, isNon_int, isNon_str, isNon_lst, isNon_tup, isNon_dct, isNon_ins, isNon_exc, dXv, reprG, DD.D.ins.injEq, DD.D.exc.injEq, cmpIG, neIG, clsD, Option.bind_some, B.s.injEq, if_true, if_false, dNeg, dLenSet, dIndex, dClrE, dAppE, dCallK, eqKG, sortedSG, roleD, n4, n5, n6]
    exact ⟨fo_e, _, rfl, 0, q⟩
abbrev s_Role_rules : Stmt := memS (topS 28) 3
theorem sc_Role_rules : FnScope ["self"] ["self"] (defScope s_Role_rules) := ⟨rfl, rfl, rfl, by decide +kernel, rfl, by decide +kernel, by decide +kernel⟩
def spd_Role_rules (aRo : Addr) : Spd := fun bs R _ => ∃ (sd f : Str) (rs : List D) (ss : List Str), bs = [.p (roleD aRo sd f rs ss)] ∧ rs.length ≤ 1000 ∧ ss.length ≤ 1 ∧ R (.o (.lst rs)) 0
theorem cal_Role_rules {a_Role : Addr} (Da : PropAt K a_Role "rules" "Role.rules" s_Role_rules) (fo_e : FldOk K a_Role "ends") (fo_t : FldOk K a_Role "table") (fo_c : FldOk K a_Role "calm") (m_list : mg "list" = none) : PropC P w K mg base a_Role "rules" 1 (spd_Role_rules a_Role) := by
  refine prop_mk Da sc_Role_rules (fun _ _ _ _ _ _ us hl => match us, hl with | [_], _ => rfl) (fun bs R E h => ?_) (fun bs R E h => ?_) fun f cdv A outer s H E W bs R ED gu hr te h fh => ?_
  · obtain ⟨sd, f, rs, ss, rfl, l1, l2, q⟩ := h
    rfl
  · obtain ⟨sd, f, rs, ss, rfl, l1, l2, q⟩ := h
    exact pur_none (by simp [B.own])
  · obtain ⟨sd, f, rs, ss, rfl, l1, l2, q⟩ := h
    have nd := sc_Role_rules.nd
    have hu := hr.units
    refine ⟨_, (dss_one (ds_ret (de_callTy call_list_of rc_list rfl m_list bt_list (da_cons (de_fld (de_v 0)) da_nil)))), ?_⟩
    have n1 : (Str.ofString "ends" = Str.ofString "table") = False := eq_false (by decide)
    have n2 : (Str.ofString "ends" = Str.ofString "calm") = False := eq_false (by decide)
    have n3 : (Str.ofString "table" = Str.ofString "calm") = False := eq_false (by decide)
    have n4 : (Str.ofString "table" = Str.ofString "ends") = False := eq_false (by decide)
    have n5 : (Str.ofString "calm" = Str.ofString "ends") = False := eq_false (by decide)
    have n6 : (Str.ofString "calm" = Str.ofString "table") = False := eq_false (by decide)
    have hl1 : rs.length ≤ 16777216 := by omega
    have hl2 : ss.length ≤ 16777216 := by omega
    simp only [startD, List.map_cons, List.map_nil, List.length_cons, List.length_nil, Nat.reduceAdd, Nat.reduceSub, List.replicate, List.cons_append, List.nil_append, dSet, dIfS, dT, dOp, dCB, dCons, dNil, dV, dM, dC, dp, dNext, dRet, dRetN, dLst, dTup, dDrop, dNot, dAnd, dOr, dAndV, dOrV, dNotV, intG, intG0, lenG, lenD, ixG, itemD, intCG, intOf, maxG, List.getElem?_cons_zero, List.getElem?_cons_succ, List.set_cons_zero, List.set_cons_succ, Option.some.injEq, B.isU, B.d, B.rd, exists_eq_left', exists_eq_left, exists_and_left, true_and, and_true, B.p.injEq, DD.D.bl.injEq, DD.D.int.injEq, List.cons.injEq, DD.PC, decide_eq_true_eq, and_assoc, Option.map_some, dLc, iAny, walked, wipeE, gN, dCall, dCallP, dCallF, eqG, neG, Bool.not_true, Bool.not_false, if_true, if_false, Bool.false_eq_true, reduceIte, List.append_nil, dCBK, addG, dM1, gT, gsCons, gsNil, iEnumD, dAsP, iR1, dPart, dNo, dSl, freB, lstD, List.all_cons, List.all_nil, litD, Bool.and_self, dReprPair, dDctN, itemD2, ixG2, keyD, lookD, strG2, dPar, bCons, bNil, dFor, List.zip_cons_cons, List.zip_nil_right, List.foldl_cons, List.foldl_nil, dApp, B.o.injEq, DD.D.lst.injEq, DD.D.tup.injEq, exists_eq', dDct0, B.u.injEq, sizeLine_eq, Nat.reduceLeDiff, Nat.reduceLT, Nat.zero_le, true_implies, slG, List.length_map, tupleG, seqD, listG, iR2, List.length_take, List.length_drop, List.length_append, DD.D.str.injEq, mulG, dAsg, dFld, lookF, dSetF, setF, dProp, dMeth, dMake, dMakeK, cxOf_K, dChain, notNG, isNG, isNon_non, isNon_bl, isNon_int, isNon_str, isNon_lst, isNon_tup, isNon_dct, isNon_ins, isNon_exc, dXv, reprG, DD.D.ins.injEq, DD.D.exc.injEq, cmpIG, neIG, clsD, Option.bind_some, B.s.injEq, if_true, if_false, dNeg, dLenSet, dIndex, dClrE, dAppE, dCallK, eqKG, sortedSG, roleD, n4, n5, n6]
    exact ⟨fo_t, 0, q⟩
abbrev s_Role_settled : Stmt := memS (topS 28) 4
theorem sc_Role_settled : FnScope ["self"] ["self"] (defScope s_Role_settled) := ⟨rfl, rfl, rfl, by decide +kernel, rfl, by decide +kernel, by decide +kernel⟩
def spd_Role_settled (aRo : Addr) : Spd := fun bs R _ => ∃ (sd f : Str) (rs : List D) (ss : List Str), bs = [.p (roleD aRo sd f rs ss)] ∧ rs.length ≤ 1000 ∧ ss.length ≤ 1 ∧ R (.o (.lst (ss.map D.str))) 0
theorem cal_Role_settled {a_Role : Addr} (Da : PropAt K a_Role "settled" "Role.settled" s_Role_settled) (fo_e : FldOk K a_Role "ends") (fo_t : FldOk K a_Role "table") (fo_c : FldOk K a_Role "calm") (m_list : mg "list" = none) : PropC P w K mg base a_Role "settled" 1 (spd_Role_settled a_Role) := by
  refine prop_mk Da sc_Role_settled (fun _ _ _ _ _ _ us hl => match us, hl with | [_], _ => rfl) (fun bs R E h => ?_) (fun bs R E h => ?_) fun f cdv A outer s H E W bs R ED gu hr te h fh => ?_
  · obtain ⟨sd, f, rs, ss, rfl, l1, l2, q⟩ := h
    rfl
  · obtain ⟨sd, f, rs, ss, rfl, l1, l2, q⟩ := h
    exact pur_none (by simp [B.own])
  · obtain ⟨sd, f, rs, ss, rfl, l1, l2, q⟩ := h
    have nd := sc_Role_settled.nd
    have hu := hr.units
    refine ⟨_, (dss_one (ds_ret (de_callTy call_list_of rc_list rfl m_list bt_list (da_cons (de_fld (de_v 0)) da_nil)))), ?_⟩
    have n1 : (Str.ofString "ends" = Str.ofString "table") = False := eq_false (by decide)
    have n2 : (Str.ofString "ends" = Str.ofString "calm") = False := eq_false (by decide)
    have n3 : (Str.ofString "table" = Str.ofString "calm") = False := eq_false (by decide)
    have n4 : (Str.ofString "table" = Str.ofString "ends") = False := eq_false (by decide)
    have n5 : (Str.ofString "calm" = Str.ofString "ends") = False := eq_false (by decide)
    have n6 : (Str.ofString "calm" = Str.ofString "table") = False := eq_false (by decide)
    have hl1 : rs.length ≤ 16777216 := by omega
    have hl2 : ss.length ≤ 16777216 := by omega
    simp only [startD, List.map_cons, List.map_nil, List.length_cons, List.length_nil, Nat.reduceAdd, Nat.reduceSub, List.replicate, List.cons_append, List.nil_append, dSet, dIfS, dT, dOp, dCB, dCons, dNil, dV, dM, dC, dp, dNext, dRet, dRetN, dLst, dTup, dDrop, dNot, dAnd, dOr, dAndV, dOrV, dNotV, intG, intG0, lenG, lenD, ixG, itemD, intCG, intOf, maxG, List.getElem?_cons_zero, List.getElem?_cons_succ, List.set_cons_zero, List.set_cons_succ, Option.some.injEq, B.isU, B.d, B.rd, exists_eq_left', exists_eq_left, exists_and_left, true_and, and_true, B.p.injEq, DD.D.bl.injEq, DD.D.int.injEq, List.cons.injEq, DD.PC, decide_eq_true_eq, and_assoc, Option.map_some, dLc, iAny, walked, wipeE, gN, dCall, dCallP, dCallF, eqG, neG, Bool.not_true, Bool.not_false, if_true, if_false, Bool.false_eq_true, reduceIte, List.append_nil, dCBK, addG, dM1, gT, gsCons, gsNil, iEnumD, dAsP, iR1, dPart, dNo, dSl, freB, lstD, List.all_cons, List.all_nil, litD, Bool.and_self, dReprPair, dDctN, itemD2, ixG2, keyD, lookD, strG2, dPar, bCons, bNil, dFor, List.zip_cons_cons, List.zip_nil_right, List.foldl_cons, List.foldl_nil, dApp, B.o.injEq, DD.D.lst.injEq, DD.D.tup.injEq, exists_eq', dDct0, B.u.injEq, sizeLine_eq, Nat.reduceLeDiff, Nat.reduceLT, Nat.zero_le, true_implies, slG, List.length_map, tupleG, seqD, listG, iR2, List.length_take, List.length_drop, List.length_append, DD.D.str.injEq, mulG, dAsg, dFld, lookF, dSetF, setF, dProp, dMeth, dMake, dMakeK, cxOf_K, dChain, notNG, isNG, isNon_non, isNon_bl, isNon_int, isNon_str, isNon_lst, isNon_tup, isNon_dct, isNon_ins, isNon_exc, dXv, reprG, DD.D.ins.injEq, DD.D.exc.injEq, cmpIG, neIG, clsD, Option.bind_some, B.s.injEq, if_true, if_false, dNeg, dLenSet, dIndex, dClrE, dAppE, dCallK, eqKG, sortedSG, roleD, n4, n5, n6]
    exact ⟨fo_c, 0, q⟩

/-- Rule == Rule -/
def rRule (aR : Addr) : EqR := fun c d k => ∃ fs gs, c = .ins aR ["fields"] [.tup fs] ∧ d = .ins aR ["fields"] [.tup gs] ∧ pureL fs = true ∧ pureL gs = true ∧ eqD (.tup fs) (.tup gs) = some k
theorem eqD_self {d : D} {k : Bool} (hf : flatD d = false) (h : eqD d d = some k) : k = true := by
  unfold eqD at h
  rw [hf] at h
  simp only [Bool.false_and, Bool.false_eq_true, if_false] at h
  cases hp : toPy d with
  | none =>
    rw [hp] at h
    cases h
  | some c =>
    rw [hp] at h
    simp only [Option.bind_some, Bool.and_self] at h
    by_cases hs : SeqAt.shaped c = true
    · rw [if_pos hs] at h
      cases h
      refine SeqAt.eqv_refl c ?_
      unfold SeqAt.shaped at hs
      exact (Bool.and_eq_true_iff.mp hs).1
    · rw [if_neg hs] at h
      cases h
theorem eqW_rule {aR : Addr} : EqW (rRule aR) where
  p := fun c d k ⟨fs, gs, e1, e2, p1, p2, _⟩ => by
    subst e1 e2
    have z1 : pureD (.ins aR ["fields"] [.tup fs]) = (pureL fs && true) := rfl
    have z2 : pureD (.ins aR ["fields"] [.tup gs]) = (pureL gs && true) := rfl
    rw [z1, z2, p1, p2]
    exact ⟨rfl, rfl⟩
  r := fun c k ⟨fs, gs, e1, e2, _, _, h⟩ => by
    subst e1
    cases e2
    exact eqD_self rfl h
theorem hs_rule {aR : Addr} : ∀ x y k, rRule aR x y k → spd_Rule___eq__ aR [.p x, .p y] (fun b _ => b = .p (.bl k)) fun _ _ _ => False := fun x y k ⟨fs, gs, e1, e2, _, _, h⟩ => by
  subst e1 e2
  exact ⟨fs, _, rfl, .inr ⟨gs, k, rfl, h, rfl⟩⟩
/-- tables -/
def rTab (aR : Addr) : EqR := rTup (rIns aR (rRule aR))
theorem eqW_tab {aR : Addr} : EqW (rTab aR) := eqW_tup (eqW_ins eqW_rule)
theorem rcK_tab {X : Cx} {aR : Addr} (c : CmpC X.prog X.w X.K X.mg X.base aR "__eq__" 1 (spd_Rule___eq__ aR)) : RcK X 2 (rTab aR) := rcK_tup (eqK_ins c hs_rule eqW_rule)

abbrev s_Role___eq__ : Stmt := memS (topS 28) 5
theorem sc_Role___eq__ : FnScope ["self", "other"] ["self", "other"] (defScope s_Role___eq__) := ⟨rfl, rfl, rfl, by decide +kernel, rfl, by decide +kernel, by decide +kernel⟩
def spd_Role___eq__ (aRo aR : Addr) : Spd := fun bs R _ => ∃ sd fi rs ss y, bs = [.p (roleD aRo sd fi rs ss), .p y] ∧ ((dat y = true ∧ R (.p (.bl false)) 0) ∨ ∃ sd2 f2 rs2 ss2 k1 k2 k3, y = roleD aRo sd2 f2 rs2 ss2 ∧ eqD (.tup [.str sd, .str fi]) (.tup [.str sd2, .str f2]) = some k1 ∧ rTab aR (.tup rs) (.tup rs2) k2 ∧ eqD (.tup (ss.map D.str)) (.tup (ss2.map D.str)) = some k3 ∧ R (.p (.bl (k1 && k2 && k3))) 0)
theorem cal_Role___eq__ {a_Role : Addr} (Da : MethAt K a_Role "__eq__" "Role.__eq__" s_Role___eq__) (fo_e : FldOk K a_Role "ends") (fo_t : FldOk K a_Role "table") (fo_c : FldOk K a_Role "calm") {a_Rule : Addr} (eq_Rule : CmpC P w K mg base a_Rule "__eq__" 1 (spd_Rule___eq__ a_Rule)) (io : InsOk K a_Role) (nk : NoKit K a_Role) (c_Role : ConAt K mg "Role" (.ref a_Role)) (m_isinstance : mg "isinstance" = none) : MethC P w K mg base a_Role "__eq__" 3 ["self", "other"] (spd_Role___eq__ a_Role a_Rule) := by
  refine meth_mk Da sc_Role___eq__ (fun _ _ _ _ _ _ us hl => match us, hl with | [_, _], _ => rfl) (fun bs R E h => ?_) (fun bs R E h => ?_) fun f cdv A outer s H E W bs R ED gu hr te h fh => ?_
  · obtain ⟨sd, fi, rs, ss, y, rfl, q⟩ := h
    rfl
  · obtain ⟨sd, fi, rs, ss, y, rfl, q⟩ := h
    exact pur_none (by simp [B.own])
  · obtain ⟨sd, fi, rs, ss, y, rfl, q⟩ := h
    have nd := sc_Role___eq__.nd
    have hu := hr.units
    have tab : RcK (cxOf (L2.CX P w) P w K mg base ["self", "other"] "Role.__eq__" (defScope s_Role___eq__) f cdv A outer s H E) 2 (rTab a_Rule) := rcK_tab eq_Rule
    refine ⟨_, (dss_cons (ds_if (dt_not (dt_val (he := fun _ => rfl) (de_callB call_isZ (rc_isa (K := K)) rfl m_isinstance bt_isinstance (da_cons (de_v 1) (da_cons (de_con c_Role) da_nil))))) (dss_one (ds_ret de_bl)) dss_nil) (dss_one (ds_ret (de_and (de_cmp (op_eqAll hu) rd_eq (de_fld (de_v 0)) (de_fld (de_v 1)) rfl) (de_and (de_eqK tab gu hr (de_fld (de_v 0)) (de_fld (de_v 1))) (de_one (de_cmp (op_eqAll hu) rd_eq (de_fld (de_v 0)) (de_fld (de_v 1)) rfl))))))), ?_⟩
    have n1 : (Str.ofString "ends" = Str.ofString "table") = False := eq_false (by decide)
    have n2 : (Str.ofString "ends" = Str.ofString "calm") = False := eq_false (by decide)
    have n3 : (Str.ofString "table" = Str.ofString "calm") = False := eq_false (by decide)
    have n4 : (Str.ofString "table" = Str.ofString "ends") = False := eq_false (by decide)
    have n5 : (Str.ofString "calm" = Str.ofString "ends") = False := eq_false (by decide)
    have n6 : (Str.ofString "calm" = Str.ofString "table") = False := eq_false (by decide)
    rcases q with ⟨hy, q⟩ | ⟨sd2, f2, rs2, ss2, k1, k2, k3, rfl, e1, e2, e3, q⟩
    · refine dseq ?_
      simp only [startD, List.map_cons, List.map_nil, List.length_cons, List.length_nil, Nat.reduceAdd, Nat.reduceSub, List.replicate, List.cons_append, List.nil_append, dSet, dIfS, dT, dOp, dCB, dCons, dNil, dV, dM, dC, dp, dNext, dRet, dRetN, dLst, dTup, dDrop, dNot, dAnd, dOr, dAndV, dOrV, dNotV, intG, intG0, lenG, lenD, ixG, itemD, intCG, intOf, maxG, List.getElem?_cons_zero, List.getElem?_cons_succ, List.set_cons_zero, List.set_cons_succ, Option.some.injEq, B.isU, B.d, B.rd, exists_eq_left', exists_eq_left, exists_and_left, true_and, and_true, B.p.injEq, DD.D.bl.injEq, DD.D.int.injEq, List.cons.injEq, DD.PC, decide_eq_true_eq, and_assoc, Option.map_some, dLc, iAny, walked, wipeE, gN, dCall, dCallP, dCallF, eqG, neG, Bool.not_true, Bool.not_false, if_true, if_false, Bool.false_eq_true, reduceIte, List.append_nil, dCBK, addG, dM1, gT, gsCons, gsNil, iEnumD, dAsP, iR1, dPart, dNo, dSl, freB, lstD, List.all_cons, List.all_nil, litD, Bool.and_self, dReprPair, dDctN, itemD2, ixG2, keyD, lookD, strG2, dPar, bCons, bNil, dFor, List.zip_cons_cons, List.zip_nil_right, List.foldl_cons, List.foldl_nil, dApp, B.o.injEq, DD.D.lst.injEq, DD.D.tup.injEq, exists_eq', dDct0, B.u.injEq, sizeLine_eq, Nat.reduceLeDiff, Nat.reduceLT, Nat.zero_le, true_implies, slG, List.length_map, tupleG, seqD, listG, iR2, List.length_take, List.length_drop, List.length_append, DD.D.str.injEq, mulG, dAsg, dFld, lookF, dSetF, setF, dProp, dMeth, dMake, dMakeK, cxOf_K, dChain, notNG, isNG, isNon_non, isNon_bl, isNon_int, isNon_str, isNon_lst, isNon_tup, isNon_dct, isNon_ins, isNon_exc, dXv, reprG, DD.D.ins.injEq, DD.D.exc.injEq, cmpIG, neIG, clsD, Option.bind_some, B.s.injEq, if_true, if_false, dNeg, dLenSet, dIndex, dClrE, dAppE, dCallK, eqKG, sortedSG, isa_no hy nk]
      exact ⟨0, q⟩
    · refine dseq ?_
      simp only [startD, List.map_cons, List.map_nil, List.length_cons, List.length_nil, Nat.reduceAdd, Nat.reduceSub, List.replicate, List.cons_append, List.nil_append, dSet, dIfS, dT, dOp, dCB, dCons, dNil, dV, dM, dC, dp, dNext, dRet, dRetN, dLst, dTup, dDrop, dNot, dAnd, dOr, dAndV, dOrV, dNotV, intG, intG0, lenG, lenD, ixG, itemD, intCG, intOf, maxG, List.getElem?_cons_zero, List.getElem?_cons_succ, List.set_cons_zero, List.set_cons_succ, Option.some.injEq, B.isU, B.d, B.rd, exists_eq_left', exists_eq_left, exists_and_left, true_and, and_true, B.p.injEq, DD.D.bl.injEq, DD.D.int.injEq, List.cons.injEq, DD.PC, decide_eq_true_eq, and_assoc, Option.map_some, dLc, iAny, walked, wipeE, gN, dCall, dCallP, dCallF, eqG, neG, Bool.not_true, Bool.not_false, if_true, if_false, Bool.false_eq_true, reduceIte, List.append_nil, dCBK, addG, dM1, gT, gsCons, gsNil, iEnumD, dAsP, iR1, dPart, dNo, dSl, freB, lstD, List.all_cons, List.all_nil, litD, Bool.and_self, dReprPair, dDctN, itemD2, ixG2, keyD, lookD, strG2, dPar, bCons, bNil, dFor, List.zip_cons_cons, List.zip_nil_right, List.foldl_cons, List.foldl_nil, dApp, B.o.injEq, DD.D.lst.injEq, DD.D.tup.injEq, exists_eq', dDct0, B.u.injEq, sizeLine_eq, Nat.reduceLeDiff, Nat.reduceLT, Nat.zero_le, true_implies, slG, List.length_map, tupleG, seqD, listG, iR2, List.length_take, List.length_drop, List.length_append, DD.D.str.injEq, mulG, dAsg, dFld, lookF, dSetF, setF, dProp, dMeth, dMake, dMakeK, cxOf_K, dChain, notNG, isNG, isNon_non, isNon_bl, isNon_int, isNon_str, isNon_lst, isNon_tup, isNon_dct, isNon_ins, isNon_exc, dXv, reprG, DD.D.ins.injEq, DD.D.exc.injEq, cmpIG, neIG, clsD, Option.bind_some, B.s.injEq, if_true, if_false, dNeg, dLenSet, dIndex, dClrE, dAppE, dCallK, eqKG, sortedSG, roleD, n4, n5, n6, isa_ins io kitOne_self]
      refine ⟨fo_e, fo_e, k1, e1, ?_⟩
      cases k1
      · exact ⟨0, q⟩
      · refine ⟨fo_t, fo_t, k2, e2, ?_⟩
        cases k2
        · exact ⟨0, q⟩
        · exact ⟨fo_c, fo_c, k3, e3, 0, q⟩
end
end K

set_option Elab.async false
set_option linter.all false
set_option maxRecDepth 100000
set_option maxHeartbeats 8000000
namespace K
open PySem PySem.Spec PyProof.Rows L2 DD
section
variable {P : Program} {w : World} {K : PySem.W.Frag} {mg : Str → Option Value} {base : Heap}
abbrev s_is_role : Stmt := topS 30
theorem sc_is_role : FnScope ["value", "side"] ["value", "side"] (defScope s_is_role) := ⟨rfl, rfl, rfl, by decide +kernel, rfl, by decide +kernel, by decide +kernel⟩
def spd_is_role (aRo : Addr) : Spd := fun bs R _ => ∃ (sd fi sd2 : Str) (rs : List D) (ss : List Str), bs = [.p (roleD aRo sd fi rs ss), .p (.str sd2)] ∧ rs.length ≤ 1000 ∧ ss.length ≤ 1 ∧ R (.p (.bl (decide (sd = sd2)))) 0
theorem cal_is_role (Da : DefAt K mg "is_role" s_is_role) {a_Role : Addr} (pr_Role_side : PropC P w K mg base a_Role "side" 1 (spd_Role_side a_Role)) (m_isinstance : mg "isinstance" = none) (c_Role : ConAt K mg "Role" (.ref a_Role)) (io : InsOk K a_Role) : Cal P w K mg base "is_role" 3 ["value", "side"] (spd_is_role a_Role) := by
  refine cal_mk none Da sc_is_role (fun _ _ _ _ _ _ us hl => match us, hl with | [_, _], _ => rfl) (fun bs R E h => ?_) (fun bs R E h => ?_) fun f cdv A outer s H E W bs R ED gu hr te h fh => ?_
  · obtain ⟨sd, fi, sd2, rs, ss, rfl, l1, l2, q⟩ := h
    rfl
  · obtain ⟨sd, fi, sd2, rs, ss, rfl, l1, l2, q⟩ := h
    exact pur_none (by simp [B.own])
  · obtain ⟨sd, fi, sd2, rs, ss, rfl, l1, l2, q⟩ := h
    have nd := sc_is_role.nd
    have hu := hr.units
    refine ⟨_, (dss_one (ds_ret (de_and (de_callB call_isZ (rc_isa (K := K)) rfl m_isinstance bt_isinstance (da_cons (de_v 0) (da_cons (de_con c_Role) da_nil))) (de_one (de_cmp (op_eqAll hu) rd_eq (de_prop pr_Role_side gu hr (de_v 0)) (de_v 1) rfl))))), ?_⟩
    simp only [startD, List.map_cons, List.map_nil, List.length_cons, List.length_nil, Nat.reduceAdd, Nat.reduceSub, List.replicate, List.cons_append, List.nil_append, dSeq, dSet, dIfS, dT, dOp, dCB, dCons, dNil, dV, dM, dC, dp, dNext, dRet, dRetN, dLst, dTup, dDrop, dNot, dAnd, dOr, dAndV, dOrV, dNotV, intG, intG0, lenG, lenD, ixG, itemD, intCG, intOf, maxG, List.getElem?_cons_zero, List.getElem?_cons_succ, List.set_cons_zero, List.set_cons_succ, Option.some.injEq, B.isU, B.d, B.rd, exists_eq_left', exists_eq_left, exists_and_left, true_and, and_true, B.p.injEq, DD.D.bl.injEq, DD.D.int.injEq, List.cons.injEq, DD.PC, decide_eq_true_eq, and_assoc, Option.map_some, dLc, iAny, walked, wipeE, gN, dCall, dCallP, dCallF, eqG, neG, Bool.not_true, Bool.not_false, if_true, if_false, Bool.false_eq_true, reduceIte, List.append_nil, dCBK, addG, dM1, gT, gsCons, gsNil, iEnumD, dAsP, iR1, dPart, dNo, dSl, freB, lstD, List.all_cons, List.all_nil, litD, Bool.and_self, dReprPair, dDctN, itemD2, ixG2, keyD, lookD, strG2, dPar, bCons, bNil, dFor, List.zip_cons_cons, List.zip_nil_right, List.foldl_cons, List.foldl_nil, dApp, B.o.injEq, DD.D.lst.injEq, DD.D.tup.injEq, exists_eq', dDct0, B.u.injEq, sizeLine_eq, Nat.reduceLeDiff, Nat.reduceLT, Nat.zero_le, true_implies, slG, List.length_map, tupleG, seqD, listG, iR2, List.length_take, List.length_drop, List.length_append, DD.D.str.injEq, mulG, dAsg, dFld, lookF, dSetF, setF, dProp, dMeth, dMake, dMakeK, cxOf_K, dChain, notNG, isNG, isNon_non, isNon_bl, isNon_int, isNon_str, isNon_lst, isNon_tup, isNon_dct, isNon_ins, isNon_exc, dXv, reprG, DD.D.ins.injEq, DD.D.exc.injEq, cmpIG, neIG, clsD, Option.bind_some, B.s.injEq, if_true, if_false, dNeg, dLenSet, dIndex, dClrE, dAppE, dCallK, eqKG, sortedSG, roleD, isa_ins io kitOne_self]
    refine ⟨sd, fi, rs, ss, rfl, l1, l2, ?_⟩
    simp only [startD, List.map_cons, List.map_nil, List.length_cons, List.length_nil, Nat.reduceAdd, Nat.reduceSub, List.replicate, List.cons_append, List.nil_append, dSeq, dSet, dIfS, dT, dOp, dCB, dCons, dNil, dV, dM, dC, dp, dNext, dRet, dRetN, dLst, dTup, dDrop, dNot, dAnd, dOr, dAndV, dOrV, dNotV, intG, intG0, lenG, lenD, ixG, itemD, intCG, intOf, maxG, List.getElem?_cons_zero, List.getElem?_cons_succ, List.set_cons_zero, List.set_cons_succ, Option.some.injEq, B.isU, B.d, B.rd, exists_eq_left', exists_eq_left, exists_and_left, true_and, and_true, B.p.injEq, DD.D.bl.injEq, DD.D.int.injEq, List.cons.injEq, DD.PC, decide_eq_true_eq, and_assoc, Option.map_some, dLc, iAny, walked, wipeE, gN, dCall, dCallP, dCallF, eqG, neG, Bool.not_true, Bool.not_false, if_true, if_false, Bool.false_eq_true, reduceIte, List.append_nil, dCBK, addG, dM1, gT, gsCons, gsNil, iEnumD, dAsP, iR1, dPart, dNo, dSl, freB, lstD, List.all_cons, List.all_nil, litD, Bool.and_self, dReprPair, dDctN, itemD2, ixG2, keyD, lookD, strG2, dPar, bCons, bNil, dFor, List.zip_cons_cons, List.zip_nil_right, List.foldl_cons, List.foldl_nil, dApp, B.o.injEq, DD.D.lst.injEq, DD.D.tup.injEq, exists_eq', dDct0, B.u.injEq, sizeLine_eq, Nat.reduceLeDiff, Nat.reduceLT, Nat.zero_le, true_implies, slG, List.length_map, tupleG, seqD, listG, iR2, List.length_take, List.length_drop, List.length_append, DD.D.str.injEq, mulG, dAsg, dFld, lookF, dSetF, setF, dProp, dMeth, dMake, dMakeK, cxOf_K, dChain, notNG, isNG, isNon_non, isNon_bl, isNon_int, isNon_str, isNon_lst, isNon_tup, isNon_dct, isNon_ins, isNon_exc, dXv, reprG, DD.D.ins.injEq, DD.D.exc.injEq, cmpIG, neIG, clsD, Option.bind_some, B.s.injEq, if_true, if_false, dNeg, dLenSet, dIndex, dClrE, dAppE, dCallK, eqKG, sortedSG, eqD_str]
    exact ⟨0, q⟩

def desD (aDe aRo : Addr) (f1 : Str) (rs1 : List D) (ss1 : List Str) (f2 : Str) (rs2 : List D) (ss2 : List Str) (he : Str) : D := .ins aDe ["roles", "word"] [.tup [roleD aRo "caller" f1 rs1 ss1, roleD aRo "host" f2 rs2 ss2], .str he]

abbrev s_Design___init__ : Stmt := memS (topS 29) 0
theorem sc_Design___init__ : FnScope ["self", "caller", "host", "hello"] ["self", "caller", "host", "hello"] (defScope s_Design___init__) := ⟨rfl, rfl, rfl, by decide +kernel, rfl, by decide +kernel, by decide +kernel⟩
def spi_Design (aDe aRo aI : Addr) : SpdS := fun d0 ds R E => ∃ (C : Addr) (f1 f2 he : Str) (rs1 rs2 : List D) (ss1 ss2 : List Str), d0 = .ins C [] [] ∧ C = aDe ∧ ds = [roleD aRo "caller" f1 rs1 ss1, roleD aRo "host" f2 rs2 ss2, .str he] ∧ rs1.length ≤ 1000 ∧ rs2.length ≤ 1000 ∧ ss1.length ≤ 1 ∧ ss2.length ≤ 1 ∧ isNm (.str he) = true ∧ Dat (.str he) ∧ R (.p .non) (desD C aRo f1 rs1 ss1 f2 rs2 ss2 he)
theorem cal_Design {a_Design : Addr} (Da : InitAt K mg "Design" a_Design "Design.__init__" s_Design___init__ [] []) {a_Role : Addr} (c_is_role : Cal P w K mg base "is_role" 3 ["value", "side"] (spd_is_role a_Role)) (c_is_name : Cal P w K mg base "is_name" 1 ["value"] spd_is_name) (fo_r : FldOk K a_Design "roles") (fo_w : FldOk K a_Design "word") {aI fI : Addr} (o_InvalidDesign : OwnX P K aI fI) (m_InvalidDesign : mg "InvalidDesign" = some (.ref aI)) :
    ∃ f fd, GnOk P w K mg base 4 f fd ["self", "caller", "host", "hello"] (toSpS K (spi_Design a_Design a_Role aI)) ∧ Mk K a_Design f ∧ mg "Design" = some (.ref a_Design) ∧ FunD K "__init__" "Design.__init__" (defArgs s_Design___init__) (defBody s_Design___init__) (defScope s_Design___init__) [] [] f fd := by
  refine make_mk Da sc_Design___init__ (fun d0 ds R E h => ?_) fun f cdv A outer s H E W d0 ds R ED gu hr te h fh => ?_
  · obtain ⟨C, f1, f2, he, rs1, rs2, ss1, ss2, rfl, rfl, rfl, l1, l2, l3, l4, h1, h2, q⟩ := h
    rfl
  · obtain ⟨C, f1, f2, he, rs1, rs2, ss1, ss2, rfl, rfl, rfl, l1, l2, l3, l4, h1, h2, q⟩ := h
    have nd := sc_Design___init__.nd
    have hu := hr.units
    refine ⟨_, (dss_cons (ds_if (DW.dt (dw_or (dt_not (dt_val (he := fun _ => rfl) (de_c c_is_role gu hr (da_cons (de_v 1) (da_cons de_str da_nil))))) (dw_or (dt_not (dt_val (he := fun _ => rfl) (de_c c_is_role gu hr (da_cons (de_v 2) (da_cons de_str da_nil))))) (dw_or1 (dt_not (dt_val (he := fun _ => rfl) (de_c c_is_name gu hr (da_cons (de_v 3) da_nil)))))))) (dss_one (ds_raise te o_InvalidDesign rfl hr rfl m_InvalidDesign (da_cons (de_tup (da_cons (de_v 1) (da_cons (de_v 2) (da_cons (de_v 3) da_nil)))) da_nil))) dss_nil) (dss_cons (ds_setF (i := 0) rfl (de_tup (da_cons (de_v 1) (da_cons (de_v 2) da_nil)))) (dss_one (ds_setF (i := 0) rfl (de_v 3))))), ?_⟩
    have n1 : (Str.ofString "roles" = Str.ofString "word") = False := eq_false (by decide)
    refine dseq ?_
    simp only [startD, List.map_cons, List.map_nil, List.length_cons, List.length_nil, Nat.reduceAdd, Nat.reduceSub, List.replicate, List.cons_append, List.nil_append, dSet, dIfS, dT, dOp, dCB, dCons, dNil, dV, dM, dC, dp, dNext, dRet, dRetN, dLst, dTup, dDrop, dNot, dAnd, dOr, dAndV, dOrV, dNotV, intG, intG0, lenG, lenD, ixG, itemD, intCG, intOf, maxG, List.getElem?_cons_zero, List.getElem?_cons_succ, List.set_cons_zero, List.set_cons_succ, Option.some.injEq, B.isU, B.d, B.rd, exists_eq_left', exists_eq_left, exists_and_left, true_and, and_true, B.p.injEq, DD.D.bl.injEq, DD.D.int.injEq, List.cons.injEq, DD.PC, decide_eq_true_eq, and_assoc, Option.map_some, dLc, iAny, walked, wipeE, gN, dCall, dCallP, dCallF, eqG, neG, Bool.not_true, Bool.not_false, if_true, if_false, Bool.false_eq_true, reduceIte, List.append_nil, dCBK, addG, dM1, gT, gsCons, gsNil, iEnumD, dAsP, iR1, dPart, dNo, dSl, freB, lstD, List.all_cons, List.all_nil, litD, Bool.and_self, dReprPair, dDctN, itemD2, ixG2, keyD, lookD, strG2, dPar, bCons, bNil, dFor, List.zip_cons_cons, List.zip_nil_right, List.foldl_cons, List.foldl_nil, dApp, B.o.injEq, DD.D.lst.injEq, DD.D.tup.injEq, exists_eq', dDct0, B.u.injEq, sizeLine_eq, Nat.reduceLeDiff, Nat.reduceLT, Nat.zero_le, true_implies, slG, List.length_map, tupleG, seqD, listG, iR2, List.length_take, List.length_drop, List.length_append, DD.D.str.injEq, mulG, dAsg, dFld, lookF, dSetF, setF, dProp, dMeth, dMake, dMakeK, cxOf_K, dChain, notNG, isNG, isNon_non, isNon_bl, isNon_int, isNon_str, isNon_lst, isNon_tup, isNon_dct, isNon_ins, isNon_exc, dXv, reprG, DD.D.ins.injEq, DD.D.exc.injEq, cmpIG, neIG, clsD, Option.bind_some, B.s.injEq, if_true, if_false, dNeg, dLenSet, dIndex, dClrE, dAppE, dCallK, eqKG, sortedSG, dRaise]
    refine ⟨"caller", f1, "caller", rs1, ss1, rfl, l1, l3, ?_⟩
    simp only [startD, List.map_cons, List.map_nil, List.length_cons, List.length_nil, Nat.reduceAdd, Nat.reduceSub, List.replicate, List.cons_append, List.nil_append, dSet, dIfS, dT, dOp, dCB, dCons, dNil, dV, dM, dC, dp, dNext, dRet, dRetN, dLst, dTup, dDrop, dNot, dAnd, dOr, dAndV, dOrV, dNotV, intG, intG0, lenG, lenD, ixG, itemD, intCG, intOf, maxG, List.getElem?_cons_zero, List.getElem?_cons_succ, List.set_cons_zero, List.set_cons_succ, Option.some.injEq, B.isU, B.d, B.rd, exists_eq_left', exists_eq_left, exists_and_left, true_and, and_true, B.p.injEq, DD.D.bl.injEq, DD.D.int.injEq, List.cons.injEq, DD.PC, decide_eq_true_eq, and_assoc, Option.map_some, dLc, iAny, walked, wipeE, gN, dCall, dCallP, dCallF, eqG, neG, Bool.not_true, Bool.not_false, if_true, if_false, Bool.false_eq_true, reduceIte, List.append_nil, dCBK, addG, dM1, gT, gsCons, gsNil, iEnumD, dAsP, iR1, dPart, dNo, dSl, freB, lstD, List.all_cons, List.all_nil, litD, Bool.and_self, dReprPair, dDctN, itemD2, ixG2, keyD, lookD, strG2, dPar, bCons, bNil, dFor, List.zip_cons_cons, List.zip_nil_right, List.foldl_cons, List.foldl_nil, dApp, B.o.injEq, DD.D.lst.injEq, DD.D.tup.injEq, exists_eq', dDct0, B.u.injEq, sizeLine_eq, Nat.reduceLeDiff, Nat.reduceLT, Nat.zero_le, true_implies, slG, List.length_map, tupleG, seqD, listG, iR2, List.length_take, List.length_drop, List.length_append, DD.D.str.injEq, mulG, dAsg, dFld, lookF, dSetF, setF, dProp, dMeth, dMake, dMakeK, cxOf_K, dChain, notNG, isNG, isNon_non, isNon_bl, isNon_int, isNon_str, isNon_lst, isNon_tup, isNon_dct, isNon_ins, isNon_exc, dXv, reprG, DD.D.ins.injEq, DD.D.exc.injEq, cmpIG, neIG, clsD, Option.bind_some, B.s.injEq, if_true, if_false, dNeg, dLenSet, dIndex, dClrE, dAppE, dCallK, eqKG, sortedSG]
    refine ⟨"host", f2, "host", rs2, ss2, rfl, l2, l4, ?_⟩
    simp only [startD, List.map_cons, List.map_nil, List.length_cons, List.length_nil, Nat.reduceAdd, Nat.reduceSub, List.replicate, List.cons_append, List.nil_append, dSet, dIfS, dT, dOp, dCB, dCons, dNil, dV, dM, dC, dp, dNext, dRet, dRetN, dLst, dTup, dDrop, dNot, dAnd, dOr, dAndV, dOrV, dNotV, intG, intG0, lenG, lenD, ixG, itemD, intCG, intOf, maxG, List.getElem?_cons_zero, List.getElem?_cons_succ, List.set_cons_zero, List.set_cons_succ, Option.some.injEq, B.isU, B.d, B.rd, exists_eq_left', exists_eq_left, exists_and_left, true_and, and_true, B.p.injEq, DD.D.bl.injEq, DD.D.int.injEq, List.cons.injEq, DD.PC, decide_eq_true_eq, and_assoc, Option.map_some, dLc, iAny, walked, wipeE, gN, dCall, dCallP, dCallF, eqG, neG, Bool.not_true, Bool.not_false, if_true, if_false, Bool.false_eq_true, reduceIte, List.append_nil, dCBK, addG, dM1, gT, gsCons, gsNil, iEnumD, dAsP, iR1, dPart, dNo, dSl, freB, lstD, List.all_cons, List.all_nil, litD, Bool.and_self, dReprPair, dDctN, itemD2, ixG2, keyD, lookD, strG2, dPar, bCons, bNil, dFor, List.zip_cons_cons, List.zip_nil_right, List.foldl_cons, List.foldl_nil, dApp, B.o.injEq, DD.D.lst.injEq, DD.D.tup.injEq, exists_eq', dDct0, B.u.injEq, sizeLine_eq, Nat.reduceLeDiff, Nat.reduceLT, Nat.zero_le, true_implies, slG, List.length_map, tupleG, seqD, listG, iR2, List.length_take, List.length_drop, List.length_append, DD.D.str.injEq, mulG, dAsg, dFld, lookF, dSetF, setF, dProp, dMeth, dMake, dMakeK, cxOf_K, dChain, notNG, isNG, isNon_non, isNon_bl, isNon_int, isNon_str, isNon_lst, isNon_tup, isNon_dct, isNon_ins, isNon_exc, dXv, reprG, DD.D.ins.injEq, DD.D.exc.injEq, cmpIG, neIG, clsD, Option.bind_some, B.s.injEq, if_true, if_false, dNeg, dLenSet, dIndex, dClrE, dAppE, dCallK, eqKG, sortedSG]
    refine ⟨_, rfl, h2, ?_⟩
    rw [h1]
    simp only [startD, List.map_cons, List.map_nil, List.length_cons, List.length_nil, Nat.reduceAdd, Nat.reduceSub, List.replicate, List.cons_append, List.nil_append, dSet, dIfS, dT, dOp, dCB, dCons, dNil, dV, dM, dC, dp, dNext, dRet, dRetN, dLst, dTup, dDrop, dNot, dAnd, dOr, dAndV, dOrV, dNotV, intG, intG0, lenG, lenD, ixG, itemD, intCG, intOf, maxG, List.getElem?_cons_zero, List.getElem?_cons_succ, List.set_cons_zero, List.set_cons_succ, Option.some.injEq, B.isU, B.d, B.rd, exists_eq_left', exists_eq_left, exists_and_left, true_and, and_true, B.p.injEq, DD.D.bl.injEq, DD.D.int.injEq, List.cons.injEq, DD.PC, decide_eq_true_eq, and_assoc, Option.map_some, dLc, iAny, walked, wipeE, gN, dCall, dCallP, dCallF, eqG, neG, Bool.not_true, Bool.not_false, if_true, if_false, Bool.false_eq_true, reduceIte, List.append_nil, dCBK, addG, dM1, gT, gsCons, gsNil, iEnumD, dAsP, iR1, dPart, dNo, dSl, freB, lstD, List.all_cons, List.all_nil, litD, Bool.and_self, dReprPair, dDctN, itemD2, ixG2, keyD, lookD, strG2, dPar, bCons, bNil, dFor, List.zip_cons_cons, List.zip_nil_right, List.foldl_cons, List.foldl_nil, dApp, B.o.injEq, DD.D.lst.injEq, DD.D.tup.injEq, exists_eq', dDct0, B.u.injEq, sizeLine_eq, Nat.reduceLeDiff, Nat.reduceLT, Nat.zero_le, true_implies, slG, List.length_map, tupleG, seqD, listG, iR2, List.length_take, List.length_drop, List.length_append, DD.D.str.injEq, mulG, dAsg, dFld, lookF, dSetF, setF, dProp, dMeth, dMake, dMakeK, cxOf_K, dChain, notNG, isNG, isNon_non, isNon_bl, isNon_int, isNon_str, isNon_lst, isNon_tup, isNon_dct, isNon_ins, isNon_exc, dXv, reprG, DD.D.ins.injEq, DD.D.exc.injEq, cmpIG, neIG, clsD, Option.bind_some, B.s.injEq, if_true, if_false, dNeg, dLenSet, dIndex, dClrE, dAppE, dCallK, eqKG, sortedSG, n1]
    refine dseq ?_
    simp only [startD, List.map_cons, List.map_nil, List.length_cons, List.length_nil, Nat.reduceAdd, Nat.reduceSub, List.replicate, List.cons_append, List.nil_append, dSet, dIfS, dT, dOp, dCB, dCons, dNil, dV, dM, dC, dp, dNext, dRet, dRetN, dLst, dTup, dDrop, dNot, dAnd, dOr, dAndV, dOrV, dNotV, intG, intG0, lenG, lenD, ixG, itemD, intCG, intOf, maxG, List.getElem?_cons_zero, List.getElem?_cons_succ, List.set_cons_zero, List.set_cons_succ, Option.some.injEq, B.isU, B.d, B.rd, exists_eq_left', exists_eq_left, exists_and_left, true_and, and_true, B.p.injEq, DD.D.bl.injEq, DD.D.int.injEq, List.cons.injEq, DD.PC, decide_eq_true_eq, and_assoc, Option.map_some, dLc, iAny, walked, wipeE, gN, dCall, dCallP, dCallF, eqG, neG, Bool.not_true, Bool.not_false, if_true, if_false, Bool.false_eq_true, reduceIte, List.append_nil, dCBK, addG, dM1, gT, gsCons, gsNil, iEnumD, dAsP, iR1, dPart, dNo, dSl, freB, lstD, List.all_cons, List.all_nil, litD, Bool.and_self, dReprPair, dDctN, itemD2, ixG2, keyD, lookD, strG2, dPar, bCons, bNil, dFor, List.zip_cons_cons, List.zip_nil_right, List.foldl_cons, List.foldl_nil, dApp, B.o.injEq, DD.D.lst.injEq, DD.D.tup.injEq, exists_eq', dDct0, B.u.injEq, sizeLine_eq, Nat.reduceLeDiff, Nat.reduceLT, Nat.zero_le, true_implies, slG, List.length_map, tupleG, seqD, listG, iR2, List.length_take, List.length_drop, List.length_append, DD.D.str.injEq, mulG, dAsg, dFld, lookF, dSetF, setF, dProp, dMeth, dMake, dMakeK, cxOf_K, dChain, notNG, isNG, isNon_non, isNon_bl, isNon_int, isNon_str, isNon_lst, isNon_tup, isNon_dct, isNon_ins, isNon_exc, dXv, reprG, DD.D.ins.injEq, DD.D.exc.injEq, cmpIG, neIG, clsD, Option.bind_some, B.s.injEq, if_true, if_false, dNeg, dLenSet, dIndex, dClrE, dAppE, dCallK, eqKG, sortedSG]
    refine ⟨fo_r, ?_⟩
    simp only [startD, List.map_cons, List.map_nil, List.length_cons, List.length_nil, Nat.reduceAdd, Nat.reduceSub, List.replicate, List.cons_append, List.nil_append, dSet, dIfS, dT, dOp, dCB, dCons, dNil, dV, dM, dC, dp, dNext, dRet, dRetN, dLst, dTup, dDrop, dNot, dAnd, dOr, dAndV, dOrV, dNotV, intG, intG0, lenG, lenD, ixG, itemD, intCG, intOf, maxG, List.getElem?_cons_zero, List.getElem?_cons_succ, List.set_cons_zero, List.set_cons_succ, Option.some.injEq, B.isU, B.d, B.rd, exists_eq_left', exists_eq_left, exists_and_left, true_and, and_true, B.p.injEq, DD.D.bl.injEq, DD.D.int.injEq, List.cons.injEq, DD.PC, decide_eq_true_eq, and_assoc, Option.map_some, dLc, iAny, walked, wipeE, gN, dCall, dCallP, dCallF, eqG, neG, Bool.not_true, Bool.not_false, if_true, if_false, Bool.false_eq_true, reduceIte, List.append_nil, dCBK, addG, dM1, gT, gsCons, gsNil, iEnumD, dAsP, iR1, dPart, dNo, dSl, freB, lstD, List.all_cons, List.all_nil, litD, Bool.and_self, dReprPair, dDctN, itemD2, ixG2, keyD, lookD, strG2, dPar, bCons, bNil, dFor, List.zip_cons_cons, List.zip_nil_right, List.foldl_cons, List.foldl_nil, dApp, B.o.injEq, DD.D.lst.injEq, DD.D.tup.injEq, exists_eq', dDct0, B.u.injEq, sizeLine_eq, Nat.reduceLeDiff, Nat.reduceLT, Nat.zero_le, true_implies, slG, List.length_map, tupleG, seqD, listG, iR2, List.length_take, List.length_drop, List.length_append, DD.D.str.injEq, mulG, dAsg, dFld, lookF, dSetF, setF, dProp, dMeth, dMake, dMakeK, cxOf_K, dChain, notNG, isNG, isNon_non, isNon_bl, isNon_int, isNon_str, isNon_lst, isNon_tup, isNon_dct, isNon_ins, isNon_exc, dXv, reprG, DD.D.ins.injEq, DD.D.exc.injEq, cmpIG, neIG, clsD, Option.bind_some, B.s.injEq, if_true, if_false, dNeg, dLenSet, dIndex, dClrE, dAppE, dCallK, eqKG, sortedSG, n1]
    exact ⟨fo_w, q⟩
abbrev s_Design_caller : Stmt := memS (topS 29) 1
theorem sc_Design_caller : FnScope ["self"] ["self"] (defScope s_Design_caller) := ⟨rfl, rfl, rfl, by decide +kernel, rfl, by decide +kernel, by decide +kernel⟩
def spd_Design_caller (aDe aRo : Addr) : Spd := fun bs R _ => ∃ (f1 f2 he : Str) (rs1 rs2 : List D) (ss1 ss2 : List Str), bs = [.p (desD aDe aRo f1 rs1 ss1 f2 rs2 ss2 he)] ∧ R (.p (roleD aRo "caller" f1 rs1 ss1)) 0
theorem cal_Design_caller {a_Design : Addr} (Da : PropAt K a_Design "caller" "Design.caller" s_Design_caller) {a_Role : Addr} (fo_r : FldOk K a_Design "roles") (fo_w : FldOk K a_Design "word") : PropC P w K mg base a_Design "caller" 1 (spd_Design_caller a_Design a_Role) := by
  refine prop_mk Da sc_Design_caller (fun _ _ _ _ _ _ us hl => match us, hl with | [_], _ => rfl) (fun bs R E h => ?_) (fun bs R E h => ?_) fun f cdv A outer s H E W bs R ED gu hr te h fh => ?_
  · obtain ⟨f1, f2, he, rs1, rs2, ss1, ss2, rfl, q⟩ := h
    rfl
  · obtain ⟨f1, f2, he, rs1, rs2, ss1, ss2, rfl, q⟩ := h
    exact pur_none (by simp [B.own])
  · obtain ⟨f1, f2, he, rs1, rs2, ss1, ss2, rfl, q⟩ := h
    have nd := sc_Design_caller.nd
    have hu := hr.units
    refine ⟨_, (dss_one (ds_ret (de_ix2 hu (de_fld (de_v 0)) de_int fun _ _ => rfl))), ?_⟩
    have n1 : (Str.ofString "word" = Str.ofString "roles") = False := eq_false (by decide)
    simp only [startD, List.map_cons, List.map_nil, List.length_cons, List.length_nil, Nat.reduceAdd, Nat.reduceSub, List.replicate, List.cons_append, List.nil_append, dSet, dIfS, dT, dOp, dCB, dCons, dNil, dV, dM, dC, dp, dNext, dRet, dRetN, dLst, dTup, dDrop, dNot, dAnd, dOr, dAndV, dOrV, dNotV, intG, intG0, lenG, lenD, ixG, itemD, intCG, intOf, maxG, List.getElem?_cons_zero, List.getElem?_cons_succ, List.set_cons_zero, List.set_cons_succ, Option.some.injEq, B.isU, B.d, B.rd, exists_eq_left', exists_eq_left, exists_and_left, true_and, and_true, B.p.injEq, DD.D.bl.injEq, DD.D.int.injEq, List.cons.injEq, DD.PC, decide_eq_true_eq, and_assoc, Option.map_some, dLc, iAny, walked, wipeE, gN, dCall, dCallP, dCallF, eqG, neG, Bool.not_true, Bool.not_false, if_true, if_false, Bool.false_eq_true, reduceIte, List.append_nil, dCBK, addG, dM1, gT, gsCons, gsNil, iEnumD, dAsP, iR1, dPart, dNo, dSl, freB, lstD, List.all_cons, List.all_nil, litD, Bool.and_self, dReprPair, dDctN, itemD2, ixG2, keyD, lookD, strG2, dPar, bCons, bNil, dFor, List.zip_cons_cons, List.zip_nil_right, List.foldl_cons, List.foldl_nil, dApp, B.o.injEq, DD.D.lst.injEq, DD.D.tup.injEq, exists_eq', dDct0, B.u.injEq, sizeLine_eq, Nat.reduceLeDiff, Nat.reduceLT, Nat.zero_le, true_implies, slG, List.length_map, tupleG, seqD, listG, iR2, List.length_take, List.length_drop, List.length_append, DD.D.str.injEq, mulG, dAsg, dFld, lookF, dSetF, setF, dProp, dMeth, dMake, dMakeK, cxOf_K, dChain, notNG, isNG, isNon_non, isNon_bl, isNon_int, isNon_str, isNon_lst, isNon_tup, isNon_dct, isNon_ins, isNon_exc, dXv, reprG, DD.D.ins.injEq, DD.D.exc.injEq, cmpIG, neIG, clsD, Option.bind_some, B.s.injEq, if_true, if_false, dNeg, dLenSet, dIndex, dClrE, dAppE, dCallK, eqKG, sortedSG, desD, n1]
    exact ⟨fo_r, _, rfl, 0, q⟩
abbrev s_Design_host : Stmt := memS (topS 29) 2
theorem sc_Design_host : FnScope ["self"] ["self"] (defScope s_Design_host) := ⟨rfl, rfl, rfl, by decide +kernel, rfl, by decide +kernel, by decide +kernel⟩
def spd_Design_host (aDe aRo : Addr) : Spd := fun bs R _ => ∃ (f1 f2 he : Str) (rs1 rs2 : List D) (ss1 ss2 : List Str), bs = [.p (desD aDe aRo f1 rs1 ss1 f2 rs2 ss2 he)] ∧ R (.p (roleD aRo "host" f2 rs2 ss2)) 0
theorem cal_Design_host {a_Design : Addr} (Da : PropAt K a_Design "host" "Design.host" s_Design_host) {a_Role : Addr} (fo_r : FldOk K a_Design "roles") (fo_w : FldOk K a_Design "word") : PropC P w K mg base a_Design "host" 1 (spd_Design_host a_Design a_Role) := by
  refine prop_mk Da sc_Design_host (fun _ _ _ _ _ _ us hl => match us, hl with | [_], _ => rfl) (fun bs R E h => ?_) (fun bs R E h => ?_) fun f cdv A outer s H E W bs R ED gu hr te h fh => ?_
  · obtain ⟨f1, f2, he, rs1, rs2, ss1, ss2, rfl, q⟩ := h
    rfl
  · obtain ⟨f1, f2, he, rs1, rs2, ss1, ss2, rfl, q⟩ := h
    exact pur_none (by simp [B.own])
  · obtain ⟨f1, f2, he, rs1, rs2, ss1, ss2, rfl, q⟩ := h
    have nd := sc_Design_host.nd
    have hu := hr.units
    refine ⟨_, (dss_one (ds_ret (de_ix2 hu (de_fld (de_v 0)) de_int fun _ _ => rfl))), ?_⟩
    have n1 : (Str.ofString "word" = Str.ofString "roles") = False := eq_false (by decide)
    simp only [startD, List.map_cons, List.map_nil, List.length_cons, List.length_nil, Nat.reduceAdd, Nat.reduceSub, List.replicate, List.cons_append, List.nil_append, dSet, dIfS, dT, dOp, dCB, dCons, dNil, dV, dM, dC, dp, dNext, dRet, dRetN, dLst, dTup, dDrop, dNot, dAnd, dOr, dAndV, dOrV, dNotV, intG, intG0, lenG, lenD, ixG, itemD, intCG, intOf, maxG, List.getElem?_cons_zero, List.getElem?_cons_succ, List.set_cons_zero, List.set_cons_succ, Option.some.injEq, B.isU, B.d, B.rd, exists_eq_left', exists_eq_left, exists_and_left, true_and, and_true, B.p.injEq, DD.D.bl.injEq, DD.D.int.injEq, List.cons.injEq, DD.PC, decide_eq_true_eq, and_assoc, Option.map_some, dLc, iAny, walked, wipeE, gN, dCall, dCallP, dCallF, eqG, neG, Bool.not_true, Bool.not_false, if_true, if_false, Bool.false_eq_true, reduceIte, List.append_nil, dCBK, addG, dM1, gT, gsCons, gsNil, iEnumD, dAsP, iR1, dPart, dNo, dSl, freB, lstD, List.all_cons, List.all_nil, litD, Bool.and_self, dReprPair, dDctN, itemD2, ixG2, keyD, lookD, strG2, dPar, bCons, bNil, dFor, List.zip_cons_cons, List.zip_nil_right, List.foldl_cons, List.foldl_nil, dApp, B.o.injEq, DD.D.lst.injEq, DD.D.tup.injEq, exists_eq', dDct0, B.u.injEq, sizeLine_eq, Nat.reduceLeDiff, Nat.reduceLT, Nat.zero_le, true_implies, slG, List.length_map, tupleG, seqD, listG, iR2, List.length_take, List.length_drop, List.length_append, DD.D.str.injEq, mulG, dAsg, dFld, lookF, dSetF, setF, dProp, dMeth, dMake, dMakeK, cxOf_K, dChain, notNG, isNG, isNon_non, isNon_bl, isNon_int, isNon_str, isNon_lst, isNon_tup, isNon_dct, isNon_ins, isNon_exc, dXv, reprG, DD.D.ins.injEq, DD.D.exc.injEq, cmpIG, neIG, clsD, Option.bind_some, B.s.injEq, if_true, if_false, dNeg, dLenSet, dIndex, dClrE, dAppE, dCallK, eqKG, sortedSG, desD, n1]
    exact ⟨fo_r, _, rfl, 0, q⟩
abbrev s_Design_hello : Stmt := memS (topS 29) 3
theorem sc_Design_hello : FnScope ["self"] ["self"] (defScope s_Design_hello) := ⟨rfl, rfl, rfl, by decide +kernel, rfl, by decide +kernel, by decide +kernel⟩
def spd_Design_hello (aDe aRo : Addr) : Spd := fun bs R _ => ∃ (f1 f2 he : Str) (rs1 rs2 : List D) (ss1 ss2 : List Str), bs = [.p (desD aDe aRo f1 rs1 ss1 f2 rs2 ss2 he)] ∧ R (.p (.str he)) 0
theorem cal_Design_hello {a_Design : Addr} (Da : PropAt K a_Design "hello" "Design.hello" s_Design_hello) {a_Role : Addr} (fo_r : FldOk K a_Design "roles") (fo_w : FldOk K a_Design "word") : PropC P w K mg base a_Design "hello" 1 (spd_Design_hello a_Design a_Role) := by
  refine prop_mk Da sc_Design_hello (fun _ _ _ _ _ _ us hl => match us, hl with | [_], _ => rfl) (fun bs R E h => ?_) (fun bs R E h => ?_) fun f cdv A outer s H E W bs R ED gu hr te h fh => ?_
  · obtain ⟨f1, f2, he, rs1, rs2, ss1, ss2, rfl, q⟩ := h
    rfl
  · obtain ⟨f1, f2, he, rs1, rs2, ss1, ss2, rfl, q⟩ := h
    exact pur_none (by simp [B.own])
  · obtain ⟨f1, f2, he, rs1, rs2, ss1, ss2, rfl, q⟩ := h
    have nd := sc_Design_hello.nd
    have hu := hr.units
    refine ⟨_, (dss_one (ds_ret (de_fld (de_v 0)))), ?_⟩
    have n1 : (Str.ofString "word" = Str.ofString "roles") = False := eq_false (by decide)
    simp only [startD, List.map_cons, List.map_nil, List.length_cons, List.length_nil, Nat.reduceAdd, Nat.reduceSub, List.replicate, List.cons_append, List.nil_append, dSet, dIfS, dT, dOp, dCB, dCons, dNil, dV, dM, dC, dp, dNext, dRet, dRetN, dLst, dTup, dDrop, dNot, dAnd, dOr, dAndV, dOrV, dNotV, intG, intG0, lenG, lenD, ixG, itemD, intCG, intOf, maxG, List.getElem?_cons_zero, List.getElem?_cons_succ, List.set_cons_zero, List.set_cons_succ, Option.some.injEq, B.isU, B.d, B.rd, exists_eq_left', exists_eq_left, exists_and_left, true_and, and_true, B.p.injEq, DD.D.bl.injEq, DD.D.int.injEq, List.cons.injEq, DD.PC, decide_eq_true_eq, and_assoc, Option.map_some, dLc, iAny, walked, wipeE, gN, dCall, dCallP, dCallF, eqG, neG, Bool.not_true, Bool.not_false, if_true, if_false, Bool.false_eq_true, reduceIte, List.append_nil, dCBK, addG, dM1, gT, gsCons, gsNil, iEnumD, dAsP, iR1, dPart, dNo, dSl, freB, lstD, List.all_cons, List.all_nil, litD, Bool.and_self, dReprPair, dDctN, itemD2, ixG2, keyD, lookD, strG2, dPar, bCons, bNil, dFor, List.zip_cons_cons, List.zip_nil_right, List.foldl_cons, List.foldl_nil, dApp, B.o.injEq, DD.D.lst.injEq, DD.D.tup.injEq, exists_eq', dDct0, B.u.injEq, sizeLine_eq, Nat.reduceLeDiff, Nat.reduceLT, Nat.zero_le, true_implies, slG, List.length_map, tupleG, seqD, listG, iR2, List.length_take, List.length_drop, List.length_append, DD.D.str.injEq, mulG, dAsg, dFld, lookF, dSetF, setF, dProp, dMeth, dMake, dMakeK, cxOf_K, dChain, notNG, isNG, isNon_non, isNon_bl, isNon_int, isNon_str, isNon_lst, isNon_tup, isNon_dct, isNon_ins, isNon_exc, dXv, reprG, DD.D.ins.injEq, DD.D.exc.injEq, cmpIG, neIG, clsD, Option.bind_some, B.s.injEq, if_true, if_false, dNeg, dLenSet, dIndex, dClrE, dAppE, dCallK, eqKG, sortedSG, desD, n1]
    exact ⟨fo_w, 0, q⟩

/-- Role == Role -/
def rRole (aRo aR : Addr) : EqR := fun c d k => ∃ sd f rs ss sd2 f2 rs2 ss2 k1 k2 k3, c = roleD aRo sd f rs ss ∧ d = roleD aRo sd2 f2 rs2 ss2 ∧ eqD (.tup [.str sd, .str f]) (.tup [.str sd2, .str f2]) = some k1 ∧ rTab aR (.tup rs) (.tup rs2) k2 ∧ eqD (.tup (ss.map D.str)) (.tup (ss2.map D.str)) = some k3 ∧ k = (k1 && k2 && k3)
theorem pure_strs : ∀ ss : List Str, pureL (ss.map D.str) = true
  | [] => rfl
  | _ :: ss => pure_strs ss
theorem pure_role {aRo : Addr} {sd f : Str} {rs : List D} {ss : List Str} (h : pureL rs = true) : pureD (roleD aRo sd f rs ss) = true := by
  show (true && (pureL rs && (pureL (ss.map D.str) && true))) = true
  rw [h, pure_strs]
  rfl
theorem eqW_role {aRo aR : Addr} : EqW (rRole aRo aR) where
  p := fun c d k ⟨sd, f, rs, ss, sd2, f2, rs2, ss2, k1, k2, k3, e1, e2, _, h, _⟩ => by
    subst e1 e2
    obtain ⟨p1, p2⟩ := eqW_tab.p _ _ _ h
    exact ⟨pure_role p1, pure_role p2⟩
  r := fun c k ⟨sd, f, rs, ss, sd2, f2, rs2, ss2, k1, k2, k3, e1, e2, h1, h2, h3, e⟩ => by
    subst e1
    unfold roleD at e2
    simp only [D.ins.injEq, List.cons.injEq, D.tup.injEq, D.str.injEq, and_true, true_and] at e2
    obtain ⟨⟨rfl, rfl⟩, rfl, e3⟩ := e2
    rw [e3] at h3
    rw [e, eqD_self rfl h1, eqW_tab.r _ _ h2, eqD_self rfl h3]
    rfl
theorem hs_role {aRo aR : Addr} : ∀ x y k, rRole aRo aR x y k → spd_Role___eq__ aRo aR [.p x, .p y] (fun b _ => b = .p (.bl k)) fun _ _ _ => False := fun x y k ⟨sd, f, rs, ss, sd2, f2, rs2, ss2, k1, k2, k3, e1, e2, h1, h2, h3, e⟩ => by
  subst e1 e2 e
  exact ⟨sd, f, rs, ss, _, rfl, .inr ⟨sd2, f2, rs2, ss2, k1, k2, k3, rfl, h1, h2, h3, rfl⟩⟩
def rRol (aRo aR : Addr) : EqR := rTup (rIns aRo (rRole aRo aR))
theorem eqW_rol {aRo aR : Addr} : EqW (rRol aRo aR) := eqW_tup (eqW_ins eqW_role)
theorem rcK_rol {X : Cx} {aRo aR : Addr} (c : CmpC X.prog X.w X.K X.mg X.base aRo "__eq__" 3 (spd_Role___eq__ aRo aR)) : RcK X 4 (rRol aRo aR) := rcK_tup (eqK_ins c hs_role eqW_role)

abbrev s_Design___eq__ : Stmt := memS (topS 29) 4
theorem sc_Design___eq__ : FnScope ["self", "other"] ["self", "other"] (defScope s_Design___eq__) := ⟨rfl, rfl, rfl, by decide +kernel, rfl, by decide +kernel, by decide +kernel⟩
def spd_Design___eq__ (aDe aRo aR : Addr) : Spd := fun bs R _ => ∃ f1 rs1 ss1 f2 rs2 ss2 he g1 qs1 ts1 g2 qs2 ts2 he2 k, bs = [.p (desD aDe aRo f1 rs1 ss1 f2 rs2 ss2 he), .p (desD aDe aRo g1 qs1 ts1 g2 qs2 ts2 he2)] ∧ rRol aRo aR (.tup [roleD aRo "caller" f1 rs1 ss1, roleD aRo "host" f2 rs2 ss2]) (.tup [roleD aRo "caller" g1 qs1 ts1, roleD aRo "host" g2 qs2 ts2]) k ∧ R (.p (.bl (k && decide (he = he2)))) 0
theorem cal_Design___eq__ {a_Design : Addr} (Da : MethAt K a_Design "__eq__" "Design.__eq__" s_Design___eq__) (fo_r : FldOk K a_Design "roles") (fo_w : FldOk K a_Design "word") {a_Role a_Rule : Addr} (eq_Role : CmpC P w K mg base a_Role "__eq__" 3 (spd_Role___eq__ a_Role a_Rule)) (io : InsOk K a_Design) (c_Design : ConAt K mg "Design" (.ref a_Design)) (m_isinstance : mg "isinstance" = none) : MethC P w K mg base a_Design "__eq__" 5 ["self", "other"] (spd_Design___eq__ a_Design a_Role a_Rule) := by
  refine meth_mk Da sc_Design___eq__ (fun _ _ _ _ _ _ us hl => match us, hl with | [_, _], _ => rfl) (fun bs R E h => ?_) (fun bs R E h => ?_) fun f cdv A outer s H E W bs R ED gu hr te h fh => ?_
  · obtain ⟨f1, rs1, ss1, f2, rs2, ss2, he, g1, qs1, ts1, g2, qs2, ts2, he2, k, rfl, hk, q⟩ := h
    rfl
  · obtain ⟨f1, rs1, ss1, f2, rs2, ss2, he, g1, qs1, ts1, g2, qs2, ts2, he2, k, rfl, hk, q⟩ := h
    exact pur_none (by simp [B.own])
  · obtain ⟨f1, rs1, ss1, f2, rs2, ss2, he, g1, qs1, ts1, g2, qs2, ts2, he2, k, rfl, hk, q⟩ := h
    have nd := sc_Design___eq__.nd
    have hu := hr.units
    have rol : RcK (cxOf (L2.CX P w) P w K mg base ["self", "other"] "Design.__eq__" (defScope s_Design___eq__) f cdv A outer s H E) 4 (rRol a_Role a_Rule) := rcK_rol eq_Role
    refine ⟨_, (dss_one (ds_ret (de_and (de_callB call_isZ (rc_isa (K := K)) rfl m_isinstance bt_isinstance (da_cons (de_v 1) (da_cons (de_con c_Design) da_nil))) (de_and (de_eqK rol gu hr (de_fld (de_v 0)) (de_fld (de_v 1))) (de_one (de_cmp (op_eqAll hu) rd_eq (de_fld (de_v 0)) (de_fld (de_v 1)) rfl)))))), ?_⟩
    have n1 : (Str.ofString "word" = Str.ofString "roles") = False := eq_false (by decide)
    simp only [startD, List.map_cons, List.map_nil, List.length_cons, List.length_nil, Nat.reduceAdd, Nat.reduceSub, List.replicate, List.cons_append, List.nil_append, dSeq, dSet, dIfS, dT, dOp, dCB, dCons, dNil, dV, dM, dC, dp, dNext, dRet, dRetN, dLst, dTup, dDrop, dNot, dAnd, dOr, dAndV, dOrV, dNotV, intG, intG0, lenG, lenD, ixG, itemD, intCG, intOf, maxG, List.getElem?_cons_zero, List.getElem?_cons_succ, List.set_cons_zero, List.set_cons_succ, Option.some.injEq, B.isU, B.d, B.rd, exists_eq_left', exists_eq_left, exists_and_left, true_and, and_true, B.p.injEq, DD.D.bl.injEq, DD.D.int.injEq, List.cons.injEq, DD.PC, decide_eq_true_eq, and_assoc, Option.map_some, dLc, iAny, walked, wipeE, gN, dCall, dCallP, dCallF, eqG, neG, Bool.not_true, Bool.not_false, if_true, if_false, Bool.false_eq_true, reduceIte, List.append_nil, dCBK, addG, dM1, gT, gsCons, gsNil, iEnumD, dAsP, iR1, dPart, dNo, dSl, freB, lstD, List.all_cons, List.all_nil, litD, Bool.and_self, dReprPair, dDctN, itemD2, ixG2, keyD, lookD, strG2, dPar, bCons, bNil, dFor, List.zip_cons_cons, List.zip_nil_right, List.foldl_cons, List.foldl_nil, dApp, B.o.injEq, DD.D.lst.injEq, DD.D.tup.injEq, exists_eq', dDct0, B.u.injEq, sizeLine_eq, Nat.reduceLeDiff, Nat.reduceLT, Nat.zero_le, true_implies, slG, List.length_map, tupleG, seqD, listG, iR2, List.length_take, List.length_drop, List.length_append, DD.D.str.injEq, mulG, dAsg, dFld, lookF, dSetF, setF, dProp, dMeth, dMake, dMakeK, cxOf_K, dChain, notNG, isNG, isNon_non, isNon_bl, isNon_int, isNon_str, isNon_lst, isNon_tup, isNon_dct, isNon_ins, isNon_exc, dXv, reprG, DD.D.ins.injEq, DD.D.exc.injEq, cmpIG, neIG, clsD, Option.bind_some, B.s.injEq, if_true, if_false, dNeg, dLenSet, dIndex, dClrE, dAppE, dCallK, eqKG, sortedSG, desD, n1, isa_ins io kitOne_self, eqD_str]
    refine ⟨fo_r, fo_r, k, hk, ?_⟩
    cases k
    · exact ⟨0, q⟩
    · exact ⟨fo_w, fo_w, 0, q⟩
end
end K

set_option Elab.async false
set_option linter.all false
set_option maxRecDepth 100000
set_option maxHeartbeats 8000000
namespace K
open PySem PySem.Spec PyProof.Rows L2 DD
section
variable {P : Program} {w : World} {K : PySem.W.Frag} {mg : Str → Option Value} {base : Heap}

theorem mkr_2_then {a_Rule aI : Addr} {k : Nat} (h : ∃ f fd, GnOk P w K mg base k f fd ["self", "mode", "heard", "which", "then", "move", "send"] (toSpS K (spi_Rule a_Rule aI)) ∧ Mk K a_Rule f ∧ mg "Rule" = some (.ref a_Rule) ∧ FunD K "__init__" "Rule.__init__" (defArgs s_Rule___init__) (defBody s_Rule___init__) (defScope s_Rule___init__) [V.str "any"] [("then", V.non), ("move", V.str "stay"), ("send", V.non)] f fd) :
    MakK P w K mg base "Rule" a_Rule k 2 ["then"] (fun ds es => ds ++ [D.str "any"] ++ es ++ [D.str "stay", D.non]) (spi_Rule a_Rule aI) := by
  obtain ⟨f, fd, G, M, hm, F⟩ := h
  obtain ⟨its, mv, kb⟩ := F.kbinds (ps := ["self", "mode", "heard", "which", "then", "move", "send"]) 3 ["then"] [("move", V.str "stay"), ("send", V.non)] (fun us its mv ws => us ++ its ++ ws ++ mv) (by simp) (by simp) (fun _ h => by first | (simp at h; done) | (simp at h; rcases h with rfl | rfl | rfl <;> simp)) (fun r1 r2 r3 r4 => (((r1.append r2).append r4).append r3))
    (fun T D doc pm an cdv ct us its mv ws h1 h2 h3 h4 => match us, h1, its, h2, mv, h3, ws, h4 with | [_, _, _], _, [_], _, [_, _], _, [_], _ => ⟨_, rfl, ⟨_, _, _, _, _, _, rfl, rfl, _, _, _, _, _, _, rfl, rfl, rfl⟩⟩)
  refine ⟨f, fd, _, (fun ds es => ds ++ [V.str "any"] ++ es ++ [V.str "stay", V.non]), G, M, hm, ⟨⟨fun us ws => us ++ its ++ ws ++ mv, fun s y us ws X l1 l2 => kb.to s (y :: us) ws X (by rw [List.length_cons, l1]) l2, fun {vs us zs ws} r1 r2 _ _ => ?_⟩, fun r1 r2 _ _ => ?_⟩⟩
  · have z := kb.rel (vs := .non :: vs) (us := .none :: us) (.cons (show L2.RelV .non .none from rfl) r1) r2
    cases z with
    | cons _ z => exact z
  · exact (((r1.append (show RpL K _ [D.str "any"] [V.str "any"] from .cons (by unfold Rp; rfl) .nil)).append r2).append (show RpL K _ [D.str "stay", D.non] [V.str "stay", V.non] from (.cons (by unfold Rp; rfl) (.cons (by unfold Rp; rfl) .nil))))

theorem mkr_2_then_send {a_Rule aI : Addr} {k : Nat} (h : ∃ f fd, GnOk P w K mg base k f fd ["self", "mode", "heard", "which", "then", "move", "send"] (toSpS K (spi_Rule a_Rule aI)) ∧ Mk K a_Rule f ∧ mg "Rule" = some (.ref a_Rule) ∧ FunD K "__init__" "Rule.__init__" (defArgs s_Rule___init__) (defBody s_Rule___init__) (defScope s_Rule___init__) [V.str "any"] [("then", V.non), ("move", V.str "stay"), ("send", V.non)] f fd) :
    MakK P w K mg base "Rule" a_Rule k 2 ["then", "send"] (fun ds es => ds ++ [D.str "any"] ++ es.take 1 ++ [D.str "stay"] ++ es.drop 1) (spi_Rule a_Rule aI) := by
  obtain ⟨f, fd, G, M, hm, F⟩ := h
  obtain ⟨its, mv, kb⟩ := F.kbinds (ps := ["self", "mode", "heard", "which", "then", "move", "send"]) 3 ["then", "send"] [("move", V.str "stay")] (fun us its mv ws => us ++ its ++ ws.take 1 ++ mv ++ ws.drop 1) (by simp) (by simp) (fun _ h => by first | (simp at h; done) | (simp at h; rcases h with rfl | rfl | rfl <;> simp)) (fun r1 r2 r3 r4 => ((((r1.append r2).append (r4.take 1)).append r3).append (r4.drop 1)))
    (fun T D doc pm an cdv ct us its mv ws h1 h2 h3 h4 => match us, h1, its, h2, mv, h3, ws, h4 with | [_, _, _], _, [_], _, [_], _, [_, _], _ => ⟨_, rfl, ⟨_, _, _, _, _, _, rfl, rfl, rfl⟩⟩)
  refine ⟨f, fd, _, (fun ds es => ds ++ [V.str "any"] ++ es.take 1 ++ [V.str "stay"] ++ es.drop 1), G, M, hm, ⟨⟨fun us ws => us ++ its ++ ws.take 1 ++ mv ++ ws.drop 1, fun s y us ws X l1 l2 => kb.to s (y :: us) ws X (by rw [List.length_cons, l1]) l2, fun {vs us zs ws} r1 r2 _ _ => ?_⟩, fun r1 r2 _ _ => ?_⟩⟩
  · have z := kb.rel (vs := .non :: vs) (us := .none :: us) (.cons (show L2.RelV .non .none from rfl) r1) r2
    cases z with
    | cons _ z => exact z
  · exact ((((r1.append (show RpL K _ [D.str "any"] [V.str "any"] from .cons (by unfold Rp; rfl) .nil)).append (r2.take 1)).append (show RpL K _ [D.str "stay"] [V.str "stay"] from (.cons (by unfold Rp; rfl) .nil))).append (r2.drop 1))

theorem mkr_2_then_move_send {a_Rule aI : Addr} {k : Nat} (h : ∃ f fd, GnOk P w K mg base k f fd ["self", "mode", "heard", "which", "then", "move", "send"] (toSpS K (spi_Rule a_Rule aI)) ∧ Mk K a_Rule f ∧ mg "Rule" = some (.ref a_Rule) ∧ FunD K "__init__" "Rule.__init__" (defArgs s_Rule___init__) (defBody s_Rule___init__) (defScope s_Rule___init__) [V.str "any"] [("then", V.non), ("move", V.str "stay"), ("send", V.non)] f fd) :
    MakK P w K mg base "Rule" a_Rule k 2 ["then", "move", "send"] (fun ds es => ds ++ [D.str "any"] ++ es) (spi_Rule a_Rule aI) := by
  obtain ⟨f, fd, G, M, hm, F⟩ := h
  obtain ⟨its, mv, kb⟩ := F.kbinds (ps := ["self", "mode", "heard", "which", "then", "move", "send"]) 3 ["then", "move", "send"] [] (fun us its mv ws => us ++ its ++ ws) (by simp) (by simp) (fun _ h => by first | (simp at h; done) | (simp at h; rcases h with rfl | rfl | rfl <;> simp)) (fun r1 r2 r3 r4 => ((r1.append r2).append r4))
    (fun T D doc pm an cdv ct us its mv ws h1 h2 h3 h4 => match us, h1, its, h2, mv, h3, ws, h4 with | [_, _, _], _, [_], _, [], _, [_, _, _], _ => ⟨_, rfl, rfl⟩)
  refine ⟨f, fd, _, (fun ds es => ds ++ [V.str "any"] ++ es), G, M, hm, ⟨⟨fun us ws => us ++ its ++ ws, fun s y us ws X l1 l2 => kb.to s (y :: us) ws X (by rw [List.length_cons, l1]) l2, fun {vs us zs ws} r1 r2 _ _ => ?_⟩, fun r1 r2 _ _ => ?_⟩⟩
  · have z := kb.rel (vs := .non :: vs) (us := .none :: us) (.cons (show L2.RelV .non .none from rfl) r1) r2
    cases z with
    | cons _ z => exact z
  · exact ((r1.append (show RpL K _ [D.str "any"] [V.str "any"] from .cons (by unfold Rp; rfl) .nil)).append r2)

theorem mkr_3_then {a_Rule aI : Addr} {k : Nat} (h : ∃ f fd, GnOk P w K mg base k f fd ["self", "mode", "heard", "which", "then", "move", "send"] (toSpS K (spi_Rule a_Rule aI)) ∧ Mk K a_Rule f ∧ mg "Rule" = some (.ref a_Rule) ∧ FunD K "__init__" "Rule.__init__" (defArgs s_Rule___init__) (defBody s_Rule___init__) (defScope s_Rule___init__) [V.str "any"] [("then", V.non), ("move", V.str "stay"), ("send", V.non)] f fd) :
    MakK P w K mg base "Rule" a_Rule k 3 ["then"] (fun ds es => ds ++ es ++ [D.str "stay", D.non]) (spi_Rule a_Rule aI) := by
  obtain ⟨f, fd, G, M, hm, F⟩ := h
  obtain ⟨its, mv, kb⟩ := F.kbinds (ps := ["self", "mode", "heard", "which", "then", "move", "send"]) 4 ["then"] [("move", V.str "stay"), ("send", V.non)] (fun us its mv ws => us ++ ws ++ mv) (by simp) (by simp) (fun _ h => by first | (simp at h; done) | (simp at h; rcases h with rfl | rfl | rfl <;> simp)) (fun r1 r2 r3 r4 => ((r1.append r4).append r3))
    (fun T D doc pm an cdv ct us its mv ws h1 h2 h3 h4 => match us, h1, its, h2, mv, h3, ws, h4 with | [_, _, _, _], _, [_], _, [_, _], _, [_], _ => ⟨_, rfl, ⟨_, _, _, _, _, _, rfl, rfl, _, _, _, _, _, _, rfl, rfl, rfl⟩⟩)
  refine ⟨f, fd, _, (fun ds es => ds ++ es ++ [V.str "stay", V.non]), G, M, hm, ⟨⟨fun us ws => us ++ ws ++ mv, fun s y us ws X l1 l2 => kb.to s (y :: us) ws X (by rw [List.length_cons, l1]) l2, fun {vs us zs ws} r1 r2 _ _ => ?_⟩, fun r1 r2 _ _ => ?_⟩⟩
  · have z := kb.rel (vs := .non :: vs) (us := .none :: us) (.cons (show L2.RelV .non .none from rfl) r1) r2
    cases z with
    | cons _ z => exact z
  · exact ((r1.append r2).append (show RpL K _ [D.str "stay", D.non] [V.str "stay", V.non] from (.cons (by unfold Rp; rfl) (.cons (by unfold Rp; rfl) .nil))))

theorem mkr_3_send {a_Rule aI : Addr} {k : Nat} (h : ∃ f fd, GnOk P w K mg base k f fd ["self", "mode", "heard", "which", "then", "move", "send"] (toSpS K (spi_Rule a_Rule aI)) ∧ Mk K a_Rule f ∧ mg "Rule" = some (.ref a_Rule) ∧ FunD K "__init__" "Rule.__init__" (defArgs s_Rule___init__) (defBody s_Rule___init__) (defScope s_Rule___init__) [V.str "any"] [("then", V.non), ("move", V.str "stay"), ("send", V.non)] f fd) :
    MakK P w K mg base "Rule" a_Rule k 3 ["send"] (fun ds es => ds ++ [D.non, D.str "stay"] ++ es) (spi_Rule a_Rule aI) := by
  obtain ⟨f, fd, G, M, hm, F⟩ := h
  obtain ⟨its, mv, kb⟩ := F.kbinds (ps := ["self", "mode", "heard", "which", "then", "move", "send"]) 4 ["send"] [("then", V.non), ("move", V.str "stay")] (fun us its mv ws => us ++ mv ++ ws) (by simp) (by simp) (fun _ h => by first | (simp at h; done) | (simp at h; rcases h with rfl | rfl | rfl <;> simp)) (fun r1 r2 r3 r4 => ((r1.append r3).append r4))
    (fun T D doc pm an cdv ct us its mv ws h1 h2 h3 h4 => match us, h1, its, h2, mv, h3, ws, h4 with | [_, _, _, _], _, [_], _, [_, _], _, [_], _ => ⟨_, rfl, ⟨_, _, _, _, _, _, rfl, rfl, _, _, _, _, _, _, rfl, rfl, rfl⟩⟩)
  refine ⟨f, fd, _, (fun ds es => ds ++ [V.non, V.str "stay"] ++ es), G, M, hm, ⟨⟨fun us ws => us ++ mv ++ ws, fun s y us ws X l1 l2 => kb.to s (y :: us) ws X (by rw [List.length_cons, l1]) l2, fun {vs us zs ws} r1 r2 _ _ => ?_⟩, fun r1 r2 _ _ => ?_⟩⟩
  · have z := kb.rel (vs := .non :: vs) (us := .none :: us) (.cons (show L2.RelV .non .none from rfl) r1) r2
    cases z with
    | cons _ z => exact z
  · exact ((r1.append (show RpL K _ [D.non, D.str "stay"] [V.non, V.str "stay"] from (.cons (by unfold Rp; rfl) (.cons (by unfold Rp; rfl) .nil)))).append r2)

theorem mkr_3_then_move_send {a_Rule aI : Addr} {k : Nat} (h : ∃ f fd, GnOk P w K mg base k f fd ["self", "mode", "heard", "which", "then", "move", "send"] (toSpS K (spi_Rule a_Rule aI)) ∧ Mk K a_Rule f ∧ mg "Rule" = some (.ref a_Rule) ∧ FunD K "__init__" "Rule.__init__" (defArgs s_Rule___init__) (defBody s_Rule___init__) (defScope s_Rule___init__) [V.str "any"] [("then", V.non), ("move", V.str "stay"), ("send", V.non)] f fd) :
    MakK P w K mg base "Rule" a_Rule k 3 ["then", "move", "send"] (fun ds es => ds ++ es) (spi_Rule a_Rule aI) := by
  obtain ⟨f, fd, G, M, hm, F⟩ := h
  obtain ⟨its, mv, kb⟩ := F.kbinds (ps := ["self", "mode", "heard", "which", "then", "move", "send"]) 4 ["then", "move", "send"] [] (fun us its mv ws => us ++ ws) (by simp) (by simp) (fun _ h => by first | (simp at h; done) | (simp at h; rcases h with rfl | rfl | rfl <;> simp)) (fun r1 r2 r3 r4 => (r1.append r4))
    (fun T D doc pm an cdv ct us its mv ws h1 h2 h3 h4 => match us, h1, its, h2, mv, h3, ws, h4 with | [_, _, _, _], _, [_], _, [], _, [_, _, _], _ => ⟨_, rfl, rfl⟩)
  refine ⟨f, fd, _, (fun ds es => ds ++ es), G, M, hm, ⟨⟨fun us ws => us ++ ws, fun s y us ws X l1 l2 => kb.to s (y :: us) ws X (by rw [List.length_cons, l1]) l2, fun {vs us zs ws} r1 r2 _ _ => ?_⟩, fun r1 r2 _ _ => ?_⟩⟩
  · have z := kb.rel (vs := .non :: vs) (us := .none :: us) (.cons (show L2.RelV .non .none from rfl) r1) r2
    cases z with
    | cons _ z => exact z
  · exact (r1.append r2)
variable {eT : Addr}

theorem mkr_2 {a_Rule aI : Addr} {k : Nat} (h : ∃ f fd, GnOk P w K mg base k f fd ["self", "mode", "heard", "which", "then", "move", "send"] (toSpS K (spi_Rule a_Rule aI)) ∧ Mk K a_Rule f ∧ mg "Rule" = some (.ref a_Rule) ∧ FunD K "__init__" "Rule.__init__" (defArgs s_Rule___init__) (defBody s_Rule___init__) (defScope s_Rule___init__) [V.str "any"] [("then", V.non), ("move", V.str "stay"), ("send", V.non)] f fd) :
    MakC P w K mg base "Rule" a_Rule k ["self", "mode", "heard", "which", "then", "move", "send"] [.str "any", .non, .str "stay", .non] (spi_Rule a_Rule aI) := by
  obtain ⟨f, fd, G, M, hm, F⟩ := h
  obtain ⟨ds, r, b⟩ := F.binds (ps := ["self", "mode", "heard", "which", "then", "move", "send"]) 3 0 (by simp) rfl
    (fun T D doc pm an cdv ct us its ks h1 h2 h3 => match us, h1, its, h2, ks, h3 with | [_, _, _], _, [_], _, [_, _, _], _ => ⟨_, rfl, ⟨_, _, _, _, _, _, rfl, rfl, _, _, _, _, _, _, rfl, rfl, _, _, _, _, _, _, rfl, rfl, rfl⟩⟩) (by simp)
  exact ⟨f, fd, ds, _, G, M, hm, b, r, fun F => .cons (by unfold Rp; rfl) (.cons (by unfold Rp; rfl) (.cons (by unfold Rp; rfl) (.cons (by unfold Rp; rfl) .nil)))⟩
theorem mko_4 {a_Role a_Rule aI : Addr} {k : Nat} (h : ∃ f fd, GnOk P w K mg base k f fd ["self", "side", "first", "rules", "settled"] (toSpS K (spi_Role a_Role a_Rule aI)) ∧ Mk K a_Role f ∧ mg "Role" = some (.ref a_Role) ∧ FunD K "__init__" "Role.__init__" (defArgs s_Role___init__) (defBody s_Role___init__) (defScope s_Role___init__) [V.ref eT] [] f fd) :
    MakC P w K mg base "Role" a_Role k ["self", "side", "first", "rules", "settled"] [] (spi_Role a_Role a_Rule aI) := by
  obtain ⟨f, fd, G, M, hm, F⟩ := h
  obtain ⟨ds, r, b⟩ := F.binds1 (ps := ["self", "side", "first", "rules", "settled"]) 5 1 (by simp) rfl
    (fun T kV doc pm an cdv ct us its h1 h2 => match us, h1, its, h2 with | [_, _, _, _, _], _, [_], _ => ⟨_, rfl, rfl⟩)
  cases r
  exact ⟨f, fd, [], [], G, M, hm, b, .nil, fun F => .nil⟩
theorem mkd_3 {a_Design a_Role aI : Addr} {k : Nat} (h : ∃ f fd, GnOk P w K mg base k f fd ["self", "caller", "host", "hello"] (toSpS K (spi_Design a_Design a_Role aI)) ∧ Mk K a_Design f ∧ mg "Design" = some (.ref a_Design) ∧ FunD K "__init__" "Design.__init__" (defArgs s_Design___init__) (defBody s_Design___init__) (defScope s_Design___init__) [] [] f fd) :
    MakC P w K mg base "Design" a_Design k ["self", "caller", "host", "hello"] [] (spi_Design a_Design a_Role aI) := by
  obtain ⟨f, fd, G, M, hm, F⟩ := h
  obtain ⟨oc, od, dV, kV, doc, pm, an, cdv, ct, osl, rfl, lk, hcd, hD, hK⟩ := F.ex
  rcases hD with ⟨_, rfl⟩ | ⟨e, _⟩
  · exact ⟨f, _, [], [], G, M, hm, .all fun us hl => match us, hl with | [_, _, _, _], _ => rfl, .nil, fun F => .nil⟩
  · exact absurd rfl e

end
end K

set_option Elab.async false
set_option linter.all false
set_option maxRecDepth 100000
set_option maxHeartbeats 8000000
namespace K
open PySem PySem.Spec PyProof.Rows L2 DD
section
variable {P : Program} {w : World} {K : PySem.W.Frag} {mg : Str → Option Value} {base : Heap}

def isWh : D → Bool
  | .int _ => true
  | _ => false

abbrev s_is_whole : Stmt := topS 4
theorem sc_is_whole : FnScope ["value"] ["value"] (defScope s_is_whole) := ⟨rfl, rfl, rfl, by decide +kernel, rfl, by decide +kernel, by decide +kernel⟩
def spd_is_whole  : Spd := fun bs R _ => ∃ d, bs = [.p d] ∧ dat d = true ∧ R (.p (.bl (isWh d))) 0
theorem cal_is_whole (Da : DefAt K mg "is_whole" s_is_whole) (m_isinstance : mg "isinstance" = none) (m_int : mg "int" = none) (m_bool : mg "bool" = none) : Cal P w K mg base "is_whole" 1 ["value"] spd_is_whole := by
  refine cal_mk none Da sc_is_whole (fun _ _ _ _ _ _ us hl => match us, hl with | [_], _ => rfl) (fun bs R E h => ?_) (fun bs R E h => ?_) fun f cdv A outer s H E W bs R ED gu hr te h fh => ?_
  · obtain ⟨d, rfl, hd, q⟩ := h
    rfl
  · obtain ⟨d, rfl, hd, q⟩ := h
    exact pur_none (by simp [B.own])
  · obtain ⟨d, rfl, hd, q⟩ := h
    have nd := sc_is_whole.nd
    have hu := hr.units
    refine ⟨_, (dss_one (ds_ret (de_and (de_callB call_isZ (rc_isa (K := K)) rfl m_isinstance bt_isinstance (da_cons (de_v 0) (da_cons (de_ty m_int bt_int) da_nil))) (de_one (de_not (de_callB call_isZ (rc_isa (K := K)) rfl m_isinstance bt_isinstance (da_cons (de_v 0) (da_cons (de_ty m_bool bt_bool) da_nil)))))))), ?_⟩
    simp only [startD, List.map_cons, List.map_nil, List.length_cons, List.length_nil, Nat.reduceAdd, Nat.reduceSub, List.replicate, List.cons_append, List.nil_append, dSeq, dSet, dIfS, dT, dOp, dCB, dCons, dNil, dV, dM, dC, dp, dNext, dRet, dRetN, dLst, dTup, dDrop, dNot, dAnd, dOr, dAndV, dOrV, dNotV, intG, intG0, lenG, lenD, ixG, itemD, intCG, intOf, maxG, List.getElem?_cons_zero, List.getElem?_cons_succ, List.set_cons_zero, List.set_cons_succ, Option.some.injEq, B.isU, B.d, B.rd, exists_eq_left', exists_eq_left, exists_and_left, true_and, and_true, B.p.injEq, DD.D.bl.injEq, DD.D.int.injEq, List.cons.injEq, DD.PC, decide_eq_true_eq, and_assoc, Option.map_some, dLc, iAny, walked, wipeE, gN, dCall, dCallP, dCallF, eqG, neG, Bool.not_true, Bool.not_false, if_true, if_false, Bool.false_eq_true, reduceIte, List.append_nil, dCBK, addG, dM1, gT, gsCons, gsNil, iEnumD, dAsP, iR1, dPart, dNo, dSl, freB, lstD, List.all_cons, List.all_nil, litD, Bool.and_self, dReprPair, dDctN, itemD2, ixG2, keyD, lookD, strG2, dPar, bCons, bNil, dFor, List.zip_cons_cons, List.zip_nil_right, List.foldl_cons, List.foldl_nil, dApp, B.o.injEq, DD.D.lst.injEq, DD.D.tup.injEq, exists_eq', dDct0, B.u.injEq, sizeLine_eq, Nat.reduceLeDiff, Nat.reduceLT, Nat.zero_le, true_implies, slG, List.length_map, tupleG, seqD, listG, iR2, List.length_take, List.length_drop, List.length_append, DD.D.str.injEq, mulG, dAsg, dFld, lookF, dSetF, setF, dProp, dMeth, dMake, dMakeK, cxOf_K, dChain, notNG, isNG, isNon_non, isNon_bl, isNon_int, isNon_str, isNon_lst, isNon_tup, isNon_dct, isNon_ins, isNon_exc, dXv, reprG, DD.D.ins.injEq, DD.D.exc.injEq, cmpIG, neIG, clsD, Option.bind_some, B.s.injEq, if_true, if_false, dNeg, dLenSet, dIndex, dClrE, dAppE, dCallK, eqKG, sortedSG, isa_Int hd, isa_Bool hd]
    cases d <;> first | (cases hd; done) | exact ⟨0, q⟩

def modes : List Str := ["a", "b", "c", "d"]
def okN : D → Bool
  | .int i => decide (1 ≤ i) && decide (i ≤ 4)
  | _ => false

abbrev s_check_tries : Stmt := topS 33
theorem sc_check_tries : FnScope ["tries"] ["tries"] (defScope s_check_tries) := ⟨rfl, rfl, rfl, by decide +kernel, rfl, by decide +kernel, by decide +kernel⟩
def spd_check_tries (aN : Addr) : Spd := fun bs R E => ∃ d, bs = [.p d] ∧ dat d = true ∧ ((okN d = true ∧ R (.p .non) 0) ∨ (okN d = false ∧ E aN [d] 0))
theorem cal_check_tries (Da : DefAt K mg "check_tries" s_check_tries) (c_is_whole : Cal P w K mg base "is_whole" 1 ["value"] spd_is_whole) (c_MODES : ConAt K mg "MODES" (.tup (modes.map D.str))) (m_len : mg "len" = none) {aN fI : Addr} (o_InvalidNumber : OwnX P K aN fI) (m_InvalidNumber : mg "InvalidNumber" = some (.ref aN)) : Cal P w K mg base "check_tries" 2 ["tries"] (spd_check_tries aN) := by
  refine cal_mk none Da sc_check_tries (fun _ _ _ _ _ _ us hl => match us, hl with | [_], _ => rfl) (fun bs R E h => ?_) (fun bs R E h => ?_) fun f cdv A outer s H E W bs R ED gu hr te h fh => ?_
  · obtain ⟨d, rfl, hd, q⟩ := h
    rfl
  · obtain ⟨d, rfl, hd, q⟩ := h
    exact pur_none (by simp [B.own])
  · obtain ⟨d, rfl, hd, q⟩ := h
    have nd := sc_check_tries.nd
    have hu := hr.units
    refine ⟨_, (dss_one (ds_if (DW.dt (dw_or (dt_not (dt_val (he := fun _ => rfl) (de_c c_is_whole gu hr (da_cons (de_v 0) da_nil)))) (dw_or (dt_cmp op_lt rd_intB0 (de_v 0) de_int rfl) (dw_or1 (dt_cmp op_gt rd_intB0 (de_v 0) (de_callB cr_lenAll rc_len rfl m_len bt_len (da_cons (de_con c_MODES) da_nil)) rfl))))) (dss_one (ds_raise te o_InvalidNumber rfl hr rfl m_InvalidNumber (da_cons (de_v 0) da_nil))) dss_nil)), ?_⟩
    have l4 : (modes.map D.str).length = 4 := rfl
    simp only [startD, List.map_cons, List.map_nil, List.length_cons, List.length_nil, Nat.reduceAdd, Nat.reduceSub, List.replicate, List.cons_append, List.nil_append, dSeq, dSet, dIfS, dT, dOp, dCB, dCons, dNil, dV, dM, dC, dp, dNext, dRet, dRetN, dLst, dTup, dDrop, dNot, dAnd, dOr, dAndV, dOrV, dNotV, intG, intG0, lenG, lenD, ixG, itemD, intCG, intOf, maxG, List.getElem?_cons_zero, List.getElem?_cons_succ, List.set_cons_zero, List.set_cons_succ, Option.some.injEq, B.isU, B.d, B.rd, exists_eq_left', exists_eq_left, exists_and_left, true_and, and_true, B.p.injEq, DD.D.bl.injEq, DD.D.int.injEq, List.cons.injEq, DD.PC, decide_eq_true_eq, and_assoc, Option.map_some, dLc, iAny, walked, wipeE, gN, dCall, dCallP, dCallF, eqG, neG, Bool.not_true, Bool.not_false, if_true, if_false, Bool.false_eq_true, reduceIte, List.append_nil, dCBK, addG, dM1, gT, gsCons, gsNil, iEnumD, dAsP, iR1, dPart, dNo, dSl, freB, lstD, List.all_cons, List.all_nil, litD, Bool.and_self, dReprPair, dDctN, itemD2, ixG2, keyD, lookD, strG2, dPar, bCons, bNil, dFor, List.zip_cons_cons, List.zip_nil_right, List.foldl_cons, List.foldl_nil, dApp, B.o.injEq, DD.D.lst.injEq, DD.D.tup.injEq, exists_eq', dDct0, B.u.injEq, sizeLine_eq, Nat.reduceLeDiff, Nat.reduceLT, Nat.zero_le, true_implies, slG, List.length_map, tupleG, seqD, listG, iR2, List.length_take, List.length_drop, List.length_append, DD.D.str.injEq, mulG, dAsg, dFld, lookF, dSetF, setF, dProp, dMeth, dMake, dMakeK, cxOf_K, dChain, notNG, isNG, isNon_non, isNon_bl, isNon_int, isNon_str, isNon_lst, isNon_tup, isNon_dct, isNon_ins, isNon_exc, dXv, reprG, DD.D.ins.injEq, DD.D.exc.injEq, cmpIG, neIG, clsD, Option.bind_some, B.s.injEq, if_true, if_false, dNeg, dLenSet, dIndex, dClrE, dAppE, dCallK, eqKG, sortedSG, dRaise]
    refine ⟨_, rfl, hd, rfl, _, rfl, ?_⟩
    cases hw : isWh d
    · have e : okN d = false := by
        cases d <;> first | rfl | (cases hw; done)
      rcases q with ⟨q, _⟩ | ⟨_, q⟩
      · rw [e] at q
        cases q
      · exact iteT ⟨0, q⟩
    · cases d <;> first | (cases hw; done) | skip
      rename_i i
      simp only [startD, List.map_cons, List.map_nil, List.length_cons, List.length_nil, Nat.reduceAdd, Nat.reduceSub, List.replicate, List.cons_append, List.nil_append, dSeq, dSet, dIfS, dT, dOp, dCB, dCons, dNil, dV, dM, dC, dp, dNext, dRet, dRetN, dLst, dTup, dDrop, dNot, dAnd, dOr, dAndV, dOrV, dNotV, intG, intG0, lenG, lenD, ixG, itemD, intCG, intOf, maxG, List.getElem?_cons_zero, List.getElem?_cons_succ, List.set_cons_zero, List.set_cons_succ, Option.some.injEq, B.isU, B.d, B.rd, exists_eq_left', exists_eq_left, exists_and_left, true_and, and_true, B.p.injEq, DD.D.bl.injEq, DD.D.int.injEq, List.cons.injEq, DD.PC, decide_eq_true_eq, and_assoc, Option.map_some, dLc, iAny, walked, wipeE, gN, dCall, dCallP, dCallF, eqG, neG, Bool.not_true, Bool.not_false, if_true, if_false, Bool.false_eq_true, reduceIte, List.append_nil, dCBK, addG, dM1, gT, gsCons, gsNil, iEnumD, dAsP, iR1, dPart, dNo, dSl, freB, lstD, List.all_cons, List.all_nil, litD, Bool.and_self, dReprPair, dDctN, itemD2, ixG2, keyD, lookD, strG2, dPar, bCons, bNil, dFor, List.zip_cons_cons, List.zip_nil_right, List.foldl_cons, List.foldl_nil, dApp, B.o.injEq, DD.D.lst.injEq, DD.D.tup.injEq, exists_eq', dDct0, B.u.injEq, sizeLine_eq, Nat.reduceLeDiff, Nat.reduceLT, Nat.zero_le, true_implies, slG, List.length_map, tupleG, seqD, listG, iR2, List.length_take, List.length_drop, List.length_append, DD.D.str.injEq, mulG, dAsg, dFld, lookF, dSetF, setF, dProp, dMeth, dMake, dMakeK, cxOf_K, dChain, notNG, isNG, isNon_non, isNon_bl, isNon_int, isNon_str, isNon_lst, isNon_tup, isNon_dct, isNon_ins, isNon_exc, dXv, reprG, DD.D.ins.injEq, DD.D.exc.injEq, cmpIG, neIG, clsD, Option.bind_some, B.s.injEq, if_true, if_false, dNeg, dLenSet, dIndex, dClrE, dAppE, dCallK, eqKG, sortedSG]
      have l5 : ((modes.length : Nat) : Int) = 4 := rfl
      have oe : okN (.int i) = (decide (1 ≤ i) && decide (i ≤ 4)) := rfl
      rw [l5]
      rw [oe] at q
      by_cases h1 : i < 1
      · rw [if_pos h1]
        rw [decide_eq_false (show ¬ 1 ≤ i by omega)] at q
        rcases q with ⟨q, _⟩ | ⟨_, q⟩
        · cases q
        · exact ⟨0, q⟩
      · rw [if_neg h1]
        rw [decide_eq_true (show 1 ≤ i by omega)] at q
        by_cases h2 : 4 < i
        · rw [if_pos h2]
          rw [decide_eq_false (show ¬ i ≤ 4 by omega)] at q
          rcases q with ⟨q, _⟩ | ⟨_, q⟩
          · cases q
          · exact ⟨0, q⟩
        · rw [if_neg h2]
          rw [decide_eq_true (show i ≤ 4 by omega)] at q
          rcases q with ⟨_, q⟩ | ⟨q, _⟩
          · exact ⟨0, q⟩
          · cases q
end
end K

set_option Elab.async false
set_option linter.all false
set_option maxRecDepth 100000
set_option maxHeartbeats 8000000
namespace K
open PySem PySem.Spec PyProof.Rows L2 DD
section
variable {P : Program} {w : World} {K : PySem.W.Frag} {mg : Str → Option Value} {base : Heap}

def mode (j : Nat) : Str := modes.getD j ""
/-- the rules that one try adds -/
def stepAt (aR : Addr) (n : Nat) (rf : Bool) (j : Nat) : List D :=
  [rowD aR (.str (mode j)) (.str "yes") "same" (.str "sure") "stay" .non] ++ (if rf = true then [rowD aR (.str (mode j)) (.str "no") "same" (.str "a") "down" (.str "offer"), rowD aR (.str (mode j)) (.str "no") "same" (.str "gone") "stay" .non] else []) ++
  (if j + 1 < n then [rowD aR (.str (mode j)) (.str "timeout") "any" (.str (mode (j + 1))) "stay" (.str "offer")] else [rowD aR (.str (mode j)) (.str "timeout") "any" (.str "a") "down" (.str "offer"), rowD aR (.str (mode j)) (.str "timeout") "any" (.str "gone") "stay" .non])
def stepTo (aR : Addr) (n : Nat) (rf : Bool) : Nat → List D
  | 0 => []
  | j + 1 => stepTo aR n rf j ++ stepAt aR n rf j
def datB : D → Bool
  | .non => true
  | .str x => x.cps.toList.all (fun c => decide (c < 1114112)) && decide (x.length ≤ 1000)
  | _ => false
def okRow (m h w t v s : D) : Bool := isFl m h w t v s && datB m && datB h && datB w && datB t && datB v && datB s
theorem dat_of {d : D} (h : datB d = true) : Dat d := by
  cases d <;> first | (cases h; done) | skip
  · exact ⟨rfl, fun _ e => by cases e⟩
  · refine ⟨rfl, fun y e => ?_⟩
    cases e
    obtain ⟨h1, h2⟩ := Bool.and_eq_true_iff.mp h
    exact ⟨fun c hc => of_decide_eq_true (List.all_eq_true.mp h1 c hc), of_decide_eq_true h2⟩
/-- Rule(..) of fields that fit -/
theorem mkR {aR aI : Addr} {m h w t v s : D} {R : B → D → Prop} {E : Addr → List D → D → Prop} (hk : okRow m h w t v s = true) (q : R (.p .non) (.ins aR ["fields"] [.tup [m, h, w, t, v, s]])) : spi_Rule aR aI (.ins aR [] []) [m, h, w, t, v, s] R E := by
  unfold okRow at hk
  simp only [Bool.and_eq_true] at hk
  obtain ⟨⟨⟨⟨⟨⟨k0, k1⟩, k2⟩, k3⟩, k4⟩, k5⟩, k6⟩ := hk
  exact ⟨_, m, h, w, t, v, s, rfl, rfl, rfl, dat_of k1, dat_of k2, dat_of k3, dat_of k4, dat_of k5, dat_of k6, .inl ⟨k0, q⟩⟩
theorem ok_yes : ∀ j : Fin 4, okRow (.str (mode j)) (.str "yes") (.str "same") (.str "sure") (.str "stay") .non = true := by decide +kernel
theorem ok_no1 : ∀ j : Fin 4, okRow (.str (mode j)) (.str "no") (.str "same") (.str "a") (.str "down") (.str "offer") = true := by decide +kernel
theorem ok_no2 : ∀ j : Fin 4, okRow (.str (mode j)) (.str "no") (.str "same") (.str "gone") (.str "stay") .non = true := by decide +kernel
theorem ok_next : ∀ j : Fin 4, ∀ i : Fin 4, okRow (.str (mode j)) (.str "timeout") (.str "any") (.str (mode i)) (.str "stay") (.str "offer") = true := by decide +kernel
theorem ok_end1 : ∀ j : Fin 4, okRow (.str (mode j)) (.str "timeout") (.str "any") (.str "a") (.str "down") (.str "offer") = true := by decide +kernel
theorem ok_end2 : ∀ j : Fin 4, okRow (.str (mode j)) (.str "timeout") (.str "any") (.str "gone") (.str "stay") .non = true := by decide +kernel
theorem ok_rest : okRow .non .non (.str "any") .non (.str "stay") .non = true := by decide +kernel
theorem mode_at {j : Nat} (h : j < 4) : atI (modes.map D.str) (j : Int) = some (.str (mode j)) := by
  refine atI_nat ?_
  match j, h with
  | 0, _ => rfl
  | 1, _ => rfl
  | 2, _ => rfl
  | 3, _ => rfl
theorem step_len {aR : Addr} {n : Nat} {rf : Bool} : ∀ j, (stepTo aR n rf j).length ≤ 5 * j
  | 0 => Nat.le_refl _
  | j + 1 => by
    show (stepTo aR n rf j ++ stepAt aR n rf j).length ≤ _
    rw [List.length_append]
    have h1 := step_len (aR := aR) (n := n) (rf := rf) j
    have h2 : (stepAt aR n rf j).length ≤ 5 := by
      unfold stepAt
      rw [List.length_append, List.length_append]
      cases rf <;> by_cases h : j + 1 < n <;> simp [h]
    omega
def restR (aR : Addr) : D := rowD aR .non .non "any" .non "stay" .non
def stepRows (aR : Addr) (n : Nat) (rf : Bool) : List D := stepTo aR n rf n ++ [restR aR]

abbrev s_stepping_rules : Stmt := topS 34
theorem sc_stepping_rules : FnScope ["tries", "refuse", "rules", "at", "mode"] ["tries", "refuse"] (defScope s_stepping_rules) := ⟨rfl, rfl, rfl, by decide +kernel, rfl, by decide +kernel, by decide +kernel⟩
def spd_stepping_rules (aR : Addr) : Spd := fun bs R _ => ∃ (n : Nat) (rf : Bool), bs = [.p (.int n), .p (.bl rf)] ∧ 1 ≤ n ∧ n ≤ 4 ∧ R (.o (.lst (stepRows aR n rf))) 0
theorem cal_stepping_rules (Da : DefAt K mg "stepping_rules" s_stepping_rules) {a_Rule aI : Addr} (mk_Rule_2_then : MakK P w K mg base "Rule" a_Rule 4 2 ["then"] (fun ds es => ds ++ [D.str "any"] ++ es ++ [D.str "stay", D.non]) (spi_Rule a_Rule aI)) (mk_Rule_2_then_send : MakK P w K mg base "Rule" a_Rule 4 2 ["then", "send"] (fun ds es => ds ++ [D.str "any"] ++ es.take 1 ++ [D.str "stay"] ++ es.drop 1) (spi_Rule a_Rule aI)) (mk_Rule_2_then_move_send : MakK P w K mg base "Rule" a_Rule 4 2 ["then", "move", "send"] (fun ds es => ds ++ [D.str "any"] ++ es) (spi_Rule a_Rule aI)) (mk_Rule_3_then : MakK P w K mg base "Rule" a_Rule 4 3 ["then"] (fun ds es => ds ++ es ++ [D.str "stay", D.non]) (spi_Rule a_Rule aI)) (mk_Rule_3_then_move_send : MakK P w K mg base "Rule" a_Rule 4 3 ["then", "move", "send"] (fun ds es => ds ++ es) (spi_Rule a_Rule aI)) (mk_Rule_2 : MakC P w K mg base "Rule" a_Rule 4 ["self", "mode", "heard", "which", "then", "move", "send"] [.str "any", .non, .str "stay", .non] (spi_Rule a_Rule aI)) (c_MODES : ConAt K mg "MODES" (.tup (modes.map D.str))) (c_TIMEOUT : ConAt K mg "TIMEOUT" (.str "timeout")) (m_range : mg "range" = none) : Cal P w K mg base "stepping_rules" 6 ["tries", "refuse"] (spd_stepping_rules a_Rule) := by
  refine cal_mk none Da sc_stepping_rules (fun _ _ _ _ _ _ us hl => match us, hl with | [_, _], _ => rfl) (fun bs R E h => ?_) (fun bs R E h => ?_) fun f cdv A outer s H E W bs R ED gu hr te h fh => ?_
  · obtain ⟨n, rf, rfl, h1, h4, q⟩ := h
    rfl
  · obtain ⟨n, rf, rfl, h1, h4, q⟩ := h
    exact pur_none (by simp [B.own])
  · obtain ⟨n, rf, rfl, h1, h4, q⟩ := h
    have nd := sc_stepping_rules.nd
    have hu := hr.units
    have ps := passes_of (X := cxOf (L2.CX P w) P w K mg base ["tries", "refuse", "rules", "at", "mode"] "stepping_rules" (defScope s_stepping_rules) f cdv A outer s H E) rfl
    refine ⟨_, (dss_cons (ds_set (i := 2) nd rfl (by first | exact Or.inl rfl | exact Or.inr rfl) (de_lst da_nil)) (dss_cons (ds_forR ps rfl (di_range1 rfl m_range (da_cons (de_v 0) da_nil)) (dg_name (i := 3) nd rfl (by first | exact Or.inl rfl | exact Or.inr rfl)) (dss_cons (ds_set (i := 4) nd rfl (by first | exact Or.inl rfl | exact Or.inr rfl) (de_ix2 hu (de_con c_MODES) (de_v 3) fun _ _ => rfl)) (dss_cons (ds_append (i := 2) rfl (by first | exact Or.inl rfl | exact Or.inr (Or.inl rfl)) (de_makeK mk_Rule_3_then gu hr (da_cons (de_v 4) (da_cons de_str (da_cons de_str da_nil))) (dk_cons de_str dk_nil)) (hpe := fun ta h => pe_bm PySem.F.plainAttrs_list PySem.F.slot_list_append PySem.F.type_list_append mt_append (pv 2) (pa_cons h pa_nil))) (dss_cons (ds_if (dt_val (he := fun _ => rfl) (de_v 1)) (dss_cons (ds_append (i := 2) rfl (by first | exact Or.inl rfl | exact Or.inr (Or.inl rfl)) (de_makeK mk_Rule_3_then_move_send gu hr (da_cons (de_v 4) (da_cons de_str (da_cons de_str da_nil))) (dk_cons de_str (dk_cons de_str (dk_cons de_str dk_nil)))) (hpe := fun ta h => pe_bm PySem.F.plainAttrs_list PySem.F.slot_list_append PySem.F.type_list_append mt_append (pv 2) (pa_cons h pa_nil))) (dss_one (ds_append (i := 2) rfl (by first | exact Or.inl rfl | exact Or.inr (Or.inl rfl)) (de_makeK mk_Rule_3_then gu hr (da_cons (de_v 4) (da_cons de_str (da_cons de_str da_nil))) (dk_cons de_str dk_nil)) (hpe := fun ta h => pe_bm PySem.F.plainAttrs_list PySem.F.slot_list_append PySem.F.type_list_append mt_append (pv 2) (pa_cons h pa_nil))))) dss_nil) (dss_one (ds_if (dt_cmp op_lt rd_intB0 (de_op op_addAll rd_add (de_v 3) de_int) (de_v 0) rfl) (dss_one (ds_append (i := 2) rfl (by first | exact Or.inl rfl | exact Or.inr (Or.inl rfl)) (de_makeK mk_Rule_2_then_send gu hr (da_cons (de_v 4) (da_cons (de_con c_TIMEOUT) da_nil)) (dk_cons (de_ix2 hu (de_con c_MODES) (de_op op_addAll rd_add (de_v 3) de_int) fun _ _ => rfl) (dk_cons de_str dk_nil))) (hpe := fun ta h => pe_bm PySem.F.plainAttrs_list PySem.F.slot_list_append PySem.F.type_list_append mt_append (pv 2) (pa_cons h pa_nil)))) (dss_cons (ds_append (i := 2) rfl (by first | exact Or.inl rfl | exact Or.inr (Or.inl rfl)) (de_makeK mk_Rule_2_then_move_send gu hr (da_cons (de_v 4) (da_cons (de_con c_TIMEOUT) da_nil)) (dk_cons de_str (dk_cons de_str (dk_cons de_str dk_nil)))) (hpe := fun ta h => pe_bm PySem.F.plainAttrs_list PySem.F.slot_list_append PySem.F.type_list_append mt_append (pv 2) (pa_cons h pa_nil))) (dss_one (ds_append (i := 2) rfl (by first | exact Or.inl rfl | exact Or.inr (Or.inl rfl)) (de_makeK mk_Rule_2_then gu hr (da_cons (de_v 4) (da_cons (de_con c_TIMEOUT) da_nil)) (dk_cons de_str dk_nil)) (hpe := fun ta h => pe_bm PySem.F.plainAttrs_list PySem.F.slot_list_append PySem.F.type_list_append mt_append (pv 2) (pa_cons h pa_nil))))))))))) (dss_cons (ds_append (i := 2) rfl (by first | exact Or.inl rfl | exact Or.inr (Or.inl rfl)) (de_make mk_Rule_2 gu hr (da_cons de_non (da_cons de_non da_nil))) (hpe := fun ta h => pe_bm PySem.F.plainAttrs_list PySem.F.slot_list_append PySem.F.type_list_append mt_append (pv 2) (pa_cons h pa_nil))) (dss_one (ds_ret (de_m 2)))))), ?_⟩
    refine dseq ?_
    simp only [startD, List.map_cons, List.map_nil, List.length_cons, List.length_nil, Nat.reduceAdd, Nat.reduceSub, List.replicate, List.cons_append, List.nil_append, dSet, dIfS, dT, dOp, dCB, dCons, dNil, dV, dM, dC, dp, dNext, dRet, dRetN, dLst, dTup, dDrop, dNot, dAnd, dOr, dAndV, dOrV, dNotV, intG, intG0, lenG, lenD, ixG, itemD, intCG, intOf, maxG, List.getElem?_cons_zero, List.getElem?_cons_succ, List.set_cons_zero, List.set_cons_succ, Option.some.injEq, B.isU, B.d, B.rd, exists_eq_left', exists_eq_left, exists_and_left, true_and, and_true, B.p.injEq, DD.D.bl.injEq, DD.D.int.injEq, List.cons.injEq, DD.PC, decide_eq_true_eq, and_assoc, Option.map_some, dLc, iAny, walked, wipeE, gN, dCall, dCallP, dCallF, eqG, neG, Bool.not_true, Bool.not_false, if_true, if_false, Bool.false_eq_true, reduceIte, List.append_nil, dCBK, addG, dM1, gT, gsCons, gsNil, iEnumD, dAsP, iR1, dPart, dNo, dSl, freB, lstD, List.all_cons, List.all_nil, litD, Bool.and_self, dReprPair, dDctN, itemD2, ixG2, keyD, lookD, strG2, dPar, bCons, bNil, dFor, List.zip_cons_cons, List.zip_nil_right, List.foldl_cons, List.foldl_nil, dApp, B.o.injEq, DD.D.lst.injEq, DD.D.tup.injEq, exists_eq', dDct0, B.u.injEq, sizeLine_eq, Nat.reduceLeDiff, Nat.reduceLT, Nat.zero_le, true_implies, slG, List.length_map, tupleG, seqD, listG, iR2, List.length_take, List.length_drop, List.length_append, DD.D.str.injEq, mulG, dAsg, dFld, lookF, dSetF, setF, dProp, dMeth, dMake, dMakeK, cxOf_K, dChain, notNG, isNG, isNon_non, isNon_bl, isNon_int, isNon_str, isNon_lst, isNon_tup, isNon_dct, isNon_ins, isNon_exc, dXv, reprG, DD.D.ins.injEq, DD.D.exc.injEq, cmpIG, neIG, clsD, Option.bind_some, B.s.injEq, if_true, if_false, dNeg, dLenSet, dIndex, dClrE, dAppE, dCallK, eqKG, sortedSG]
    refine dseq ?_
    simp only [startD, List.map_cons, List.map_nil, List.length_cons, List.length_nil, Nat.reduceAdd, Nat.reduceSub, List.replicate, List.cons_append, List.nil_append, dSet, dIfS, dT, dOp, dCB, dCons, dNil, dV, dM, dC, dp, dNext, dRet, dRetN, dLst, dTup, dDrop, dNot, dAnd, dOr, dAndV, dOrV, dNotV, intG, intG0, lenG, lenD, ixG, itemD, intCG, intOf, maxG, List.getElem?_cons_zero, List.getElem?_cons_succ, List.set_cons_zero, List.set_cons_succ, Option.some.injEq, B.isU, B.d, B.rd, exists_eq_left', exists_eq_left, exists_and_left, true_and, and_true, B.p.injEq, DD.D.bl.injEq, DD.D.int.injEq, List.cons.injEq, DD.PC, decide_eq_true_eq, and_assoc, Option.map_some, dLc, iAny, walked, wipeE, gN, dCall, dCallP, dCallF, eqG, neG, Bool.not_true, Bool.not_false, if_true, if_false, Bool.false_eq_true, reduceIte, List.append_nil, dCBK, addG, dM1, gT, gsCons, gsNil, iEnumD, dAsP, iR1, dPart, dNo, dSl, freB, lstD, List.all_cons, List.all_nil, litD, Bool.and_self, dReprPair, dDctN, itemD2, ixG2, keyD, lookD, strG2, dPar, bCons, bNil, dFor, List.zip_cons_cons, List.zip_nil_right, List.foldl_cons, List.foldl_nil, dApp, B.o.injEq, DD.D.lst.injEq, DD.D.tup.injEq, exists_eq', dDct0, B.u.injEq, sizeLine_eq, Nat.reduceLeDiff, Nat.reduceLT, Nat.zero_le, true_implies, slG, List.length_map, tupleG, seqD, listG, iR2, List.length_take, List.length_drop, List.length_append, DD.D.str.injEq, mulG, dAsg, dFld, lookF, dSetF, setF, dProp, dMeth, dMake, dMakeK, cxOf_K, dChain, notNG, isNG, isNon_non, isNon_bl, isNon_int, isNon_str, isNon_lst, isNon_tup, isNon_dct, isNon_ins, isNon_exc, dXv, reprG, DD.D.ins.injEq, DD.D.exc.injEq, cmpIG, neIG, clsD, Option.bind_some, B.s.injEq, if_true, if_false, dNeg, dLenSet, dIndex, dClrE, dAppE, dCallK, eqKG, sortedSG]
    refine ⟨by omega, by omega, ?_⟩
    have l64 : (modes.map D.str).length ≤ 1000 := by decide
    refine forL_pre (fun p δ => p.length ≤ n ∧ ∃ x3 x4, δ = [some (.p (.int n)), some (.p (.bl rf)), some (.o (.lst (stepTo a_Rule n rf p.length))), x3, x4]) (pre := []) (fun p d r δ e hI N hN => ?_) (fun δ hI => ?_) ⟨Nat.zero_le _, none, none, rfl⟩
    · obtain ⟨hp, x3, x4, rfl⟩ := hI
      have hl := congrArg List.length e
      rw [List.nil_append, List.length_append, List.length_cons, upto_len] at hl
      have hd : d = .int (p.length : Nat) := by
        have z := congrArg (fun l => l[p.length]?) e
        simp only [List.nil_append] at z
        rw [List.getElem?_append_right (Nat.le_refl _), Nat.sub_self, List.getElem?_cons_zero] at z
        unfold upto at z
        rw [List.getElem?_map, List.getElem?_range (by simp at hl; omega)] at z
        have := Option.some.inj z
        rw [← this]
        simp
      subst hd
      have hj : p.length < 4 := by simp at hl; omega
      have hjn : p.length < n := by simp at hl; omega
      have hsl : (stepTo a_Rule n rf p.length).length ≤ 20 := Nat.le_trans (step_len _) (by omega)
      have sl := sizeLine_eq
      refine dseq ?_
      simp only [startD, List.map_cons, List.map_nil, List.length_cons, List.length_nil, Nat.reduceAdd, Nat.reduceSub, List.replicate, List.cons_append, List.nil_append, dSet, dIfS, dT, dOp, dCB, dCons, dNil, dV, dM, dC, dp, dNext, dRet, dRetN, dLst, dTup, dDrop, dNot, dAnd, dOr, dAndV, dOrV, dNotV, intG, intG0, lenG, lenD, ixG, itemD, intCG, intOf, maxG, List.getElem?_cons_zero, List.getElem?_cons_succ, List.set_cons_zero, List.set_cons_succ, Option.some.injEq, B.isU, B.d, B.rd, exists_eq_left', exists_eq_left, exists_and_left, true_and, and_true, B.p.injEq, DD.D.bl.injEq, DD.D.int.injEq, List.cons.injEq, DD.PC, decide_eq_true_eq, and_assoc, Option.map_some, dLc, iAny, walked, wipeE, gN, dCall, dCallP, dCallF, eqG, neG, Bool.not_true, Bool.not_false, if_true, if_false, Bool.false_eq_true, reduceIte, List.append_nil, dCBK, addG, dM1, gT, gsCons, gsNil, iEnumD, dAsP, iR1, dPart, dNo, dSl, freB, lstD, List.all_cons, List.all_nil, litD, Bool.and_self, dReprPair, dDctN, itemD2, ixG2, keyD, lookD, strG2, dPar, bCons, bNil, dFor, List.zip_cons_cons, List.zip_nil_right, List.foldl_cons, List.foldl_nil, dApp, B.o.injEq, DD.D.lst.injEq, DD.D.tup.injEq, exists_eq', dDct0, B.u.injEq, sizeLine_eq, Nat.reduceLeDiff, Nat.reduceLT, Nat.zero_le, true_implies, slG, List.length_map, tupleG, seqD, listG, iR2, List.length_take, List.length_drop, List.length_append, DD.D.str.injEq, mulG, dAsg, dFld, lookF, dSetF, setF, dProp, dMeth, dMake, dMakeK, cxOf_K, dChain, notNG, isNG, isNon_non, isNon_bl, isNon_int, isNon_str, isNon_lst, isNon_tup, isNon_dct, isNon_ins, isNon_exc, dXv, reprG, DD.D.ins.injEq, DD.D.exc.injEq, cmpIG, neIG, clsD, Option.bind_some, B.s.injEq, if_true, if_false, dNeg, dLenSet, dIndex, dClrE, dAppE, dCallK, eqKG, sortedSG]
      refine ⟨_, mode_at hj, dseq ?_⟩
      simp only [startD, List.map_cons, List.map_nil, List.length_cons, List.length_nil, Nat.reduceAdd, Nat.reduceSub, List.replicate, List.cons_append, List.nil_append, dSet, dIfS, dT, dOp, dCB, dCons, dNil, dV, dM, dC, dp, dNext, dRet, dRetN, dLst, dTup, dDrop, dNot, dAnd, dOr, dAndV, dOrV, dNotV, intG, intG0, lenG, lenD, ixG, itemD, intCG, intOf, maxG, List.getElem?_cons_zero, List.getElem?_cons_succ, List.set_cons_zero, List.set_cons_succ, Option.some.injEq, B.isU, B.d, B.rd, exists_eq_left', exists_eq_left, exists_and_left, true_and, and_true, B.p.injEq, DD.D.bl.injEq, DD.D.int.injEq, List.cons.injEq, DD.PC, decide_eq_true_eq, and_assoc, Option.map_some, dLc, iAny, walked, wipeE, gN, dCall, dCallP, dCallF, eqG, neG, Bool.not_true, Bool.not_false, if_true, if_false, Bool.false_eq_true, reduceIte, List.append_nil, dCBK, addG, dM1, gT, gsCons, gsNil, iEnumD, dAsP, iR1, dPart, dNo, dSl, freB, lstD, List.all_cons, List.all_nil, litD, Bool.and_self, dReprPair, dDctN, itemD2, ixG2, keyD, lookD, strG2, dPar, bCons, bNil, dFor, List.zip_cons_cons, List.zip_nil_right, List.foldl_cons, List.foldl_nil, dApp, B.o.injEq, DD.D.lst.injEq, DD.D.tup.injEq, exists_eq', dDct0, B.u.injEq, sizeLine_eq, Nat.reduceLeDiff, Nat.reduceLT, Nat.zero_le, true_implies, slG, List.length_map, tupleG, seqD, listG, iR2, List.length_take, List.length_drop, List.length_append, DD.D.str.injEq, mulG, dAsg, dFld, lookF, dSetF, setF, dProp, dMeth, dMake, dMakeK, cxOf_K, dChain, notNG, isNG, isNon_non, isNon_bl, isNon_int, isNon_str, isNon_lst, isNon_tup, isNon_dct, isNon_ins, isNon_exc, dXv, reprG, DD.D.ins.injEq, DD.D.exc.injEq, cmpIG, neIG, clsD, Option.bind_some, B.s.injEq, if_true, if_false, dNeg, dLenSet, dIndex, dClrE, dAppE, dCallK, eqKG, sortedSG]
      refine mkR (ok_yes ⟨_, hj⟩) ⟨rfl, ?_⟩
      refine ⟨by omega, ?_⟩
      have ek : ((p.length : Nat) : Int) + 1 = ((p.length + 1 : Nat) : Int) := rfl
      have stp : stepTo a_Rule n rf (p.length + 1) = stepTo a_Rule n rf p.length ++ stepAt a_Rule n rf p.length := rfl
      have fin : ∀ L : List D, L = stepTo a_Rule n rf p.length ++ stepAt a_Rule n rf p.length → N [some (.p (.int n)), some (.p (.bl rf)), some (.o (.lst L)), some (.p (.int (p.length : Nat))), some (.p (.str (mode p.length)))] := fun L e => hN _ ⟨by rw [List.length_append, List.length_singleton]; omega, some (.p (.int (p.length : Nat))), some (.p (.str (mode p.length))), by rw [e, List.length_append, List.length_singleton, stp]⟩
      cases rf
      · refine dseq ?_
        simp only [startD, List.map_cons, List.map_nil, List.length_cons, List.length_nil, Nat.reduceAdd, Nat.reduceSub, List.replicate, List.cons_append, List.nil_append, dSet, dIfS, dT, dOp, dCB, dCons, dNil, dV, dM, dC, dp, dNext, dRet, dRetN, dLst, dTup, dDrop, dNot, dAnd, dOr, dAndV, dOrV, dNotV, intG, intG0, lenG, lenD, ixG, itemD, intCG, intOf, maxG, List.getElem?_cons_zero, List.getElem?_cons_succ, List.set_cons_zero, List.set_cons_succ, Option.some.injEq, B.isU, B.d, B.rd, exists_eq_left', exists_eq_left, exists_and_left, true_and, and_true, B.p.injEq, DD.D.bl.injEq, DD.D.int.injEq, List.cons.injEq, DD.PC, decide_eq_true_eq, and_assoc, Option.map_some, dLc, iAny, walked, wipeE, gN, dCall, dCallP, dCallF, eqG, neG, Bool.not_true, Bool.not_false, if_true, if_false, Bool.false_eq_true, reduceIte, List.append_nil, dCBK, addG, dM1, gT, gsCons, gsNil, iEnumD, dAsP, iR1, dPart, dNo, dSl, freB, lstD, List.all_cons, List.all_nil, litD, Bool.and_self, dReprPair, dDctN, itemD2, ixG2, keyD, lookD, strG2, dPar, bCons, bNil, dFor, List.zip_cons_cons, List.zip_nil_right, List.foldl_cons, List.foldl_nil, dApp, B.o.injEq, DD.D.lst.injEq, DD.D.tup.injEq, exists_eq', dDct0, B.u.injEq, sizeLine_eq, Nat.reduceLeDiff, Nat.reduceLT, Nat.zero_le, true_implies, slG, List.length_map, tupleG, seqD, listG, iR2, List.length_take, List.length_drop, List.length_append, DD.D.str.injEq, mulG, dAsg, dFld, lookF, dSetF, setF, dProp, dMeth, dMake, dMakeK, cxOf_K, dChain, notNG, isNG, isNon_non, isNon_bl, isNon_int, isNon_str, isNon_lst, isNon_tup, isNon_dct, isNon_ins, isNon_exc, dXv, reprG, DD.D.ins.injEq, DD.D.exc.injEq, cmpIG, neIG, clsD, Option.bind_some, B.s.injEq, if_true, if_false, dNeg, dLenSet, dIndex, dClrE, dAppE, dCallK, eqKG, sortedSG]
        by_cases hlt : p.length + 1 < n
        · rw [if_pos (show ((p.length : Nat) : Int) + 1 < (n : Int) by omega), ek]
          refine ⟨_, mode_at (show p.length + 1 < 4 by omega), ?_⟩
          refine mkR (ok_next ⟨_, hj⟩ ⟨_, show p.length + 1 < 4 by omega⟩) ⟨rfl, by omega, fin _ ?_⟩
          unfold stepAt
          rw [if_pos hlt]
          simp [rowD]
        · rw [if_neg (show ¬ ((p.length : Nat) : Int) + 1 < (n : Int) by omega)]
          refine dseq ?_
          simp only [startD, List.map_cons, List.map_nil, List.length_cons, List.length_nil, Nat.reduceAdd, Nat.reduceSub, List.replicate, List.cons_append, List.nil_append, dSet, dIfS, dT, dOp, dCB, dCons, dNil, dV, dM, dC, dp, dNext, dRet, dRetN, dLst, dTup, dDrop, dNot, dAnd, dOr, dAndV, dOrV, dNotV, intG, intG0, lenG, lenD, ixG, itemD, intCG, intOf, maxG, List.getElem?_cons_zero, List.getElem?_cons_succ, List.set_cons_zero, List.set_cons_succ, Option.some.injEq, B.isU, B.d, B.rd, exists_eq_left', exists_eq_left, exists_and_left, true_and, and_true, B.p.injEq, DD.D.bl.injEq, DD.D.int.injEq, List.cons.injEq, DD.PC, decide_eq_true_eq, and_assoc, Option.map_some, dLc, iAny, walked, wipeE, gN, dCall, dCallP, dCallF, eqG, neG, Bool.not_true, Bool.not_false, if_true, if_false, Bool.false_eq_true, reduceIte, List.append_nil, dCBK, addG, dM1, gT, gsCons, gsNil, iEnumD, dAsP, iR1, dPart, dNo, dSl, freB, lstD, List.all_cons, List.all_nil, litD, Bool.and_self, dReprPair, dDctN, itemD2, ixG2, keyD, lookD, strG2, dPar, bCons, bNil, dFor, List.zip_cons_cons, List.zip_nil_right, List.foldl_cons, List.foldl_nil, dApp, B.o.injEq, DD.D.lst.injEq, DD.D.tup.injEq, exists_eq', dDct0, B.u.injEq, sizeLine_eq, Nat.reduceLeDiff, Nat.reduceLT, Nat.zero_le, true_implies, slG, List.length_map, tupleG, seqD, listG, iR2, List.length_take, List.length_drop, List.length_append, DD.D.str.injEq, mulG, dAsg, dFld, lookF, dSetF, setF, dProp, dMeth, dMake, dMakeK, cxOf_K, dChain, notNG, isNG, isNon_non, isNon_bl, isNon_int, isNon_str, isNon_lst, isNon_tup, isNon_dct, isNon_ins, isNon_exc, dXv, reprG, DD.D.ins.injEq, DD.D.exc.injEq, cmpIG, neIG, clsD, Option.bind_some, B.s.injEq, if_true, if_false, dNeg, dLenSet, dIndex, dClrE, dAppE, dCallK, eqKG, sortedSG]
          refine mkR (ok_end1 ⟨_, hj⟩) ⟨rfl, by omega, ?_⟩
          refine mkR (ok_end2 ⟨_, hj⟩) ⟨rfl, by omega, fin _ ?_⟩
          unfold stepAt
          rw [if_neg hlt]
          simp [rowD]
      · refine dseq ?_
        simp only [startD, List.map_cons, List.map_nil, List.length_cons, List.length_nil, Nat.reduceAdd, Nat.reduceSub, List.replicate, List.cons_append, List.nil_append, dSet, dIfS, dT, dOp, dCB, dCons, dNil, dV, dM, dC, dp, dNext, dRet, dRetN, dLst, dTup, dDrop, dNot, dAnd, dOr, dAndV, dOrV, dNotV, intG, intG0, lenG, lenD, ixG, itemD, intCG, intOf, maxG, List.getElem?_cons_zero, List.getElem?_cons_succ, List.set_cons_zero, List.set_cons_succ, Option.some.injEq, B.isU, B.d, B.rd, exists_eq_left', exists_eq_left, exists_and_left, true_and, and_true, B.p.injEq, DD.D.bl.injEq, DD.D.int.injEq, List.cons.injEq, DD.PC, decide_eq_true_eq, and_assoc, Option.map_some, dLc, iAny, walked, wipeE, gN, dCall, dCallP, dCallF, eqG, neG, Bool.not_true, Bool.not_false, if_true, if_false, Bool.false_eq_true, reduceIte, List.append_nil, dCBK, addG, dM1, gT, gsCons, gsNil, iEnumD, dAsP, iR1, dPart, dNo, dSl, freB, lstD, List.all_cons, List.all_nil, litD, Bool.and_self, dReprPair, dDctN, itemD2, ixG2, keyD, lookD, strG2, dPar, bCons, bNil, dFor, List.zip_cons_cons, List.zip_nil_right, List.foldl_cons, List.foldl_nil, dApp, B.o.injEq, DD.D.lst.injEq, DD.D.tup.injEq, exists_eq', dDct0, B.u.injEq, sizeLine_eq, Nat.reduceLeDiff, Nat.reduceLT, Nat.zero_le, true_implies, slG, List.length_map, tupleG, seqD, listG, iR2, List.length_take, List.length_drop, List.length_append, DD.D.str.injEq, mulG, dAsg, dFld, lookF, dSetF, setF, dProp, dMeth, dMake, dMakeK, cxOf_K, dChain, notNG, isNG, isNon_non, isNon_bl, isNon_int, isNon_str, isNon_lst, isNon_tup, isNon_dct, isNon_ins, isNon_exc, dXv, reprG, DD.D.ins.injEq, DD.D.exc.injEq, cmpIG, neIG, clsD, Option.bind_some, B.s.injEq, if_true, if_false, dNeg, dLenSet, dIndex, dClrE, dAppE, dCallK, eqKG, sortedSG]
        refine dseq ?_
        simp only [startD, List.map_cons, List.map_nil, List.length_cons, List.length_nil, Nat.reduceAdd, Nat.reduceSub, List.replicate, List.cons_append, List.nil_append, dSet, dIfS, dT, dOp, dCB, dCons, dNil, dV, dM, dC, dp, dNext, dRet, dRetN, dLst, dTup, dDrop, dNot, dAnd, dOr, dAndV, dOrV, dNotV, intG, intG0, lenG, lenD, ixG, itemD, intCG, intOf, maxG, List.getElem?_cons_zero, List.getElem?_cons_succ, List.set_cons_zero, List.set_cons_succ, Option.some.injEq, B.isU, B.d, B.rd, exists_eq_left', exists_eq_left, exists_and_left, true_and, and_true, B.p.injEq, DD.D.bl.injEq, DD.D.int.injEq, List.cons.injEq, DD.PC, decide_eq_true_eq, and_assoc, Option.map_some, dLc, iAny, walked, wipeE, gN, dCall, dCallP, dCallF, eqG, neG, Bool.not_true, Bool.not_false, if_true, if_false, Bool.false_eq_true, reduceIte, List.append_nil, dCBK, addG, dM1, gT, gsCons, gsNil, iEnumD, dAsP, iR1, dPart, dNo, dSl, freB, lstD, List.all_cons, List.all_nil, litD, Bool.and_self, dReprPair, dDctN, itemD2, ixG2, keyD, lookD, strG2, dPar, bCons, bNil, dFor, List.zip_cons_cons, List.zip_nil_right, List.foldl_cons, List.foldl_nil, dApp, B.o.injEq, DD.D.lst.injEq, DD.D.tup.injEq, exists_eq', dDct0, B.u.injEq, sizeLine_eq, Nat.reduceLeDiff, Nat.reduceLT, Nat.zero_le, true_implies, slG, List.length_map, tupleG, seqD, listG, iR2, List.length_take, List.length_drop, List.length_append, DD.D.str.injEq, mulG, dAsg, dFld, lookF, dSetF, setF, dProp, dMeth, dMake, dMakeK, cxOf_K, dChain, notNG, isNG, isNon_non, isNon_bl, isNon_int, isNon_str, isNon_lst, isNon_tup, isNon_dct, isNon_ins, isNon_exc, dXv, reprG, DD.D.ins.injEq, DD.D.exc.injEq, cmpIG, neIG, clsD, Option.bind_some, B.s.injEq, if_true, if_false, dNeg, dLenSet, dIndex, dClrE, dAppE, dCallK, eqKG, sortedSG]
        refine mkR (ok_no1 ⟨_, hj⟩) ⟨rfl, by omega, ?_⟩
        refine mkR (ok_no2 ⟨_, hj⟩) ⟨rfl, by omega, ?_⟩
        by_cases hlt : p.length + 1 < n
        · rw [if_pos (show ((p.length : Nat) : Int) + 1 < (n : Int) by omega), ek]
          refine ⟨_, mode_at (show p.length + 1 < 4 by omega), ?_⟩
          refine mkR (ok_next ⟨_, hj⟩ ⟨_, show p.length + 1 < 4 by omega⟩) ⟨rfl, by omega, fin _ ?_⟩
          unfold stepAt
          rw [if_pos hlt]
          simp [rowD]
        · rw [if_neg (show ¬ ((p.length : Nat) : Int) + 1 < (n : Int) by omega)]
          refine dseq ?_
          simp only [startD, List.map_cons, List.map_nil, List.length_cons, List.length_nil, Nat.reduceAdd, Nat.reduceSub, List.replicate, List.cons_append, List.nil_append, dSet, dIfS, dT, dOp, dCB, dCons, dNil, dV, dM, dC, dp, dNext, dRet, dRetN, dLst, dTup, dDrop, dNot, dAnd, dOr, dAndV, dOrV, dNotV, intG, intG0, lenG, lenD, ixG, itemD, intCG, intOf, maxG, List.getElem?_cons_zero, List.getElem?_cons_succ, List.set_cons_zero, List.set_cons_succ, Option.some.injEq, B.isU, B.d, B.rd, exists_eq_left', exists_eq_left, exists_and_left, true_and, and_true, B.p.injEq, DD.D.bl.injEq, DD.D.int.injEq, List.cons.injEq, DD.PC, decide_eq_true_eq, and_assoc, Option.map_some, dLc, iAny, walked, wipeE, gN, dCall, dCallP, dCallF, eqG, neG, Bool.not_true, Bool.not_false, if_true, if_false, Bool.false_eq_true, reduceIte, List.append_nil, dCBK, addG, dM1, gT, gsCons, gsNil, iEnumD, dAsP, iR1, dPart, dNo, dSl, freB, lstD, List.all_cons, List.all_nil, litD, Bool.and_self, dReprPair, dDctN, itemD2, ixG2, keyD, lookD, strG2, dPar, bCons, bNil, dFor, List.zip_cons_cons, List.zip_nil_right, List.foldl_cons, List.foldl_nil, dApp, B.o.injEq, DD.D.lst.injEq, DD.D.tup.injEq, exists_eq', dDct0, B.u.injEq, sizeLine_eq, Nat.reduceLeDiff, Nat.reduceLT, Nat.zero_le, true_implies, slG, List.length_map, tupleG, seqD, listG, iR2, List.length_take, List.length_drop, List.length_append, DD.D.str.injEq, mulG, dAsg, dFld, lookF, dSetF, setF, dProp, dMeth, dMake, dMakeK, cxOf_K, dChain, notNG, isNG, isNon_non, isNon_bl, isNon_int, isNon_str, isNon_lst, isNon_tup, isNon_dct, isNon_ins, isNon_exc, dXv, reprG, DD.D.ins.injEq, DD.D.exc.injEq, cmpIG, neIG, clsD, Option.bind_some, B.s.injEq, if_true, if_false, dNeg, dLenSet, dIndex, dClrE, dAppE, dCallK, eqKG, sortedSG]
          refine mkR (ok_end1 ⟨_, hj⟩) ⟨rfl, by omega, ?_⟩
          refine mkR (ok_end2 ⟨_, hj⟩) ⟨rfl, by omega, fin _ ?_⟩
          unfold stepAt
          rw [if_neg hlt]
          simp [rowD]
    · obtain ⟨hp, x3, x4, rfl⟩ := hI
      rw [List.nil_append, upto_len]
      have hsl : (stepTo a_Rule n rf n).length ≤ 20 := Nat.le_trans (step_len _) (by omega)
      refine dseq ?_
      simp only [startD, List.map_cons, List.map_nil, List.length_cons, List.length_nil, Nat.reduceAdd, Nat.reduceSub, List.replicate, List.cons_append, List.nil_append, dSet, dIfS, dT, dOp, dCB, dCons, dNil, dV, dM, dC, dp, dNext, dRet, dRetN, dLst, dTup, dDrop, dNot, dAnd, dOr, dAndV, dOrV, dNotV, intG, intG0, lenG, lenD, ixG, itemD, intCG, intOf, maxG, List.getElem?_cons_zero, List.getElem?_cons_succ, List.set_cons_zero, List.set_cons_succ, Option.some.injEq, B.isU, B.d, B.rd, exists_eq_left', exists_eq_left, exists_and_left, true_and, and_true, B.p.injEq, DD.D.bl.injEq, DD.D.int.injEq, List.cons.injEq, DD.PC, decide_eq_true_eq, and_assoc, Option.map_some, dLc, iAny, walked, wipeE, gN, dCall, dCallP, dCallF, eqG, neG, Bool.not_true, Bool.not_false, if_true, if_false, Bool.false_eq_true, reduceIte, List.append_nil, dCBK, addG, dM1, gT, gsCons, gsNil, iEnumD, dAsP, iR1, dPart, dNo, dSl, freB, lstD, List.all_cons, List.all_nil, litD, Bool.and_self, dReprPair, dDctN, itemD2, ixG2, keyD, lookD, strG2, dPar, bCons, bNil, dFor, List.zip_cons_cons, List.zip_nil_right, List.foldl_cons, List.foldl_nil, dApp, B.o.injEq, DD.D.lst.injEq, DD.D.tup.injEq, exists_eq', dDct0, B.u.injEq, sizeLine_eq, Nat.reduceLeDiff, Nat.reduceLT, Nat.zero_le, true_implies, slG, List.length_map, tupleG, seqD, listG, iR2, List.length_take, List.length_drop, List.length_append, DD.D.str.injEq, mulG, dAsg, dFld, lookF, dSetF, setF, dProp, dMeth, dMake, dMakeK, cxOf_K, dChain, notNG, isNG, isNon_non, isNon_bl, isNon_int, isNon_str, isNon_lst, isNon_tup, isNon_dct, isNon_ins, isNon_exc, dXv, reprG, DD.D.ins.injEq, DD.D.exc.injEq, cmpIG, neIG, clsD, Option.bind_some, B.s.injEq, if_true, if_false, dNeg, dLenSet, dIndex, dClrE, dAppE, dCallK, eqKG, sortedSG, Int.toNat_natCast]
      refine dseq ?_
      simp only [startD, List.map_cons, List.map_nil, List.length_cons, List.length_nil, Nat.reduceAdd, Nat.reduceSub, List.replicate, List.cons_append, List.nil_append, dSet, dIfS, dT, dOp, dCB, dCons, dNil, dV, dM, dC, dp, dNext, dRet, dRetN, dLst, dTup, dDrop, dNot, dAnd, dOr, dAndV, dOrV, dNotV, intG, intG0, lenG, lenD, ixG, itemD, intCG, intOf, maxG, List.getElem?_cons_zero, List.getElem?_cons_succ, List.set_cons_zero, List.set_cons_succ, Option.some.injEq, B.isU, B.d, B.rd, exists_eq_left', exists_eq_left, exists_and_left, true_and, and_true, B.p.injEq, DD.D.bl.injEq, DD.D.int.injEq, List.cons.injEq, DD.PC, decide_eq_true_eq, and_assoc, Option.map_some, dLc, iAny, walked, wipeE, gN, dCall, dCallP, dCallF, eqG, neG, Bool.not_true, Bool.not_false, if_true, if_false, Bool.false_eq_true, reduceIte, List.append_nil, dCBK, addG, dM1, gT, gsCons, gsNil, iEnumD, dAsP, iR1, dPart, dNo, dSl, freB, lstD, List.all_cons, List.all_nil, litD, Bool.and_self, dReprPair, dDctN, itemD2, ixG2, keyD, lookD, strG2, dPar, bCons, bNil, dFor, List.zip_cons_cons, List.zip_nil_right, List.foldl_cons, List.foldl_nil, dApp, B.o.injEq, DD.D.lst.injEq, DD.D.tup.injEq, exists_eq', dDct0, B.u.injEq, sizeLine_eq, Nat.reduceLeDiff, Nat.reduceLT, Nat.zero_le, true_implies, slG, List.length_map, tupleG, seqD, listG, iR2, List.length_take, List.length_drop, List.length_append, DD.D.str.injEq, mulG, dAsg, dFld, lookF, dSetF, setF, dProp, dMeth, dMake, dMakeK, cxOf_K, dChain, notNG, isNG, isNon_non, isNon_bl, isNon_int, isNon_str, isNon_lst, isNon_tup, isNon_dct, isNon_ins, isNon_exc, dXv, reprG, DD.D.ins.injEq, DD.D.exc.injEq, cmpIG, neIG, clsD, Option.bind_some, B.s.injEq, if_true, if_false, dNeg, dLenSet, dIndex, dClrE, dAppE, dCallK, eqKG, sortedSG, Int.toNat_natCast]
      refine mkR ok_rest ⟨rfl, by omega, 0, q⟩
end
end K

set_option Elab.async false
set_option linter.all false
set_option maxRecDepth 100000
set_option maxHeartbeats 8000000
namespace K
open PySem PySem.Spec PyProof.Rows L2 DD
section
variable {P : Program} {w : World} {K : PySem.W.Frag} {mg : Str → Option Value} {base : Heap}

def ansRows (aR : Addr) (rf : Bool) : List D := [rowD aR .non (.str "offer") "have" (.str "sure") "take" (.str "yes")] ++ (if rf = true then [rowD aR .non (.str "offer") "lack" .non "stay" (.str "no")] else []) ++ [restR aR]
def stepDes (aDe aRo aR : Addr) (n : Nat) (rf : Bool) : D := desD aDe aRo "a" (stepRows aR n rf) ["sure"] "idle" (ansRows aR rf) ["sure"] "offer"
theorem ok_have : okRow .non (.str "offer") (.str "have") (.str "sure") (.str "take") (.str "yes") = true := by decide +kernel
theorem ok_lack : okRow .non (.str "offer") (.str "lack") .non (.str "stay") (.str "no") = true := by decide +kernel
theorem one_row {aR : Addr} {sd : Str} {m h : D} {w : Str} {t : D} {v : Str} {s : D} (hh : isNon h = true ∨ isStr h = true) (hf : fitS sd h w v s = true) : RowsOk aR sd [rowD aR m h w t v s] := fun r hr => ⟨m, h, w, t, v, s, List.mem_singleton.mp hr, hh, hf⟩
theorem RowsOk.app {aR : Addr} {sd : Str} {as bs : List D} (h : RowsOk aR sd as) (g : RowsOk aR sd bs) : RowsOk aR sd (as ++ bs) := fun r hr => (List.mem_append.mp hr).elim (h r) (g r)
theorem RowsOk.nil {aR : Addr} {sd : Str} : RowsOk aR sd [] := fun r hr => by cases hr
theorem fit_at {aR : Addr} {n : Nat} {rf : Bool} {j : Nat} : RowsOk aR "caller" (stepAt aR n rf j) := by
  unfold stepAt
  refine .app (.app (one_row (.inr rfl) (by decide +kernel)) ?_) ?_
  · cases rf
    · exact .nil
    · exact .app (as := [_]) (one_row (.inr rfl) (by decide +kernel)) (one_row (.inr rfl) (by decide +kernel))
  · split
    · exact one_row (.inr rfl) (by decide +kernel)
    · exact .app (as := [_]) (one_row (.inr rfl) (by decide +kernel)) (one_row (.inr rfl) (by decide +kernel))
theorem fit_to {aR : Addr} {n : Nat} {rf : Bool} : ∀ j, RowsOk aR "caller" (stepTo aR n rf j)
  | 0 => .nil
  | j + 1 => .app (fit_to j) fit_at
theorem fit_step {aR : Addr} {n : Nat} {rf : Bool} : RowsOk aR "caller" (stepRows aR n rf) := .app (fit_to n) (one_row (.inl rfl) (by decide +kernel))
theorem fit_ans {aR : Addr} {rf : Bool} : RowsOk aR "host" (ansRows aR rf) := by
  unfold ansRows
  refine .app (.app (one_row (.inr rfl) (by decide +kernel)) ?_) (one_row (.inl rfl) (by decide +kernel))
  cases rf
  · exact .nil
  · exact one_row (.inr rfl) (by decide +kernel)

abbrev s_stepping : Stmt := topS 35
theorem sc_stepping : FnScope ["tries", "refuse", "answers", "caller"] ["tries", "refuse"] (defScope s_stepping) := ⟨rfl, rfl, rfl, by decide +kernel, rfl, by decide +kernel, by decide +kernel⟩
def spd_stepping (aDe aRo aR aN : Addr) : Spd := fun bs R E => ∃ (d : D) (rf : Bool), bs = [.p d, .p (.bl rf)] ∧ dat d = true ∧ ((∃ n : Nat, d = .int n ∧ 1 ≤ n ∧ n ≤ 4 ∧ R (.o (stepDes aDe aRo aR n rf)) 0) ∨ (okN d = false ∧ E aN [d] 0))
theorem cal_stepping (Da : FunAt K mg "stepping" s_stepping [] [("refuse", V.bl true)]) {a_Rule a_Role a_Design aI aIo aId aN : Addr} (mk_Rule_3_then_move_send : MakK P w K mg base "Rule" a_Rule 4 3 ["then", "move", "send"] (fun ds es => ds ++ es) (spi_Rule a_Rule aI)) (mk_Rule_3_send : MakK P w K mg base "Rule" a_Rule 4 3 ["send"] (fun ds es => ds ++ [D.non, D.str "stay"] ++ es) (spi_Rule a_Rule aI)) (mk_Rule_2 : MakC P w K mg base "Rule" a_Rule 4 ["self", "mode", "heard", "which", "then", "move", "send"] [.str "any", .non, .str "stay", .non] (spi_Rule a_Rule aI)) (mk_Role_4 : MakC P w K mg base "Role" a_Role 6 ["self", "side", "first", "rules", "settled"] [] (spi_Role a_Role a_Rule aIo)) (mk_Design_3 : MakC P w K mg base "Design" a_Design 4 ["self", "caller", "host", "hello"] [] (spi_Design a_Design a_Role aId)) (c_check_tries : Cal P w K mg base "check_tries" 2 ["tries"] (spd_check_tries aN)) (c_stepping_rules : Cal P w K mg base "stepping_rules" 6 ["tries", "refuse"] (spd_stepping_rules a_Rule)) : ∃ f fd, GnOk P w K mg base 10 f fd ["tries", "refuse"] (toSp K (spd_stepping a_Design a_Role a_Rule aN)) ∧ mg "stepping" = some (.ref f) ∧ FunD K "stepping" "stepping" (defArgs s_stepping) (defBody s_stepping) (defScope s_stepping) [] [("refuse", V.bl true)] f fd := by
  refine DD.fun_mk none Da sc_stepping (fun bs R E h => ?_) (fun bs R E h => ?_) fun f cdv A outer s H E W bs R ED gu hr te h fh => ?_
  · obtain ⟨d, rf, rfl, hd, q⟩ := h
    rfl
  · obtain ⟨d, rf, rfl, hd, q⟩ := h
    exact pur_none (by simp [B.own])
  · obtain ⟨d, rf, rfl, hd, q⟩ := h
    have nd := sc_stepping.nd
    have hu := hr.units
    refine ⟨_, (dss_cons (ds_expr (de_cX te c_check_tries gu hr (da_cons (de_v 0) da_nil))) (dss_cons (ds_set (i := 2) nd rfl (by first | exact Or.inl rfl | exact Or.inr rfl) (de_lst (da_cons (de_makeK mk_Rule_3_then_move_send gu hr (da_cons de_non (da_cons de_str (da_cons de_str da_nil))) (dk_cons de_str (dk_cons de_str (dk_cons de_str dk_nil)))) da_nil))) (dss_cons (ds_if (dt_val (he := fun _ => rfl) (de_v 1)) (dss_one (ds_append (i := 2) rfl (by first | exact Or.inl rfl | exact Or.inr (Or.inl rfl)) (de_makeK mk_Rule_3_send gu hr (da_cons de_non (da_cons de_str (da_cons de_str da_nil))) (dk_cons de_str dk_nil)) (hpe := fun ta h => pe_bm PySem.F.plainAttrs_list PySem.F.slot_list_append PySem.F.type_list_append mt_append (pv 2) (pa_cons h pa_nil)))) dss_nil) (dss_cons (ds_append (i := 2) rfl (by first | exact Or.inl rfl | exact Or.inr (Or.inl rfl)) (de_make mk_Rule_2 gu hr (da_cons de_non (da_cons de_non da_nil))) (hpe := fun ta h => pe_bm PySem.F.plainAttrs_list PySem.F.slot_list_append PySem.F.type_list_append mt_append (pv 2) (pa_cons h pa_nil))) (dss_cons (ds_set (i := 3) nd rfl (by first | exact Or.inl rfl | exact Or.inr rfl) (de_make mk_Role_4 gu hr (da_cons de_str (da_cons de_str (da_cons (de_c c_stepping_rules gu hr (da_cons (de_v 0) (da_cons (de_v 1) da_nil))) (da_cons (de_lst (da_cons de_str da_nil)) da_nil)))))) (dss_one (ds_ret (de_make mk_Design_3 gu hr (da_cons (de_v 3) (da_cons (de_make mk_Role_4 gu hr (da_cons de_str (da_cons de_str (da_cons (de_v 2) (da_cons (de_lst (da_cons de_str da_nil)) da_nil))))) (da_cons de_str da_nil))))))))))), ?_⟩
    have nm : ∀ x : Str, isNm (.str x) = isNm (.str x) := fun _ => rfl
    refine dseq ?_
    simp only [startD, List.map_cons, List.map_nil, List.length_cons, List.length_nil, Nat.reduceAdd, Nat.reduceSub, List.replicate, List.cons_append, List.nil_append, dSet, dIfS, dT, dOp, dCB, dCons, dNil, dV, dM, dC, dp, dNext, dRet, dRetN, dLst, dTup, dDrop, dNot, dAnd, dOr, dAndV, dOrV, dNotV, intG, intG0, lenG, lenD, ixG, itemD, intCG, intOf, maxG, List.getElem?_cons_zero, List.getElem?_cons_succ, List.set_cons_zero, List.set_cons_succ, Option.some.injEq, B.isU, B.d, B.rd, exists_eq_left', exists_eq_left, exists_and_left, true_and, and_true, B.p.injEq, DD.D.bl.injEq, DD.D.int.injEq, List.cons.injEq, DD.PC, decide_eq_true_eq, and_assoc, Option.map_some, dLc, iAny, walked, wipeE, gN, dCall, dCallP, dCallF, eqG, neG, Bool.not_true, Bool.not_false, if_true, if_false, Bool.false_eq_true, reduceIte, List.append_nil, dCBK, addG, dM1, gT, gsCons, gsNil, iEnumD, dAsP, iR1, dPart, dNo, dSl, freB, lstD, List.all_cons, List.all_nil, litD, Bool.and_self, dReprPair, dDctN, itemD2, ixG2, keyD, lookD, strG2, dPar, bCons, bNil, dFor, List.zip_cons_cons, List.zip_nil_right, List.foldl_cons, List.foldl_nil, dApp, B.o.injEq, DD.D.lst.injEq, DD.D.tup.injEq, exists_eq', dDct0, B.u.injEq, sizeLine_eq, Nat.reduceLeDiff, Nat.reduceLT, Nat.zero_le, true_implies, slG, List.length_map, tupleG, seqD, listG, iR2, List.length_take, List.length_drop, List.length_append, DD.D.str.injEq, mulG, dAsg, dFld, lookF, dSetF, setF, dProp, dMeth, dMake, dMakeK, cxOf_K, dChain, notNG, isNG, isNon_non, isNon_bl, isNon_int, isNon_str, isNon_lst, isNon_tup, isNon_dct, isNon_ins, isNon_exc, dXv, reprG, DD.D.ins.injEq, DD.D.exc.injEq, cmpIG, neIG, clsD, Option.bind_some, B.s.injEq, if_true, if_false, dNeg, dLenSet, dIndex, dClrE, dAppE, dCallK, eqKG, sortedSG]
    refine ⟨d, rfl, hd, ?_⟩
    rcases q with ⟨n, rfl, h1, h4, q⟩ | ⟨hn, q⟩
    · refine .inl ⟨?_, ?_⟩
      · show (decide _ && decide _) = true
        rw [decide_eq_true (show (1 : Int) ≤ (n : Int) by omega), decide_eq_true (show (n : Int) ≤ 4 by omega)]
        rfl
      simp only [startD, List.map_cons, List.map_nil, List.length_cons, List.length_nil, Nat.reduceAdd, Nat.reduceSub, List.replicate, List.cons_append, List.nil_append, dSet, dIfS, dT, dOp, dCB, dCons, dNil, dV, dM, dC, dp, dNext, dRet, dRetN, dLst, dTup, dDrop, dNot, dAnd, dOr, dAndV, dOrV, dNotV, intG, intG0, lenG, lenD, ixG, itemD, intCG, intOf, maxG, List.getElem?_cons_zero, List.getElem?_cons_succ, List.set_cons_zero, List.set_cons_succ, Option.some.injEq, B.isU, B.d, B.rd, exists_eq_left', exists_eq_left, exists_and_left, true_and, and_true, B.p.injEq, DD.D.bl.injEq, DD.D.int.injEq, List.cons.injEq, DD.PC, decide_eq_true_eq, and_assoc, Option.map_some, dLc, iAny, walked, wipeE, gN, dCall, dCallP, dCallF, eqG, neG, Bool.not_true, Bool.not_false, if_true, if_false, Bool.false_eq_true, reduceIte, List.append_nil, dCBK, addG, dM1, gT, gsCons, gsNil, iEnumD, dAsP, iR1, dPart, dNo, dSl, freB, lstD, List.all_cons, List.all_nil, litD, Bool.and_self, dReprPair, dDctN, itemD2, ixG2, keyD, lookD, strG2, dPar, bCons, bNil, dFor, List.zip_cons_cons, List.zip_nil_right, List.foldl_cons, List.foldl_nil, dApp, B.o.injEq, DD.D.lst.injEq, DD.D.tup.injEq, exists_eq', dDct0, B.u.injEq, sizeLine_eq, Nat.reduceLeDiff, Nat.reduceLT, Nat.zero_le, true_implies, slG, List.length_map, tupleG, seqD, listG, iR2, List.length_take, List.length_drop, List.length_append, DD.D.str.injEq, mulG, dAsg, dFld, lookF, dSetF, setF, dProp, dMeth, dMake, dMakeK, cxOf_K, dChain, notNG, isNG, isNon_non, isNon_bl, isNon_int, isNon_str, isNon_lst, isNon_tup, isNon_dct, isNon_ins, isNon_exc, dXv, reprG, DD.D.ins.injEq, DD.D.exc.injEq, cmpIG, neIG, clsD, Option.bind_some, B.s.injEq, if_true, if_false, dNeg, dLenSet, dIndex, dClrE, dAppE, dCallK, eqKG, sortedSG]
      refine dseq ?_
      simp only [startD, List.map_cons, List.map_nil, List.length_cons, List.length_nil, Nat.reduceAdd, Nat.reduceSub, List.replicate, List.cons_append, List.nil_append, dSet, dIfS, dT, dOp, dCB, dCons, dNil, dV, dM, dC, dp, dNext, dRet, dRetN, dLst, dTup, dDrop, dNot, dAnd, dOr, dAndV, dOrV, dNotV, intG, intG0, lenG, lenD, ixG, itemD, intCG, intOf, maxG, List.getElem?_cons_zero, List.getElem?_cons_succ, List.set_cons_zero, List.set_cons_succ, Option.some.injEq, B.isU, B.d, B.rd, exists_eq_left', exists_eq_left, exists_and_left, true_and, and_true, B.p.injEq, DD.D.bl.injEq, DD.D.int.injEq, List.cons.injEq, DD.PC, decide_eq_true_eq, and_assoc, Option.map_some, dLc, iAny, walked, wipeE, gN, dCall, dCallP, dCallF, eqG, neG, Bool.not_true, Bool.not_false, if_true, if_false, Bool.false_eq_true, reduceIte, List.append_nil, dCBK, addG, dM1, gT, gsCons, gsNil, iEnumD, dAsP, iR1, dPart, dNo, dSl, freB, lstD, List.all_cons, List.all_nil, litD, Bool.and_self, dReprPair, dDctN, itemD2, ixG2, keyD, lookD, strG2, dPar, bCons, bNil, dFor, List.zip_cons_cons, List.zip_nil_right, List.foldl_cons, List.foldl_nil, dApp, B.o.injEq, DD.D.lst.injEq, DD.D.tup.injEq, exists_eq', dDct0, B.u.injEq, sizeLine_eq, Nat.reduceLeDiff, Nat.reduceLT, Nat.zero_le, true_implies, slG, List.length_map, tupleG, seqD, listG, iR2, List.length_take, List.length_drop, List.length_append, DD.D.str.injEq, mulG, dAsg, dFld, lookF, dSetF, setF, dProp, dMeth, dMake, dMakeK, cxOf_K, dChain, notNG, isNG, isNon_non, isNon_bl, isNon_int, isNon_str, isNon_lst, isNon_tup, isNon_dct, isNon_ins, isNon_exc, dXv, reprG, DD.D.ins.injEq, DD.D.exc.injEq, cmpIG, neIG, clsD, Option.bind_some, B.s.injEq, if_true, if_false, dNeg, dLenSet, dIndex, dClrE, dAppE, dCallK, eqKG, sortedSG]
      refine mkR ok_have ⟨rfl, dseq ?_⟩
      have nmS : ∀ x ∈ (["sure"] : List Str), isNm (.str x) = true ∧ Dat (.str x) := fun x hx => by
        rw [List.mem_singleton.mp hx]
        exact ⟨by decide +kernel, dat_of (by decide +kernel)⟩
      have sl1 : (stepRows a_Rule n rf).length ≤ 30 := by
        have := step_len (aR := a_Rule) (n := n) (rf := rf) n
        unfold stepRows
        rw [List.length_append, List.length_singleton]
        omega
      have sn1 : stepRows a_Rule n rf ≠ [] := by
        unfold stepRows
        simp
      have f1 := fit_step (aR := a_Rule) (n := n) (rf := rf)
      have f2 := fit_ans (aR := a_Rule) (rf := rf)
      have tail : ∀ A : List D, A = ansRows a_Rule rf → A.length ≤ 5 → spd_stepping_rules a_Rule [.p (.int n), .p (.bl rf)] (fun b m => b.isU = false ∧ b.isU = false ∧ spi_Role a_Role a_Rule aIo (.ins a_Role [] []) [.str "caller", .str "a", b.d, .lst [.str "sure"]] (fun b d => b = .p .non ∧ spi_Role a_Role a_Rule aIo (.ins a_Role [] []) [.str "host", .str "idle", .lst A, .lst [.str "sure"]] (fun b2 d2 => b2 = .p .non ∧ spi_Design a_Design a_Role aId (.ins a_Design [] []) [d, d2, .str "offer"] (fun b3 d3 => b3 = .p .non ∧ ∃ m, R (.o d3) m) fun _ _ _ => False) fun _ _ _ => False) fun _ _ _ => False) fun _ _ _ => False := fun A hA hl => by
        subst hA
        refine ⟨n, rf, rfl, h1, h4, rfl, rfl, ?_⟩
        refine ⟨_, "caller", "a", stepRows a_Rule n rf, ["sure"], _, rfl, rfl, rfl, by decide, by decide +kernel, dat_of (by decide +kernel), sn1, by omega, f1, .inl rfl, by decide, nmS, by decide, rfl, ?_⟩
        refine ⟨_, "host", "idle", ansRows a_Rule rf, ["sure"], _, rfl, rfl, rfl, by decide, by decide +kernel, dat_of (by decide +kernel), by unfold ansRows; simp, by omega, f2, .inl rfl, by decide, nmS, by decide, rfl, ?_⟩
        exact ⟨_, "a", "idle", "offer", _, _, ["sure"], ["sure"], rfl, rfl, rfl, by omega, by omega, by decide, by decide, by decide +kernel, dat_of (by decide +kernel), rfl, 0, q⟩
      cases rf
      · simp only [startD, List.map_cons, List.map_nil, List.length_cons, List.length_nil, Nat.reduceAdd, Nat.reduceSub, List.replicate, List.cons_append, List.nil_append, dSet, dIfS, dT, dOp, dCB, dCons, dNil, dV, dM, dC, dp, dNext, dRet, dRetN, dLst, dTup, dDrop, dNot, dAnd, dOr, dAndV, dOrV, dNotV, intG, intG0, lenG, lenD, ixG, itemD, intCG, intOf, maxG, List.getElem?_cons_zero, List.getElem?_cons_succ, List.set_cons_zero, List.set_cons_succ, Option.some.injEq, B.isU, B.d, B.rd, exists_eq_left', exists_eq_left, exists_and_left, true_and, and_true, B.p.injEq, DD.D.bl.injEq, DD.D.int.injEq, List.cons.injEq, DD.PC, decide_eq_true_eq, and_assoc, Option.map_some, dLc, iAny, walked, wipeE, gN, dCall, dCallP, dCallF, eqG, neG, Bool.not_true, Bool.not_false, if_true, if_false, Bool.false_eq_true, reduceIte, List.append_nil, dCBK, addG, dM1, gT, gsCons, gsNil, iEnumD, dAsP, iR1, dPart, dNo, dSl, freB, lstD, List.all_cons, List.all_nil, litD, Bool.and_self, dReprPair, dDctN, itemD2, ixG2, keyD, lookD, strG2, dPar, bCons, bNil, dFor, List.zip_cons_cons, List.zip_nil_right, List.foldl_cons, List.foldl_nil, dApp, B.o.injEq, DD.D.lst.injEq, DD.D.tup.injEq, exists_eq', dDct0, B.u.injEq, sizeLine_eq, Nat.reduceLeDiff, Nat.reduceLT, Nat.zero_le, true_implies, slG, List.length_map, tupleG, seqD, listG, iR2, List.length_take, List.length_drop, List.length_append, DD.D.str.injEq, mulG, dAsg, dFld, lookF, dSetF, setF, dProp, dMeth, dMake, dMakeK, cxOf_K, dChain, notNG, isNG, isNon_non, isNon_bl, isNon_int, isNon_str, isNon_lst, isNon_tup, isNon_dct, isNon_ins, isNon_exc, dXv, reprG, DD.D.ins.injEq, DD.D.exc.injEq, cmpIG, neIG, clsD, Option.bind_some, B.s.injEq, if_true, if_false, dNeg, dLenSet, dIndex, dClrE, dAppE, dCallK, eqKG, sortedSG]
        refine dseq ?_
        simp only [startD, List.map_cons, List.map_nil, List.length_cons, List.length_nil, Nat.reduceAdd, Nat.reduceSub, List.replicate, List.cons_append, List.nil_append, dSet, dIfS, dT, dOp, dCB, dCons, dNil, dV, dM, dC, dp, dNext, dRet, dRetN, dLst, dTup, dDrop, dNot, dAnd, dOr, dAndV, dOrV, dNotV, intG, intG0, lenG, lenD, ixG, itemD, intCG, intOf, maxG, List.getElem?_cons_zero, List.getElem?_cons_succ, List.set_cons_zero, List.set_cons_succ, Option.some.injEq, B.isU, B.d, B.rd, exists_eq_left', exists_eq_left, exists_and_left, true_and, and_true, B.p.injEq, DD.D.bl.injEq, DD.D.int.injEq, List.cons.injEq, DD.PC, decide_eq_true_eq, and_assoc, Option.map_some, dLc, iAny, walked, wipeE, gN, dCall, dCallP, dCallF, eqG, neG, Bool.not_true, Bool.not_false, if_true, if_false, Bool.false_eq_true, reduceIte, List.append_nil, dCBK, addG, dM1, gT, gsCons, gsNil, iEnumD, dAsP, iR1, dPart, dNo, dSl, freB, lstD, List.all_cons, List.all_nil, litD, Bool.and_self, dReprPair, dDctN, itemD2, ixG2, keyD, lookD, strG2, dPar, bCons, bNil, dFor, List.zip_cons_cons, List.zip_nil_right, List.foldl_cons, List.foldl_nil, dApp, B.o.injEq, DD.D.lst.injEq, DD.D.tup.injEq, exists_eq', dDct0, B.u.injEq, sizeLine_eq, Nat.reduceLeDiff, Nat.reduceLT, Nat.zero_le, true_implies, slG, List.length_map, tupleG, seqD, listG, iR2, List.length_take, List.length_drop, List.length_append, DD.D.str.injEq, mulG, dAsg, dFld, lookF, dSetF, setF, dProp, dMeth, dMake, dMakeK, cxOf_K, dChain, notNG, isNG, isNon_non, isNon_bl, isNon_int, isNon_str, isNon_lst, isNon_tup, isNon_dct, isNon_ins, isNon_exc, dXv, reprG, DD.D.ins.injEq, DD.D.exc.injEq, cmpIG, neIG, clsD, Option.bind_some, B.s.injEq, if_true, if_false, dNeg, dLenSet, dIndex, dClrE, dAppE, dCallK, eqKG, sortedSG]
        refine mkR ok_rest ⟨rfl, dseq ?_⟩
        simp only [startD, List.map_cons, List.map_nil, List.length_cons, List.length_nil, Nat.reduceAdd, Nat.reduceSub, List.replicate, List.cons_append, List.nil_append, dSet, dIfS, dT, dOp, dCB, dCons, dNil, dV, dM, dC, dp, dNext, dRet, dRetN, dLst, dTup, dDrop, dNot, dAnd, dOr, dAndV, dOrV, dNotV, intG, intG0, lenG, lenD, ixG, itemD, intCG, intOf, maxG, List.getElem?_cons_zero, List.getElem?_cons_succ, List.set_cons_zero, List.set_cons_succ, Option.some.injEq, B.isU, B.d, B.rd, exists_eq_left', exists_eq_left, exists_and_left, true_and, and_true, B.p.injEq, DD.D.bl.injEq, DD.D.int.injEq, List.cons.injEq, DD.PC, decide_eq_true_eq, and_assoc, Option.map_some, dLc, iAny, walked, wipeE, gN, dCall, dCallP, dCallF, eqG, neG, Bool.not_true, Bool.not_false, if_true, if_false, Bool.false_eq_true, reduceIte, List.append_nil, dCBK, addG, dM1, gT, gsCons, gsNil, iEnumD, dAsP, iR1, dPart, dNo, dSl, freB, lstD, List.all_cons, List.all_nil, litD, Bool.and_self, dReprPair, dDctN, itemD2, ixG2, keyD, lookD, strG2, dPar, bCons, bNil, dFor, List.zip_cons_cons, List.zip_nil_right, List.foldl_cons, List.foldl_nil, dApp, B.o.injEq, DD.D.lst.injEq, DD.D.tup.injEq, exists_eq', dDct0, B.u.injEq, sizeLine_eq, Nat.reduceLeDiff, Nat.reduceLT, Nat.zero_le, true_implies, slG, List.length_map, tupleG, seqD, listG, iR2, List.length_take, List.length_drop, List.length_append, DD.D.str.injEq, mulG, dAsg, dFld, lookF, dSetF, setF, dProp, dMeth, dMake, dMakeK, cxOf_K, dChain, notNG, isNG, isNon_non, isNon_bl, isNon_int, isNon_str, isNon_lst, isNon_tup, isNon_dct, isNon_ins, isNon_exc, dXv, reprG, DD.D.ins.injEq, DD.D.exc.injEq, cmpIG, neIG, clsD, Option.bind_some, B.s.injEq, if_true, if_false, dNeg, dLenSet, dIndex, dClrE, dAppE, dCallK, eqKG, sortedSG]
        exact tail _ rfl (by simp [ansRows])
      · simp only [startD, List.map_cons, List.map_nil, List.length_cons, List.length_nil, Nat.reduceAdd, Nat.reduceSub, List.replicate, List.cons_append, List.nil_append, dSet, dIfS, dT, dOp, dCB, dCons, dNil, dV, dM, dC, dp, dNext, dRet, dRetN, dLst, dTup, dDrop, dNot, dAnd, dOr, dAndV, dOrV, dNotV, intG, intG0, lenG, lenD, ixG, itemD, intCG, intOf, maxG, List.getElem?_cons_zero, List.getElem?_cons_succ, List.set_cons_zero, List.set_cons_succ, Option.some.injEq, B.isU, B.d, B.rd, exists_eq_left', exists_eq_left, exists_and_left, true_and, and_true, B.p.injEq, DD.D.bl.injEq, DD.D.int.injEq, List.cons.injEq, DD.PC, decide_eq_true_eq, and_assoc, Option.map_some, dLc, iAny, walked, wipeE, gN, dCall, dCallP, dCallF, eqG, neG, Bool.not_true, Bool.not_false, if_true, if_false, Bool.false_eq_true, reduceIte, List.append_nil, dCBK, addG, dM1, gT, gsCons, gsNil, iEnumD, dAsP, iR1, dPart, dNo, dSl, freB, lstD, List.all_cons, List.all_nil, litD, Bool.and_self, dReprPair, dDctN, itemD2, ixG2, keyD, lookD, strG2, dPar, bCons, bNil, dFor, List.zip_cons_cons, List.zip_nil_right, List.foldl_cons, List.foldl_nil, dApp, B.o.injEq, DD.D.lst.injEq, DD.D.tup.injEq, exists_eq', dDct0, B.u.injEq, sizeLine_eq, Nat.reduceLeDiff, Nat.reduceLT, Nat.zero_le, true_implies, slG, List.length_map, tupleG, seqD, listG, iR2, List.length_take, List.length_drop, List.length_append, DD.D.str.injEq, mulG, dAsg, dFld, lookF, dSetF, setF, dProp, dMeth, dMake, dMakeK, cxOf_K, dChain, notNG, isNG, isNon_non, isNon_bl, isNon_int, isNon_str, isNon_lst, isNon_tup, isNon_dct, isNon_ins, isNon_exc, dXv, reprG, DD.D.ins.injEq, DD.D.exc.injEq, cmpIG, neIG, clsD, Option.bind_some, B.s.injEq, if_true, if_false, dNeg, dLenSet, dIndex, dClrE, dAppE, dCallK, eqKG, sortedSG]
        refine mkR ok_lack ⟨rfl, dseq ?_⟩
        simp only [startD, List.map_cons, List.map_nil, List.length_cons, List.length_nil, Nat.reduceAdd, Nat.reduceSub, List.replicate, List.cons_append, List.nil_append, dSet, dIfS, dT, dOp, dCB, dCons, dNil, dV, dM, dC, dp, dNext, dRet, dRetN, dLst, dTup, dDrop, dNot, dAnd, dOr, dAndV, dOrV, dNotV, intG, intG0, lenG, lenD, ixG, itemD, intCG, intOf, maxG, List.getElem?_cons_zero, List.getElem?_cons_succ, List.set_cons_zero, List.set_cons_succ, Option.some.injEq, B.isU, B.d, B.rd, exists_eq_left', exists_eq_left, exists_and_left, true_and, and_true, B.p.injEq, DD.D.bl.injEq, DD.D.int.injEq, List.cons.injEq, DD.PC, decide_eq_true_eq, and_assoc, Option.map_some, dLc, iAny, walked, wipeE, gN, dCall, dCallP, dCallF, eqG, neG, Bool.not_true, Bool.not_false, if_true, if_false, Bool.false_eq_true, reduceIte, List.append_nil, dCBK, addG, dM1, gT, gsCons, gsNil, iEnumD, dAsP, iR1, dPart, dNo, dSl, freB, lstD, List.all_cons, List.all_nil, litD, Bool.and_self, dReprPair, dDctN, itemD2, ixG2, keyD, lookD, strG2, dPar, bCons, bNil, dFor, List.zip_cons_cons, List.zip_nil_right, List.foldl_cons, List.foldl_nil, dApp, B.o.injEq, DD.D.lst.injEq, DD.D.tup.injEq, exists_eq', dDct0, B.u.injEq, sizeLine_eq, Nat.reduceLeDiff, Nat.reduceLT, Nat.zero_le, true_implies, slG, List.length_map, tupleG, seqD, listG, iR2, List.length_take, List.length_drop, List.length_append, DD.D.str.injEq, mulG, dAsg, dFld, lookF, dSetF, setF, dProp, dMeth, dMake, dMakeK, cxOf_K, dChain, notNG, isNG, isNon_non, isNon_bl, isNon_int, isNon_str, isNon_lst, isNon_tup, isNon_dct, isNon_ins, isNon_exc, dXv, reprG, DD.D.ins.injEq, DD.D.exc.injEq, cmpIG, neIG, clsD, Option.bind_some, B.s.injEq, if_true, if_false, dNeg, dLenSet, dIndex, dClrE, dAppE, dCallK, eqKG, sortedSG]
        refine mkR ok_rest ⟨rfl, dseq ?_⟩
        simp only [startD, List.map_cons, List.map_nil, List.length_cons, List.length_nil, Nat.reduceAdd, Nat.reduceSub, List.replicate, List.cons_append, List.nil_append, dSet, dIfS, dT, dOp, dCB, dCons, dNil, dV, dM, dC, dp, dNext, dRet, dRetN, dLst, dTup, dDrop, dNot, dAnd, dOr, dAndV, dOrV, dNotV, intG, intG0, lenG, lenD, ixG, itemD, intCG, intOf, maxG, List.getElem?_cons_zero, List.getElem?_cons_succ, List.set_cons_zero, List.set_cons_succ, Option.some.injEq, B.isU, B.d, B.rd, exists_eq_left', exists_eq_left, exists_and_left, true_and, and_true, B.p.injEq, DD.D.bl.injEq, DD.D.int.injEq, List.cons.injEq, DD.PC, decide_eq_true_eq, and_assoc, Option.map_some, dLc, iAny, walked, wipeE, gN, dCall, dCallP, dCallF, eqG, neG, Bool.not_true, Bool.not_false, if_true, if_false, Bool.false_eq_true, reduceIte, List.append_nil, dCBK, addG, dM1, gT, gsCons, gsNil, iEnumD, dAsP, iR1, dPart, dNo, dSl, freB, lstD, List.all_cons, List.all_nil, litD, Bool.and_self, dReprPair, dDctN, itemD2, ixG2, keyD, lookD, strG2, dPar, bCons, bNil, dFor, List.zip_cons_cons, List.zip_nil_right, List.foldl_cons, List.foldl_nil, dApp, B.o.injEq, DD.D.lst.injEq, DD.D.tup.injEq, exists_eq', dDct0, B.u.injEq, sizeLine_eq, Nat.reduceLeDiff, Nat.reduceLT, Nat.zero_le, true_implies, slG, List.length_map, tupleG, seqD, listG, iR2, List.length_take, List.length_drop, List.length_append, DD.D.str.injEq, mulG, dAsg, dFld, lookF, dSetF, setF, dProp, dMeth, dMake, dMakeK, cxOf_K, dChain, notNG, isNG, isNon_non, isNon_bl, isNon_int, isNon_str, isNon_lst, isNon_tup, isNon_dct, isNon_ins, isNon_exc, dXv, reprG, DD.D.ins.injEq, DD.D.exc.injEq, cmpIG, neIG, clsD, Option.bind_some, B.s.injEq, if_true, if_false, dNeg, dLenSet, dIndex, dClrE, dAppE, dCallK, eqKG, sortedSG]
        exact tail _ rfl (by simp [ansRows])
    · exact .inr ⟨hn, 0, q⟩
end
end K

set_option Elab.async false
set_option linter.all false
set_option maxRecDepth 100000
set_option maxHeartbeats 8000000
namespace K
open PySem PySem.Spec PyProof.Rows L2 DD
section
variable {P : Program} {w : World} {K : PySem.W.Frag} {mg : Str → Option Value} {base : Heap}

/-- a row of the law, and what it makes -/
structure RowT where
  m : D
  h : D
  w : Str
  t : D
  v : Str
  s : D
def RowT.d (r : RowT) : D := .tup [r.m, r.h, .str r.w, r.t, .str r.v, r.s]
def RowT.r (aR : Addr) (r : RowT) : D := rowD aR r.m r.h r.w r.t r.v r.s
def RowT.ok (sd : Str) (r : RowT) : Bool := okRow r.m r.h (.str r.w) r.t (.str r.v) r.s && (isNon r.h || isStr r.h) && fitS sd r.h r.w r.v r.s
def mkD (aR : Addr) : D → D
  | .tup xs => .ins aR ["fields"] [.tup xs]
  | d => d
theorem mk_rows {aR : Addr} {rs : List RowT} : ((rs.map RowT.d).filter fun _ => true).map (mkD aR) = rs.map (RowT.r aR) := by
  rw [show (rs.map RowT.d).filter (fun _ => true) = rs.map RowT.d from by simp, List.map_map]
  rfl
def unD : D → D
  | .ins _ _ [.tup xs] => .tup xs
  | d => d
theorem un_rows {aR : Addr} {rs : List RowT} : ((rs.map (RowT.r aR)).filter fun _ => true).map unD = rs.map RowT.d := by
  rw [show (rs.map (RowT.r aR)).filter (fun _ => true) = rs.map (RowT.r aR) from by simp, List.map_map]
  rfl
theorem rows_of {aR : Addr} {sd : Str} {rs : List RowT} (h : rs.all (·.ok sd) = true) : RowsOk aR sd (rs.map (RowT.r aR)) := fun d hd => by
  obtain ⟨r, hr, rfl⟩ := List.mem_map.mp hd
  have z := List.all_eq_true.mp h r hr
  unfold RowT.ok at z
  simp only [Bool.and_eq_true, Bool.or_eq_true] at z
  exact ⟨_, _, _, _, _, _, rfl, z.1.2, z.2⟩

abbrev s__law_rule : Stmt := topS 39
theorem sc__law_rule : FnScope ["_law_row"] ["_law_row"] (defScope s__law_rule) := ⟨rfl, rfl, rfl, by decide +kernel, rfl, by decide +kernel, by decide +kernel⟩
def spd__law_rule (aR : Addr) : Spd := fun bs R _ => ∃ r : RowT, bs = [.p r.d] ∧ okRow r.m r.h (.str r.w) r.t (.str r.v) r.s = true ∧ R (.o (r.r aR)) 0
theorem cal__law_rule (Da : DefAt K mg "_law_rule" s__law_rule) {a_Rule aI : Addr} (mk_Rule_3_then_move_send : MakK P w K mg base "Rule" a_Rule 4 3 ["then", "move", "send"] (fun ds es => ds ++ es) (spi_Rule a_Rule aI)) : Cal P w K mg base "_law_rule" 6 ["_law_row"] (spd__law_rule a_Rule) := by
  refine cal_mk none Da sc__law_rule (fun _ _ _ _ _ _ us hl => match us, hl with | [_], _ => rfl) (fun bs R E h => ?_) (fun bs R E h => ?_) fun f cdv A outer s H E W bs R ED gu hr te h fh => ?_
  · obtain ⟨r, rfl, hf, q⟩ := h
    rfl
  · obtain ⟨r, rfl, hf, q⟩ := h
    exact pur_none (by simp [B.own])
  · obtain ⟨r, rfl, hf, q⟩ := h
    have nd := sc__law_rule.nd
    have hu := hr.units
    refine ⟨_, (dss_one (ds_ret (de_makeK mk_Rule_3_then_move_send gu hr (da_cons (de_ix2 hu (de_v 0) de_int fun _ _ => rfl) (da_cons (de_ix2 hu (de_v 0) de_int fun _ _ => rfl) (da_cons (de_ix2 hu (de_v 0) de_int fun _ _ => rfl) da_nil))) (dk_cons (de_ix2 hu (de_v 0) de_int fun _ _ => rfl) (dk_cons (de_ix2 hu (de_v 0) de_int fun _ _ => rfl) (dk_cons (de_ix2 hu (de_v 0) de_int fun _ _ => rfl) dk_nil)))))), ?_⟩
    simp only [startD, List.map_cons, List.map_nil, List.length_cons, List.length_nil, Nat.reduceAdd, Nat.reduceSub, List.replicate, List.cons_append, List.nil_append, dSeq, dSet, dIfS, dT, dOp, dCB, dCons, dNil, dV, dM, dC, dp, dNext, dRet, dRetN, dLst, dTup, dDrop, dNot, dAnd, dOr, dAndV, dOrV, dNotV, intG, intG0, lenG, lenD, ixG, itemD, intCG, intOf, maxG, List.getElem?_cons_zero, List.getElem?_cons_succ, List.set_cons_zero, List.set_cons_succ, Option.some.injEq, B.isU, B.d, B.rd, exists_eq_left', exists_eq_left, exists_and_left, true_and, and_true, B.p.injEq, DD.D.bl.injEq, DD.D.int.injEq, List.cons.injEq, DD.PC, decide_eq_true_eq, and_assoc, Option.map_some, dLc, iAny, walked, wipeE, gN, dCall, dCallP, dCallF, eqG, neG, Bool.not_true, Bool.not_false, if_true, if_false, Bool.false_eq_true, reduceIte, List.append_nil, dCBK, addG, dM1, gT, gsCons, gsNil, iEnumD, dAsP, iR1, dPart, dNo, dSl, freB, lstD, List.all_cons, List.all_nil, litD, Bool.and_self, dReprPair, dDctN, itemD2, ixG2, keyD, lookD, strG2, dPar, bCons, bNil, dFor, List.zip_cons_cons, List.zip_nil_right, List.foldl_cons, List.foldl_nil, dApp, B.o.injEq, DD.D.lst.injEq, DD.D.tup.injEq, exists_eq', dDct0, B.u.injEq, sizeLine_eq, Nat.reduceLeDiff, Nat.reduceLT, Nat.zero_le, true_implies, slG, List.length_map, tupleG, seqD, listG, iR2, List.length_take, List.length_drop, List.length_append, DD.D.str.injEq, mulG, dAsg, dFld, lookF, dSetF, setF, dProp, dMeth, dMake, dMakeK, cxOf_K, dChain, notNG, isNG, isNon_non, isNon_bl, isNon_int, isNon_str, isNon_lst, isNon_tup, isNon_dct, isNon_ins, isNon_exc, dXv, reprG, DD.D.ins.injEq, DD.D.exc.injEq, cmpIG, neIG, clsD, Option.bind_some, B.s.injEq, if_true, if_false, dNeg, dLenSet, dIndex, dClrE, dAppE, dCallK, eqKG, sortedSG, RowT.d]
    refine ⟨_, rfl, _, rfl, _, rfl, _, rfl, _, rfl, _, rfl, ?_⟩
    exact mkR hf ⟨rfl, 0, q⟩
abbrev s__law_role : Stmt := topS 40
theorem sc__law_role : FnScope ["_law_side", "_law_role_here", "_law_row"] ["_law_side", "_law_role_here"] (defScope s__law_role) := ⟨rfl, rfl, rfl, by decide +kernel, rfl, by decide +kernel, by decide +kernel⟩
def spd__law_role (aRo aR : Addr) : Spd := fun bs R _ => ∃ (sd f : Str) (rs : List RowT) (ss : List Str), bs = [.p (.str sd), .p (.tup [.str f, .lst (rs.map RowT.d), .lst (ss.map D.str)])] ∧ sd ∈ sides ∧ isNm (.str f) = true ∧ Dat (.str f) ∧ rs ≠ [] ∧ rs.length ≤ 1000 ∧ rs.all (·.ok sd) = true ∧ ss.length ≤ 1 ∧ (∀ s ∈ ss, isNm (.str s) = true ∧ Dat (.str s)) ∧ f ∉ ss ∧ R (.o (roleD aRo sd f (rs.map (RowT.r aR)) ss)) 0
theorem cal__law_role (Da : DefAt K mg "_law_role" s__law_role) {a_Rule a_Role aIo : Addr} (c__law_rule : Cal P w K mg base "_law_rule" 6 ["_law_row"] (spd__law_rule a_Rule)) (mk_Role_4 : MakC P w K mg base "Role" a_Role 6 ["self", "side", "first", "rules", "settled"] [] (spi_Role a_Role a_Rule aIo)) (m_list : mg "list" = none) : Cal P w K mg base "_law_role" 8 ["_law_side", "_law_role_here"] (spd__law_role a_Role a_Rule) := by
  refine cal_mk none Da sc__law_role (fun _ _ _ _ _ _ us hl => match us, hl with | [_, _], _ => rfl) (fun bs R E h => ?_) (fun bs R E h => ?_) fun f cdv A outer s H E W bs R ED gu hr te h fh => ?_
  · obtain ⟨sd, f, rs, ss, rfl, h1, h2, h3, h0, hl, h4, h6, h7, h8, q⟩ := h
    rfl
  · obtain ⟨sd, f, rs, ss, rfl, h1, h2, h3, h0, hl, h4, h6, h7, h8, q⟩ := h
    exact pur_none (by simp [B.own])
  · obtain ⟨sd, f, rs, ss, rfl, h1, h2, h3, h0, hl, h4, h6, h7, h8, q⟩ := h
    have nd := sc__law_role.nd
    have hu := hr.units
    refine ⟨_, (dss_one (ds_ret (de_make mk_Role_4 gu hr (da_cons (de_v 0) (da_cons (de_ix2 hu (de_v 1) de_int fun _ _ => rfl) (da_cons (de_lc rfl nd (di_any (de_ix2 hu (de_v 1) de_int fun _ _ => rfl)) (own := [("_law_row", 2)]) (blkOk_by (by kernel_rfl)) (fun _ _ _ _ _ _ => (dgc_name (i := 2) (by decide) nd rfl (by first | exact Or.inl rfl | exact Or.inr rfl))) (fun _ _ _ _ _ _ => dts_nil) (fun _ _ _ _ _ _ => (de_c c__law_rule gu hr (da_cons (de_v 2) da_nil)))) (da_cons (de_callTy call_list_of rc_list rfl m_list bt_list (da_cons (de_ix2 hu (de_v 1) de_int fun _ _ => rfl) da_nil)) da_nil))))))), ?_⟩
    simp only [startD, List.map_cons, List.map_nil, List.length_cons, List.length_nil, Nat.reduceAdd, Nat.reduceSub, List.replicate, List.cons_append, List.nil_append, dSet, dIfS, dT, dOp, dCB, dCons, dNil, dV, dM, dC, dp, dNext, dRet, dRetN, dLst, dTup, dDrop, dNot, dAnd, dOr, dAndV, dOrV, dNotV, intG, intG0, lenG, lenD, ixG, itemD, intCG, intOf, maxG, List.getElem?_cons_zero, List.getElem?_cons_succ, List.set_cons_zero, List.set_cons_succ, Option.some.injEq, B.isU, B.d, B.rd, exists_eq_left', exists_eq_left, exists_and_left, true_and, and_true, B.p.injEq, DD.D.bl.injEq, DD.D.int.injEq, List.cons.injEq, DD.PC, decide_eq_true_eq, and_assoc, Option.map_some, dLc, iAny, walked, wipeE, gN, dCall, dCallP, dCallF, eqG, neG, Bool.not_true, Bool.not_false, if_true, if_false, Bool.false_eq_true, reduceIte, List.append_nil, dCBK, addG, dM1, gT, gsCons, gsNil, iEnumD, dAsP, iR1, dPart, dNo, dSl, freB, lstD, List.all_cons, List.all_nil, litD, Bool.and_self, dReprPair, dDctN, itemD2, ixG2, keyD, lookD, strG2, dPar, bCons, bNil, dFor, List.zip_cons_cons, List.zip_nil_right, List.foldl_cons, List.foldl_nil, dApp, B.o.injEq, DD.D.lst.injEq, DD.D.tup.injEq, exists_eq', dDct0, B.u.injEq, sizeLine_eq, Nat.reduceLeDiff, Nat.reduceLT, Nat.zero_le, true_implies, slG, List.length_map, tupleG, seqD, listG, iR2, List.length_take, List.length_drop, List.length_append, DD.D.str.injEq, mulG, dAsg, dFld, lookF, dSetF, setF, dProp, dMeth, dMake, dMakeK, cxOf_K, dChain, notNG, isNG, isNon_non, isNon_bl, isNon_int, isNon_str, isNon_lst, isNon_tup, isNon_dct, isNon_ins, isNon_exc, dXv, reprG, DD.D.ins.injEq, DD.D.exc.injEq, cmpIG, neIG, clsD, Option.bind_some, B.s.injEq, if_true, if_false, dNeg, dLenSet, dIndex, dClrE, dAppE, dCallK, eqKG, sortedSG]
    refine ⟨.str f, rfl, _, rfl, _, rfl, ?_⟩
    refine lcL_map (fun _ => true) (mkD a_Rule) (fun d => [some (.p (.str sd)), some (.p (.tup [.str f, .lst (rs.map RowT.d), .lst (ss.map D.str)])), some (.p d)]) (fun d => [some (.p (.str sd)), some (.p (.tup [.str f, .lst (rs.map RowT.d), .lst (ss.map D.str)])), some (.p d)]) (fun r hr' Y N y n => ?_) (fun r hr' => ?_) (by rw [sizeLine_eq, List.length_nil, List.length_map]; omega) ?_
    · obtain ⟨x, hx, rfl⟩ := List.mem_map.mp hr'
      have z := List.all_eq_true.mp h4 x hx
      unfold RowT.ok at z
      simp only [Bool.and_eq_true] at z
      simp only [dYes, startD, List.map_cons, List.map_nil, List.length_cons, List.length_nil, Nat.reduceAdd, Nat.reduceSub, List.replicate, List.cons_append, List.nil_append, dSet, dIfS, dT, dOp, dCB, dCons, dNil, dV, dM, dC, dp, dNext, dRet, dRetN, dLst, dTup, dDrop, dNot, dAnd, dOr, dAndV, dOrV, dNotV, intG, intG0, lenG, lenD, ixG, itemD, intCG, intOf, maxG, List.getElem?_cons_zero, List.getElem?_cons_succ, List.set_cons_zero, List.set_cons_succ, Option.some.injEq, B.isU, B.d, B.rd, exists_eq_left', exists_eq_left, exists_and_left, true_and, and_true, B.p.injEq, DD.D.bl.injEq, DD.D.int.injEq, List.cons.injEq, DD.PC, decide_eq_true_eq, and_assoc, Option.map_some, dLc, iAny, walked, wipeE, gN, dCall, dCallP, dCallF, eqG, neG, Bool.not_true, Bool.not_false, if_true, if_false, Bool.false_eq_true, reduceIte, List.append_nil, dCBK, addG, dM1, gT, gsCons, gsNil, iEnumD, dAsP, iR1, dPart, dNo, dSl, freB, lstD, List.all_cons, List.all_nil, litD, Bool.and_self, dReprPair, dDctN, itemD2, ixG2, keyD, lookD, strG2, dPar, bCons, bNil, dFor, List.zip_cons_cons, List.zip_nil_right, List.foldl_cons, List.foldl_nil, dApp, B.o.injEq, DD.D.lst.injEq, DD.D.tup.injEq, exists_eq', dDct0, B.u.injEq, sizeLine_eq, Nat.reduceLeDiff, Nat.reduceLT, Nat.zero_le, true_implies, slG, List.length_map, tupleG, seqD, listG, iR2, List.length_take, List.length_drop, List.length_append, DD.D.str.injEq, mulG, dAsg, dFld, lookF, dSetF, setF, dProp, dMeth, dMake, dMakeK, cxOf_K, dChain, notNG, isNG, isNon_non, isNon_bl, isNon_int, isNon_str, isNon_lst, isNon_tup, isNon_dct, isNon_ins, isNon_exc, dXv, reprG, DD.D.ins.injEq, DD.D.exc.injEq, cmpIG, neIG, clsD, Option.bind_some, B.s.injEq, if_true, if_false, dNeg, dLenSet, dIndex, dClrE, dAppE, dCallK, eqKG, sortedSG]
      exact ⟨x, rfl, z.1.1, rfl, rfl, y rfl⟩
    · exact ⟨rfl, rfl⟩
    · rw [mk_rows, List.nil_append]
      simp only [startD, List.map_cons, List.map_nil, List.length_cons, List.length_nil, Nat.reduceAdd, Nat.reduceSub, List.replicate, List.cons_append, List.nil_append, dSet, dIfS, dT, dOp, dCB, dCons, dNil, dV, dM, dC, dp, dNext, dRet, dRetN, dLst, dTup, dDrop, dNot, dAnd, dOr, dAndV, dOrV, dNotV, intG, intG0, lenG, lenD, ixG, itemD, intCG, intOf, maxG, List.getElem?_cons_zero, List.getElem?_cons_succ, List.set_cons_zero, List.set_cons_succ, Option.some.injEq, B.isU, B.d, B.rd, exists_eq_left', exists_eq_left, exists_and_left, true_and, and_true, B.p.injEq, DD.D.bl.injEq, DD.D.int.injEq, List.cons.injEq, DD.PC, decide_eq_true_eq, and_assoc, Option.map_some, dLc, iAny, walked, wipeE, gN, dCall, dCallP, dCallF, eqG, neG, Bool.not_true, Bool.not_false, if_true, if_false, Bool.false_eq_true, reduceIte, List.append_nil, dCBK, addG, dM1, gT, gsCons, gsNil, iEnumD, dAsP, iR1, dPart, dNo, dSl, freB, lstD, List.all_cons, List.all_nil, litD, Bool.and_self, dReprPair, dDctN, itemD2, ixG2, keyD, lookD, strG2, dPar, bCons, bNil, dFor, List.zip_cons_cons, List.zip_nil_right, List.foldl_cons, List.foldl_nil, dApp, B.o.injEq, DD.D.lst.injEq, DD.D.tup.injEq, exists_eq', dDct0, B.u.injEq, sizeLine_eq, Nat.reduceLeDiff, Nat.reduceLT, Nat.zero_le, true_implies, slG, List.length_map, tupleG, seqD, listG, iR2, List.length_take, List.length_drop, List.length_append, DD.D.str.injEq, mulG, dAsg, dFld, lookF, dSetF, setF, dProp, dMeth, dMake, dMakeK, cxOf_K, dChain, notNG, isNG, isNon_non, isNon_bl, isNon_int, isNon_str, isNon_lst, isNon_tup, isNon_dct, isNon_ins, isNon_exc, dXv, reprG, DD.D.ins.injEq, DD.D.exc.injEq, cmpIG, neIG, clsD, Option.bind_some, B.s.injEq, if_true, if_false, dNeg, dLenSet, dIndex, dClrE, dAppE, dCallK, eqKG, sortedSG]
      refine ⟨_, rfl, _, rfl, ?_⟩
      refine ⟨_, sd, f, _, ss, _, rfl, rfl, rfl, h1, h2, h3, by simpa using h0, by rw [List.length_map]; exact hl, rows_of h4, .inl rfl, h6, h7, h8, rfl, 0, q⟩

/-- a side's part of what the law is due -/
structure SideT where
  f : Str
  rs : List RowT
  ss : List Str
def SideT.d (x : SideT) : D := .tup [.str x.f, .lst (x.rs.map RowT.d), .lst (x.ss.map D.str)]
def SideT.r (aRo aR : Addr) (sd : Str) (x : SideT) : D := roleD aRo sd x.f (x.rs.map (RowT.r aR)) x.ss
structure SideT.Ok (sd : Str) (x : SideT) : Prop where
  h1 : sd ∈ sides
  h2 : isNm (.str x.f) = true
  h3 : Dat (.str x.f)
  h0 : x.rs ≠ []
  hl : x.rs.length ≤ 1000
  h4 : x.rs.all (·.ok sd) = true
  h6 : x.ss.length ≤ 1
  h7 : ∀ s ∈ x.ss, isNm (.str s) = true ∧ Dat (.str s)
  h8 : x.f ∉ x.ss
def dueD (c h : SideT) (he : Str) : D := .tup [c.d, h.d, .str he]
def desT (aDe aRo aR : Addr) (c h : SideT) (he : Str) : D := desD aDe aRo c.f (c.rs.map (RowT.r aR)) c.ss h.f (h.rs.map (RowT.r aR)) h.ss he

abbrev s__law_made : Stmt := topS 41
theorem sc__law_made : FnScope ["_law_design"] ["_law_design"] (defScope s__law_made) := ⟨rfl, rfl, rfl, by decide +kernel, rfl, by decide +kernel, by decide +kernel⟩
def spd__law_made (aDe aRo aR : Addr) : Spd := fun bs R _ => ∃ (c h : SideT) (he : Str), bs = [.p (dueD c h he)] ∧ c.Ok "caller" ∧ h.Ok "host" ∧ isNm (.str he) = true ∧ Dat (.str he) ∧ R (.o (desT aDe aRo aR c h he)) 0
theorem cal__law_made (Da : DefAt K mg "_law_made" s__law_made) {a_Rule a_Role a_Design aId : Addr} (c__law_role : Cal P w K mg base "_law_role" 8 ["_law_side", "_law_role_here"] (spd__law_role a_Role a_Rule)) (mk_Design_3 : MakC P w K mg base "Design" a_Design 4 ["self", "caller", "host", "hello"] [] (spi_Design a_Design a_Role aId)) : Cal P w K mg base "_law_made" 9 ["_law_design"] (spd__law_made a_Design a_Role a_Rule) := by
  refine cal_mk none Da sc__law_made (fun _ _ _ _ _ _ us hl => match us, hl with | [_], _ => rfl) (fun bs R E h => ?_) (fun bs R E h => ?_) fun f cdv A outer s H E W bs R ED gu hr te h fh => ?_
  · obtain ⟨c, h, he, rfl, hc, hh, n1, n2, q⟩ := h
    rfl
  · obtain ⟨c, h, he, rfl, hc, hh, n1, n2, q⟩ := h
    exact pur_none (by simp [B.own])
  · obtain ⟨c, h, he, rfl, hc, hh, n1, n2, q⟩ := h
    have nd := sc__law_made.nd
    have hu := hr.units
    refine ⟨_, (dss_one (ds_ret (de_make mk_Design_3 gu hr (da_cons (de_c c__law_role gu hr (da_cons de_str (da_cons (de_ix2 hu (de_v 0) de_int fun _ _ => rfl) da_nil))) (da_cons (de_c c__law_role gu hr (da_cons de_str (da_cons (de_ix2 hu (de_v 0) de_int fun _ _ => rfl) da_nil))) (da_cons (de_ix2 hu (de_v 0) de_int fun _ _ => rfl) da_nil)))))), ?_⟩
    simp only [startD, List.map_cons, List.map_nil, List.length_cons, List.length_nil, Nat.reduceAdd, Nat.reduceSub, List.replicate, List.cons_append, List.nil_append, dSet, dIfS, dT, dOp, dCB, dCons, dNil, dV, dM, dC, dp, dNext, dRet, dRetN, dLst, dTup, dDrop, dNot, dAnd, dOr, dAndV, dOrV, dNotV, intG, intG0, lenG, lenD, ixG, itemD, intCG, intOf, maxG, List.getElem?_cons_zero, List.getElem?_cons_succ, List.set_cons_zero, List.set_cons_succ, Option.some.injEq, B.isU, B.d, B.rd, exists_eq_left', exists_eq_left, exists_and_left, true_and, and_true, B.p.injEq, DD.D.bl.injEq, DD.D.int.injEq, List.cons.injEq, DD.PC, decide_eq_true_eq, and_assoc, Option.map_some, dLc, iAny, walked, wipeE, gN, dCall, dCallP, dCallF, eqG, neG, Bool.not_true, Bool.not_false, if_true, if_false, Bool.false_eq_true, reduceIte, List.append_nil, dCBK, addG, dM1, gT, gsCons, gsNil, iEnumD, dAsP, iR1, dPart, dNo, dSl, freB, lstD, List.all_cons, List.all_nil, litD, Bool.and_self, dReprPair, dDctN, itemD2, ixG2, keyD, lookD, strG2, dPar, bCons, bNil, dFor, List.zip_cons_cons, List.zip_nil_right, List.foldl_cons, List.foldl_nil, dApp, B.o.injEq, DD.D.lst.injEq, DD.D.tup.injEq, exists_eq', dDct0, B.u.injEq, sizeLine_eq, Nat.reduceLeDiff, Nat.reduceLT, Nat.zero_le, true_implies, slG, List.length_map, tupleG, seqD, listG, iR2, List.length_take, List.length_drop, List.length_append, DD.D.str.injEq, mulG, dAsg, dFld, lookF, dSetF, setF, dProp, dMeth, dMake, dMakeK, cxOf_K, dChain, notNG, isNG, isNon_non, isNon_bl, isNon_int, isNon_str, isNon_lst, isNon_tup, isNon_dct, isNon_ins, isNon_exc, dXv, reprG, DD.D.ins.injEq, DD.D.exc.injEq, cmpIG, neIG, clsD, Option.bind_some, B.s.injEq, if_true, if_false, dNeg, dLenSet, dIndex, dClrE, dAppE, dCallK, eqKG, sortedSG, dueD]
    refine ⟨c.d, rfl, "caller", c.f, c.rs, c.ss, rfl, hc.h1, hc.h2, hc.h3, hc.h0, hc.hl, hc.h4, hc.h6, hc.h7, hc.h8, ?_⟩
    simp only [startD, List.map_cons, List.map_nil, List.length_cons, List.length_nil, Nat.reduceAdd, Nat.reduceSub, List.replicate, List.cons_append, List.nil_append, dSet, dIfS, dT, dOp, dCB, dCons, dNil, dV, dM, dC, dp, dNext, dRet, dRetN, dLst, dTup, dDrop, dNot, dAnd, dOr, dAndV, dOrV, dNotV, intG, intG0, lenG, lenD, ixG, itemD, intCG, intOf, maxG, List.getElem?_cons_zero, List.getElem?_cons_succ, List.set_cons_zero, List.set_cons_succ, Option.some.injEq, B.isU, B.d, B.rd, exists_eq_left', exists_eq_left, exists_and_left, true_and, and_true, B.p.injEq, DD.D.bl.injEq, DD.D.int.injEq, List.cons.injEq, DD.PC, decide_eq_true_eq, and_assoc, Option.map_some, dLc, iAny, walked, wipeE, gN, dCall, dCallP, dCallF, eqG, neG, Bool.not_true, Bool.not_false, if_true, if_false, Bool.false_eq_true, reduceIte, List.append_nil, dCBK, addG, dM1, gT, gsCons, gsNil, iEnumD, dAsP, iR1, dPart, dNo, dSl, freB, lstD, List.all_cons, List.all_nil, litD, Bool.and_self, dReprPair, dDctN, itemD2, ixG2, keyD, lookD, strG2, dPar, bCons, bNil, dFor, List.zip_cons_cons, List.zip_nil_right, List.foldl_cons, List.foldl_nil, dApp, B.o.injEq, DD.D.lst.injEq, DD.D.tup.injEq, exists_eq', dDct0, B.u.injEq, sizeLine_eq, Nat.reduceLeDiff, Nat.reduceLT, Nat.zero_le, true_implies, slG, List.length_map, tupleG, seqD, listG, iR2, List.length_take, List.length_drop, List.length_append, DD.D.str.injEq, mulG, dAsg, dFld, lookF, dSetF, setF, dProp, dMeth, dMake, dMakeK, cxOf_K, dChain, notNG, isNG, isNon_non, isNon_bl, isNon_int, isNon_str, isNon_lst, isNon_tup, isNon_dct, isNon_ins, isNon_exc, dXv, reprG, DD.D.ins.injEq, DD.D.exc.injEq, cmpIG, neIG, clsD, Option.bind_some, B.s.injEq, if_true, if_false, dNeg, dLenSet, dIndex, dClrE, dAppE, dCallK, eqKG, sortedSG]
    refine ⟨h.d, rfl, "host", h.f, h.rs, h.ss, rfl, hh.h1, hh.h2, hh.h3, hh.h0, hh.hl, hh.h4, hh.h6, hh.h7, hh.h8, ?_⟩
    simp only [startD, List.map_cons, List.map_nil, List.length_cons, List.length_nil, Nat.reduceAdd, Nat.reduceSub, List.replicate, List.cons_append, List.nil_append, dSet, dIfS, dT, dOp, dCB, dCons, dNil, dV, dM, dC, dp, dNext, dRet, dRetN, dLst, dTup, dDrop, dNot, dAnd, dOr, dAndV, dOrV, dNotV, intG, intG0, lenG, lenD, ixG, itemD, intCG, intOf, maxG, List.getElem?_cons_zero, List.getElem?_cons_succ, List.set_cons_zero, List.set_cons_succ, Option.some.injEq, B.isU, B.d, B.rd, exists_eq_left', exists_eq_left, exists_and_left, true_and, and_true, B.p.injEq, DD.D.bl.injEq, DD.D.int.injEq, List.cons.injEq, DD.PC, decide_eq_true_eq, and_assoc, Option.map_some, dLc, iAny, walked, wipeE, gN, dCall, dCallP, dCallF, eqG, neG, Bool.not_true, Bool.not_false, if_true, if_false, Bool.false_eq_true, reduceIte, List.append_nil, dCBK, addG, dM1, gT, gsCons, gsNil, iEnumD, dAsP, iR1, dPart, dNo, dSl, freB, lstD, List.all_cons, List.all_nil, litD, Bool.and_self, dReprPair, dDctN, itemD2, ixG2, keyD, lookD, strG2, dPar, bCons, bNil, dFor, List.zip_cons_cons, List.zip_nil_right, List.foldl_cons, List.foldl_nil, dApp, B.o.injEq, DD.D.lst.injEq, DD.D.tup.injEq, exists_eq', dDct0, B.u.injEq, sizeLine_eq, Nat.reduceLeDiff, Nat.reduceLT, Nat.zero_le, true_implies, slG, List.length_map, tupleG, seqD, listG, iR2, List.length_take, List.length_drop, List.length_append, DD.D.str.injEq, mulG, dAsg, dFld, lookF, dSetF, setF, dProp, dMeth, dMake, dMakeK, cxOf_K, dChain, notNG, isNG, isNon_non, isNon_bl, isNon_int, isNon_str, isNon_lst, isNon_tup, isNon_dct, isNon_ins, isNon_exc, dXv, reprG, DD.D.ins.injEq, DD.D.exc.injEq, cmpIG, neIG, clsD, Option.bind_some, B.s.injEq, if_true, if_false, dNeg, dLenSet, dIndex, dClrE, dAppE, dCallK, eqKG, sortedSG]
    exact ⟨_, rfl, _, c.f, h.f, he, _, _, c.ss, h.ss, rfl, rfl, rfl, by rw [List.length_map]; exact hc.hl, by rw [List.length_map]; exact hh.hl, hc.h6, hh.h6, n1, n2, rfl, 0, q⟩
abbrev s__law_parts : Stmt := topS 43
theorem sc__law_parts : FnScope ["_law_role_here", "_law_rows", "_law_rule_here"] ["_law_role_here"] (defScope s__law_parts) := ⟨rfl, rfl, rfl, by decide +kernel, rfl, by decide +kernel, by decide +kernel⟩
def spd__law_parts (aRo aR : Addr) : Spd := fun bs R _ => ∃ (sd : Str) (x : SideT), bs = [.p (x.r aRo aR sd)] ∧ x.rs.length ≤ 1000 ∧ x.ss.length ≤ 1 ∧ R (.p x.d) 0
theorem cal__law_parts (Da : DefAt K mg "_law_parts" s__law_parts) {a_Rule a_Role : Addr} (pr_Rule_mode : PropC P w K mg base a_Rule "mode" 1 (spd_Rule_mode a_Rule)) (pr_Rule_heard : PropC P w K mg base a_Rule "heard" 1 (spd_Rule_heard a_Rule)) (pr_Rule_which : PropC P w K mg base a_Rule "which" 1 (spd_Rule_which a_Rule)) (pr_Rule_then : PropC P w K mg base a_Rule "then" 1 (spd_Rule_then a_Rule)) (pr_Rule_move : PropC P w K mg base a_Rule "move" 1 (spd_Rule_move a_Rule)) (pr_Rule_send : PropC P w K mg base a_Rule "send" 1 (spd_Rule_send a_Rule)) (pr_Role_rules : PropC P w K mg base a_Role "rules" 1 (spd_Role_rules a_Role)) (pr_Role_first : PropC P w K mg base a_Role "first" 1 (spd_Role_first a_Role)) (pr_Role_settled : PropC P w K mg base a_Role "settled" 1 (spd_Role_settled a_Role)) : Cal P w K mg base "_law_parts" 3 ["_law_role_here"] (spd__law_parts a_Role a_Rule) := by
  refine cal_mk none Da sc__law_parts (fun _ _ _ _ _ _ us hl => match us, hl with | [_], _ => rfl) (fun bs R E h => ?_) (fun bs R E h => ?_) fun f cdv A outer s H E W bs R ED gu hr te h fh => ?_
  · obtain ⟨sd, x, rfl, l1, l2, q⟩ := h
    rfl
  · obtain ⟨sd, x, rfl, l1, l2, q⟩ := h
    exact pur_none (by simp [B.own])
  · obtain ⟨sd, x, rfl, l1, l2, q⟩ := h
    have nd := sc__law_parts.nd
    have hu := hr.units
    refine ⟨_, (dss_cons (ds_setLc (i := 1) rfl nd rfl rfl rfl (di_any (de_prop pr_Role_rules gu hr (de_v 0))) (own := [("_law_rule_here", 2)]) (blkOk_by (by kernel_rfl)) (fun _ _ _ _ _ _ => (dgc_name (i := 2) (by decide) nd rfl (by first | exact Or.inl rfl | exact Or.inr rfl))) (fun _ _ _ _ _ _ => dts_nil) (fun _ _ _ _ _ _ => (de_tup (da_cons (de_prop pr_Rule_mode gu hr (de_v 2)) (da_cons (de_prop pr_Rule_heard gu hr (de_v 2)) (da_cons (de_prop pr_Rule_which gu hr (de_v 2)) (da_cons (de_prop pr_Rule_then gu hr (de_v 2)) (da_cons (de_prop pr_Rule_move gu hr (de_v 2)) (da_cons (de_prop pr_Rule_send gu hr (de_v 2)) da_nil))))))))) (dss_one (ds_ret (de_tup (da_cons (de_prop pr_Role_first gu hr (de_v 0)) (da_cons (de_v 1) (da_cons (de_prop pr_Role_settled gu hr (de_v 0)) da_nil))))))), ?_⟩
    have l1' : (x.rs.map (RowT.r a_Rule)).length ≤ 1000 := by rw [List.length_map]; exact l1
    refine dseq ?_
    simp only [startD, List.map_cons, List.map_nil, List.length_cons, List.length_nil, Nat.reduceAdd, Nat.reduceSub, List.replicate, List.cons_append, List.nil_append, dSet, dIfS, dT, dOp, dCB, dCons, dNil, dV, dM, dC, dp, dNext, dRet, dRetN, dLst, dTup, dDrop, dNot, dAnd, dOr, dAndV, dOrV, dNotV, intG, intG0, lenG, lenD, ixG, itemD, intCG, intOf, maxG, List.getElem?_cons_zero, List.getElem?_cons_succ, List.set_cons_zero, List.set_cons_succ, Option.some.injEq, B.isU, B.d, B.rd, exists_eq_left', exists_eq_left, exists_and_left, true_and, and_true, B.p.injEq, DD.D.bl.injEq, DD.D.int.injEq, List.cons.injEq, DD.PC, decide_eq_true_eq, and_assoc, Option.map_some, dLc, iAny, walked, wipeE, gN, dCall, dCallP, dCallF, eqG, neG, Bool.not_true, Bool.not_false, if_true, if_false, Bool.false_eq_true, reduceIte, List.append_nil, dCBK, addG, dM1, gT, gsCons, gsNil, iEnumD, dAsP, iR1, dPart, dNo, dSl, freB, lstD, List.all_cons, List.all_nil, litD, Bool.and_self, dReprPair, dDctN, itemD2, ixG2, keyD, lookD, strG2, dPar, bCons, bNil, dFor, List.zip_cons_cons, List.zip_nil_right, List.foldl_cons, List.foldl_nil, dApp, B.o.injEq, DD.D.lst.injEq, DD.D.tup.injEq, exists_eq', dDct0, B.u.injEq, sizeLine_eq, Nat.reduceLeDiff, Nat.reduceLT, Nat.zero_le, true_implies, slG, List.length_map, tupleG, seqD, listG, iR2, List.length_take, List.length_drop, List.length_append, DD.D.str.injEq, mulG, dAsg, dFld, lookF, dSetF, setF, dProp, dMeth, dMake, dMakeK, cxOf_K, dChain, notNG, isNG, isNon_non, isNon_bl, isNon_int, isNon_str, isNon_lst, isNon_tup, isNon_dct, isNon_ins, isNon_exc, dXv, reprG, DD.D.ins.injEq, DD.D.exc.injEq, cmpIG, neIG, clsD, Option.bind_some, B.s.injEq, if_true, if_false, dNeg, dLenSet, dIndex, dClrE, dAppE, dCallK, eqKG, sortedSG, SideT.r]
    refine ⟨⟨_, _, rfl⟩, sd, x.f, x.rs.map (RowT.r a_Rule), x.ss, rfl, l1', l2, rfl, rfl, _, rfl, ?_⟩
    refine lcL_map (fun _ => true) unD (fun d => [some (.p (roleD a_Role sd x.f (x.rs.map (RowT.r a_Rule)) x.ss)), none, some (.p d)]) (fun d => [some (.p (roleD a_Role sd x.f (x.rs.map (RowT.r a_Rule)) x.ss)), none, some (.p d)]) (fun r hr' Y N y n => ?_) (fun r hr' => ⟨rfl, rfl⟩) (by rw [sizeLine_eq, List.length_nil, List.length_map]; omega) ?_
    · obtain ⟨z, hz, rfl⟩ := List.mem_map.mp hr'
      simp only [dYes, startD, List.map_cons, List.map_nil, List.length_cons, List.length_nil, Nat.reduceAdd, Nat.reduceSub, List.replicate, List.cons_append, List.nil_append, dSet, dIfS, dT, dOp, dCB, dCons, dNil, dV, dM, dC, dp, dNext, dRet, dRetN, dLst, dTup, dDrop, dNot, dAnd, dOr, dAndV, dOrV, dNotV, intG, intG0, lenG, lenD, ixG, itemD, intCG, intOf, maxG, List.getElem?_cons_zero, List.getElem?_cons_succ, List.set_cons_zero, List.set_cons_succ, Option.some.injEq, B.isU, B.d, B.rd, exists_eq_left', exists_eq_left, exists_and_left, true_and, and_true, B.p.injEq, DD.D.bl.injEq, DD.D.int.injEq, List.cons.injEq, DD.PC, decide_eq_true_eq, and_assoc, Option.map_some, dLc, iAny, walked, wipeE, gN, dCall, dCallP, dCallF, eqG, neG, Bool.not_true, Bool.not_false, if_true, if_false, Bool.false_eq_true, reduceIte, List.append_nil, dCBK, addG, dM1, gT, gsCons, gsNil, iEnumD, dAsP, iR1, dPart, dNo, dSl, freB, lstD, List.all_cons, List.all_nil, litD, Bool.and_self, dReprPair, dDctN, itemD2, ixG2, keyD, lookD, strG2, dPar, bCons, bNil, dFor, List.zip_cons_cons, List.zip_nil_right, List.foldl_cons, List.foldl_nil, dApp, B.o.injEq, DD.D.lst.injEq, DD.D.tup.injEq, exists_eq', dDct0, B.u.injEq, sizeLine_eq, Nat.reduceLeDiff, Nat.reduceLT, Nat.zero_le, true_implies, slG, List.length_map, tupleG, seqD, listG, iR2, List.length_take, List.length_drop, List.length_append, DD.D.str.injEq, mulG, dAsg, dFld, lookF, dSetF, setF, dProp, dMeth, dMake, dMakeK, cxOf_K, dChain, notNG, isNG, isNon_non, isNon_bl, isNon_int, isNon_str, isNon_lst, isNon_tup, isNon_dct, isNon_ins, isNon_exc, dXv, reprG, DD.D.ins.injEq, DD.D.exc.injEq, cmpIG, neIG, clsD, Option.bind_some, B.s.injEq, if_true, if_false, dNeg, dLenSet, dIndex, dClrE, dAppE, dCallK, eqKG, sortedSG, RowT.r, rowD, pv_mode, pv_heard, pv_which, pv_then, pv_move, pv_send]
      exact y rfl
    · rw [un_rows, List.nil_append]
      simp only [startD, List.map_cons, List.map_nil, List.length_cons, List.length_nil, Nat.reduceAdd, Nat.reduceSub, List.replicate, List.cons_append, List.nil_append, dSet, dIfS, dT, dOp, dCB, dCons, dNil, dV, dM, dC, dp, dNext, dRet, dRetN, dLst, dTup, dDrop, dNot, dAnd, dOr, dAndV, dOrV, dNotV, intG, intG0, lenG, lenD, ixG, itemD, intCG, intOf, maxG, List.getElem?_cons_zero, List.getElem?_cons_succ, List.set_cons_zero, List.set_cons_succ, Option.some.injEq, B.isU, B.d, B.rd, exists_eq_left', exists_eq_left, exists_and_left, true_and, and_true, B.p.injEq, DD.D.bl.injEq, DD.D.int.injEq, List.cons.injEq, DD.PC, decide_eq_true_eq, and_assoc, Option.map_some, dLc, iAny, walked, wipeE, gN, dCall, dCallP, dCallF, eqG, neG, Bool.not_true, Bool.not_false, if_true, if_false, Bool.false_eq_true, reduceIte, List.append_nil, dCBK, addG, dM1, gT, gsCons, gsNil, iEnumD, dAsP, iR1, dPart, dNo, dSl, freB, lstD, List.all_cons, List.all_nil, litD, Bool.and_self, dReprPair, dDctN, itemD2, ixG2, keyD, lookD, strG2, dPar, bCons, bNil, dFor, List.zip_cons_cons, List.zip_nil_right, List.foldl_cons, List.foldl_nil, dApp, B.o.injEq, DD.D.lst.injEq, DD.D.tup.injEq, exists_eq', dDct0, B.u.injEq, sizeLine_eq, Nat.reduceLeDiff, Nat.reduceLT, Nat.zero_le, true_implies, slG, List.length_map, tupleG, seqD, listG, iR2, List.length_take, List.length_drop, List.length_append, DD.D.str.injEq, mulG, dAsg, dFld, lookF, dSetF, setF, dProp, dMeth, dMake, dMakeK, cxOf_K, dChain, notNG, isNG, isNon_non, isNon_bl, isNon_int, isNon_str, isNon_lst, isNon_tup, isNon_dct, isNon_ins, isNon_exc, dXv, reprG, DD.D.ins.injEq, DD.D.exc.injEq, cmpIG, neIG, clsD, Option.bind_some, B.s.injEq, if_true, if_false, dNeg, dLenSet, dIndex, dClrE, dAppE, dCallK, eqKG, sortedSG]
      refine ⟨⟨_, _, rfl⟩, sd, x.f, x.rs.map (RowT.r a_Rule), x.ss, rfl, l1', l2, rfl, rfl, ?_⟩
      refine ⟨⟨_, _, rfl⟩, sd, x.f, x.rs.map (RowT.r a_Rule), x.ss, rfl, l1', l2, rfl, rfl, 0, q⟩
end
end K

set_option Elab.async false
set_option linter.all false
set_option maxRecDepth 100000
set_option maxHeartbeats 8000000
namespace K
open PySem PySem.Spec PyProof.Rows L2 DD
section
variable {P : Program} {w : World} {K : PySem.W.Frag} {mg : Str → Option Value} {base : Heap}

def rowsAt (n : Nat) (rf : Bool) (j : Nat) : List RowT :=
  [⟨.str (mode j), .str "yes", "same", .str "sure", "stay", .non⟩] ++ (if rf = true then [⟨.str (mode j), .str "no", "same", .str "a", "down", .str "offer"⟩, ⟨.str (mode j), .str "no", "same", .str "gone", "stay", .non⟩] else []) ++
  (if j + 1 < n then [⟨.str (mode j), .str "timeout", "any", .str (mode (j + 1)), "stay", .str "offer"⟩] else [⟨.str (mode j), .str "timeout", "any", .str "a", "down", .str "offer"⟩, ⟨.str (mode j), .str "timeout", "any", .str "gone", "stay", .non⟩])
def rowsTo (n : Nat) (rf : Bool) : Nat → List RowT
  | 0 => []
  | j + 1 => rowsTo n rf j ++ rowsAt n rf j
def restT : RowT := ⟨.non, .non, "any", .non, "stay", .non⟩
def rowsT (n : Nat) (rf : Bool) : List RowT := rowsTo n rf n ++ [restT]
def ansT (rf : Bool) : List RowT := [⟨.non, .str "offer", "have", .str "sure", "take", .str "yes"⟩] ++ (if rf = true then [⟨.non, .str "offer", "lack", .non, "stay", .str "no"⟩] else []) ++ [restT]
theorem rowsAt_r {aR : Addr} {n : Nat} {rf : Bool} {j : Nat} : (rowsAt n rf j).map (RowT.r aR) = stepAt aR n rf j := by
  unfold rowsAt stepAt
  cases rf <;> by_cases h : j + 1 < n <;> simp [h, RowT.r]
theorem rowsTo_r {aR : Addr} {n : Nat} {rf : Bool} : ∀ j, (rowsTo n rf j).map (RowT.r aR) = stepTo aR n rf j
  | 0 => rfl
  | j + 1 => by
    show (rowsTo n rf j ++ rowsAt n rf j).map (RowT.r aR) = stepTo aR n rf j ++ stepAt aR n rf j
    rw [List.map_append, rowsTo_r j, rowsAt_r]
theorem rowsT_r {aR : Addr} {n : Nat} {rf : Bool} : (rowsT n rf).map (RowT.r aR) = stepRows aR n rf := by
  unfold rowsT stepRows
  rw [List.map_append, rowsTo_r]
  rfl
theorem ansT_r {aR : Addr} {rf : Bool} : (ansT rf).map (RowT.r aR) = ansRows aR rf := by
  cases rf <;> rfl
theorem rowsTo_len {n : Nat} {rf : Bool} (j : Nat) : (rowsTo n rf j).length ≤ 5 * j := by
  have h := step_len (aR := 0) (n := n) (rf := rf) j
  rw [← rowsTo_r, List.length_map] at h
  exact h
def callT (n : Nat) (rf : Bool) : SideT := ⟨"a", rowsT n rf, ["sure"]⟩
def hostT (rf : Bool) : SideT := ⟨"idle", ansT rf, ["sure"]⟩
theorem mode_ne : ∀ j k : Fin 4, (mode j = mode k) ↔ j = k := by decide
theorem m_len {n : Nat} (h4 : n ≤ 4) : (modes.take n).length = n := by
  rw [List.length_take]
  exact Nat.min_eq_left h4
theorem m_get {n j : Nat} (h4 : n ≤ 4) (hj : j < n) : (modes.take n)[j]? = some (mode j) := by
  rw [List.getElem?_take, if_pos hj]
  match j, (show j < 4 by omega) with
  | 0, _ => rfl
  | 1, _ => rfl
  | 2, _ => rfl
  | 3, _ => rfl
theorem m_at {n j : Nat} (h4 : n ≤ 4) (hj : j < n) : atI ((modes.take n).map D.str) (j : Int) = some (.str (mode j)) := atI_nat (by rw [List.getElem?_map, m_get h4 hj]; rfl)
theorem m_last {n : Nat} (h1 : 1 ≤ n) (h4 : n ≤ 4) : atI ((modes.take n).map D.str) (-1) = some (.str (mode (n - 1))) := by
  match n, h1, h4 with
  | 1, _, _ => rfl
  | 2, _, _ => rfl
  | 3, _, _ => rfl
  | 4, _, _ => rfl
theorem m_no {n j m : Nat} {z : D} (h4 : n ≤ 4) (hj : j < n) (hm : m < j) (hz : ((modes.take n).map D.str)[m]? = some z) : eqV (flatV' z) (flatV' (.str (mode j))) = false := by
  rw [List.getElem?_map, m_get h4 (Nat.lt_trans hm hj)] at hz
  cases hz
  show (mode m == mode j) = false
  refine beq_eq_false_iff_ne.mpr fun e => ?_
  have := (mode_ne ⟨m, by omega⟩ ⟨j, by omega⟩).mp e
  have := congrArg Fin.val this
  simp at this
  omega

abbrev s__law_due : Stmt := topS 42
theorem sc__law_due : FnScope ["_law_tries", "_law_refusing", "_law_modes", "_law_rows", "_law_mode", "_law_answers"] ["_law_tries", "_law_refusing"] (defScope s__law_due) := ⟨rfl, rfl, rfl, by decide +kernel, rfl, by decide +kernel, by decide +kernel⟩
def spd__law_due  : Spd := fun bs R _ => ∃ (n : Nat) (rf : Bool), bs = [.p (.int n), .p (.bl rf)] ∧ 1 ≤ n ∧ n ≤ 4 ∧ R (.p (dueD (callT n rf) (hostT rf) "offer")) 0
theorem cal__law_due (Da : DefAt K mg "_law_due" s__law_due) (m_int : mg "int" = none) : Cal P w K mg base "_law_due" 1 ["_law_tries", "_law_refusing"] spd__law_due := by
  refine cal_mk none Da sc__law_due (fun _ _ _ _ _ _ us hl => match us, hl with | [_, _], _ => rfl) (fun bs R E h => ?_) (fun bs R E h => ?_) fun f cdv A outer s H E W bs R ED gu hr te h fh => ?_
  · obtain ⟨n, rf, rfl, h1, h4, q⟩ := h
    rfl
  · obtain ⟨n, rf, rfl, h1, h4, q⟩ := h
    exact pur_none (by simp [B.own])
  · obtain ⟨n, rf, rfl, h1, h4, q⟩ := h
    have nd := sc__law_due.nd
    have hu := hr.units
    have ps := passes_of (X := cxOf (L2.CX P w) P w K mg base ["_law_tries", "_law_refusing", "_law_modes", "_law_rows", "_law_mode", "_law_answers"] "_law_due" (defScope s__law_due) f cdv A outer s H E) rfl
    refine ⟨_, (dss_cons (ds_set (i := 2) nd rfl (by first | exact Or.inl rfl | exact Or.inr rfl) (de_slice (de_lst (da_cons de_str (da_cons de_str (da_cons de_str (da_cons de_str da_nil))))) do_none (do_some (de_v 0)))) (dss_cons (ds_set (i := 3) nd rfl (by first | exact Or.inl rfl | exact Or.inr rfl) (de_lst da_nil)) (dss_cons (ds_for te ps rfl (di_any (de_v 2)) (fun _ => (dg_name (i := 4) nd rfl (by first | exact Or.inl rfl | exact Or.inr rfl))) (fun _ te => (dss_cons (ds_append (i := 3) rfl (by first | exact Or.inl rfl | exact Or.inr (Or.inl rfl)) (de_tup (da_cons (de_v 4) (da_cons de_str (da_cons de_str (da_cons de_str (da_cons de_str (da_cons de_non da_nil))))))) (hpe := fun ta h => pe_bm PySem.F.plainAttrs_list PySem.F.slot_list_append PySem.F.type_list_append mt_append (pv 3) (pa_cons h pa_nil))) (dss_cons (ds_if (dt_val (he := fun _ => rfl) (de_v 1)) (dss_cons (ds_append (i := 3) rfl (by first | exact Or.inl rfl | exact Or.inr (Or.inl rfl)) (de_tup (da_cons (de_v 4) (da_cons de_str (da_cons de_str (da_cons de_str (da_cons de_str (da_cons de_str da_nil))))))) (hpe := fun ta h => pe_bm PySem.F.plainAttrs_list PySem.F.slot_list_append PySem.F.type_list_append mt_append (pv 3) (pa_cons h pa_nil))) (dss_one (ds_append (i := 3) rfl (by first | exact Or.inl rfl | exact Or.inr (Or.inl rfl)) (de_tup (da_cons (de_v 4) (da_cons de_str (da_cons de_str (da_cons de_str (da_cons de_str (da_cons de_non da_nil))))))) (hpe := fun ta h => pe_bm PySem.F.plainAttrs_list PySem.F.slot_list_append PySem.F.type_list_append mt_append (pv 3) (pa_cons h pa_nil))))) dss_nil) (dss_one (ds_if (dt_cmp (op_neAll hu) rd_ne (de_v 4) (de_ix2 hu (de_v 2) (de_neg de_int) fun _ _ => rfl) rfl) (dss_one (ds_append (i := 3) rfl (by first | exact Or.inl rfl | exact Or.inr (Or.inl rfl)) (de_tup (da_cons (de_v 4) (da_cons de_str (da_cons de_str (da_cons (de_ix2 hu (de_v 2) (de_op op_addAll rd_add (de_index (de_v 2) (de_v 4) (hpe := fun o t ho ht => pe_bm PySem.F.plainAttrs_list PySem.F.slot_list_index PySem.F.type_list_index mt_index ho (pa_cons ht pa_nil))) de_int) fun _ _ => rfl) (da_cons de_str (da_cons de_str da_nil))))))) (hpe := fun ta h => pe_bm PySem.F.plainAttrs_list PySem.F.slot_list_append PySem.F.type_list_append mt_append (pv 3) (pa_cons h pa_nil)))) (dss_cons (ds_append (i := 3) rfl (by first | exact Or.inl rfl | exact Or.inr (Or.inl rfl)) (de_tup (da_cons (de_v 4) (da_cons de_str (da_cons de_str (da_cons de_str (da_cons de_str (da_cons de_str da_nil))))))) (hpe := fun ta h => pe_bm PySem.F.plainAttrs_list PySem.F.slot_list_append PySem.F.type_list_append mt_append (pv 3) (pa_cons h pa_nil))) (dss_one (ds_append (i := 3) rfl (by first | exact Or.inl rfl | exact Or.inr (Or.inl rfl)) (de_tup (da_cons (de_v 4) (da_cons de_str (da_cons de_str (da_cons de_str (da_cons de_str (da_cons de_non da_nil))))))) (hpe := fun ta h => pe_bm PySem.F.plainAttrs_list PySem.F.slot_list_append PySem.F.type_list_append mt_append (pv 3) (pa_cons h pa_nil))))))))))) (dss_cons (ds_append (i := 3) rfl (by first | exact Or.inl rfl | exact Or.inr (Or.inl rfl)) (de_tup (da_cons de_non (da_cons de_non (da_cons de_str (da_cons de_non (da_cons de_str (da_cons de_non da_nil))))))) (hpe := fun ta h => pe_bm PySem.F.plainAttrs_list PySem.F.slot_list_append PySem.F.type_list_append mt_append (pv 3) (pa_cons h pa_nil))) (dss_cons (ds_set (i := 5) nd rfl (by first | exact Or.inl rfl | exact Or.inr rfl) (de_lst (da_cons (de_tup (da_cons de_non (da_cons de_str (da_cons de_str (da_cons de_str (da_cons de_str (da_cons de_str da_nil))))))) (da_cons (de_tup (da_cons de_non (da_cons de_str (da_cons de_str (da_cons de_non (da_cons de_str (da_cons de_str da_nil))))))) da_nil)))) (dss_cons (ds_set (i := 5) nd rfl (by first | exact Or.inl rfl | exact Or.inr rfl) (de_op op_addAll rd_add (de_slice (de_v 5) do_none (do_some (de_op op_addAll rd_add de_int (de_callTy call_int1 rc_int rfl m_int bt_int (da_cons (de_v 1) da_nil))))) (de_lst (da_cons (de_tup (da_cons de_non (da_cons de_non (da_cons de_str (da_cons de_non (da_cons de_str (da_cons de_non da_nil))))))) da_nil)))) (dss_one (ds_ret (de_tup (da_cons (de_tup (da_cons de_str (da_cons (de_v 3) (da_cons (de_lst (da_cons de_str da_nil)) da_nil)))) (da_cons (de_tup (da_cons de_str (da_cons (de_v 5) (da_cons (de_lst (da_cons de_str da_nil)) da_nil)))) (da_cons de_str da_nil)))))))))))), ?_⟩
    have cut : DD.cutD [.str "a", .str "b", .str "c", .str "d"] none (some (n : Int)) = (modes.take n).map D.str := by
      rw [cutD_take (show n ≤ [D.str "a", D.str "b", D.str "c", D.str "d"].length from h4), List.map_take]
      rfl
    refine dseq ?_
    simp only [startD, List.map_cons, List.map_nil, List.length_cons, List.length_nil, Nat.reduceAdd, Nat.reduceSub, List.replicate, List.cons_append, List.nil_append, dSet, dIfS, dT, dOp, dCB, dCons, dNil, dV, dM, dC, dp, dNext, dRet, dRetN, dLst, dTup, dDrop, dNot, dAnd, dOr, dAndV, dOrV, dNotV, intG, intG0, lenG, lenD, ixG, itemD, intCG, intOf, maxG, List.getElem?_cons_zero, List.getElem?_cons_succ, List.set_cons_zero, List.set_cons_succ, Option.some.injEq, B.isU, B.d, B.rd, exists_eq_left', exists_eq_left, exists_and_left, true_and, and_true, B.p.injEq, DD.D.bl.injEq, DD.D.int.injEq, List.cons.injEq, DD.PC, decide_eq_true_eq, and_assoc, Option.map_some, dLc, iAny, walked, wipeE, gN, dCall, dCallP, dCallF, eqG, neG, Bool.not_true, Bool.not_false, if_true, if_false, Bool.false_eq_true, reduceIte, List.append_nil, dCBK, addG, dM1, gT, gsCons, gsNil, iEnumD, dAsP, iR1, dPart, dNo, dSl, freB, lstD, List.all_cons, List.all_nil, litD, Bool.and_self, dReprPair, dDctN, itemD2, ixG2, keyD, lookD, strG2, dPar, bCons, bNil, dFor, List.zip_cons_cons, List.zip_nil_right, List.foldl_cons, List.foldl_nil, dApp, B.o.injEq, DD.D.lst.injEq, DD.D.tup.injEq, exists_eq', dDct0, B.u.injEq, sizeLine_eq, Nat.reduceLeDiff, Nat.reduceLT, Nat.zero_le, true_implies, slG, List.length_map, tupleG, seqD, listG, iR2, List.length_take, List.length_drop, List.length_append, DD.D.str.injEq, mulG, dAsg, dFld, lookF, dSetF, setF, dProp, dMeth, dMake, dMakeK, cxOf_K, dChain, notNG, isNG, isNon_non, isNon_bl, isNon_int, isNon_str, isNon_lst, isNon_tup, isNon_dct, isNon_ins, isNon_exc, dXv, reprG, DD.D.ins.injEq, DD.D.exc.injEq, cmpIG, neIG, clsD, Option.bind_some, B.s.injEq, if_true, if_false, dNeg, dLenSet, dIndex, dClrE, dAppE, dCallK, eqKG, sortedSG, cut]
    refine dseq ?_
    simp only [startD, List.map_cons, List.map_nil, List.length_cons, List.length_nil, Nat.reduceAdd, Nat.reduceSub, List.replicate, List.cons_append, List.nil_append, dSet, dIfS, dT, dOp, dCB, dCons, dNil, dV, dM, dC, dp, dNext, dRet, dRetN, dLst, dTup, dDrop, dNot, dAnd, dOr, dAndV, dOrV, dNotV, intG, intG0, lenG, lenD, ixG, itemD, intCG, intOf, maxG, List.getElem?_cons_zero, List.getElem?_cons_succ, List.set_cons_zero, List.set_cons_succ, Option.some.injEq, B.isU, B.d, B.rd, exists_eq_left', exists_eq_left, exists_and_left, true_and, and_true, B.p.injEq, DD.D.bl.injEq, DD.D.int.injEq, List.cons.injEq, DD.PC, decide_eq_true_eq, and_assoc, Option.map_some, dLc, iAny, walked, wipeE, gN, dCall, dCallP, dCallF, eqG, neG, Bool.not_true, Bool.not_false, if_true, if_false, Bool.false_eq_true, reduceIte, List.append_nil, dCBK, addG, dM1, gT, gsCons, gsNil, iEnumD, dAsP, iR1, dPart, dNo, dSl, freB, lstD, List.all_cons, List.all_nil, litD, Bool.and_self, dReprPair, dDctN, itemD2, ixG2, keyD, lookD, strG2, dPar, bCons, bNil, dFor, List.zip_cons_cons, List.zip_nil_right, List.foldl_cons, List.foldl_nil, dApp, B.o.injEq, DD.D.lst.injEq, DD.D.tup.injEq, exists_eq', dDct0, B.u.injEq, sizeLine_eq, Nat.reduceLeDiff, Nat.reduceLT, Nat.zero_le, true_implies, slG, List.length_map, tupleG, seqD, listG, iR2, List.length_take, List.length_drop, List.length_append, DD.D.str.injEq, mulG, dAsg, dFld, lookF, dSetF, setF, dProp, dMeth, dMake, dMakeK, cxOf_K, dChain, notNG, isNG, isNon_non, isNon_bl, isNon_int, isNon_str, isNon_lst, isNon_tup, isNon_dct, isNon_ins, isNon_exc, dXv, reprG, DD.D.ins.injEq, DD.D.exc.injEq, cmpIG, neIG, clsD, Option.bind_some, B.s.injEq, if_true, if_false, dNeg, dLenSet, dIndex, dClrE, dAppE, dCallK, eqKG, sortedSG]
    refine dseq ?_
    simp only [startD, List.map_cons, List.map_nil, List.length_cons, List.length_nil, Nat.reduceAdd, Nat.reduceSub, List.replicate, List.cons_append, List.nil_append, dSet, dIfS, dT, dOp, dCB, dCons, dNil, dV, dM, dC, dp, dNext, dRet, dRetN, dLst, dTup, dDrop, dNot, dAnd, dOr, dAndV, dOrV, dNotV, intG, intG0, lenG, lenD, ixG, itemD, intCG, intOf, maxG, List.getElem?_cons_zero, List.getElem?_cons_succ, List.set_cons_zero, List.set_cons_succ, Option.some.injEq, B.isU, B.d, B.rd, exists_eq_left', exists_eq_left, exists_and_left, true_and, and_true, B.p.injEq, DD.D.bl.injEq, DD.D.int.injEq, List.cons.injEq, DD.PC, decide_eq_true_eq, and_assoc, Option.map_some, dLc, iAny, walked, wipeE, gN, dCall, dCallP, dCallF, eqG, neG, Bool.not_true, Bool.not_false, if_true, if_false, Bool.false_eq_true, reduceIte, List.append_nil, dCBK, addG, dM1, gT, gsCons, gsNil, iEnumD, dAsP, iR1, dPart, dNo, dSl, freB, lstD, List.all_cons, List.all_nil, litD, Bool.and_self, dReprPair, dDctN, itemD2, ixG2, keyD, lookD, strG2, dPar, bCons, bNil, dFor, List.zip_cons_cons, List.zip_nil_right, List.foldl_cons, List.foldl_nil, dApp, B.o.injEq, DD.D.lst.injEq, DD.D.tup.injEq, exists_eq', dDct0, B.u.injEq, sizeLine_eq, Nat.reduceLeDiff, Nat.reduceLT, Nat.zero_le, true_implies, slG, List.length_map, tupleG, seqD, listG, iR2, List.length_take, List.length_drop, List.length_append, DD.D.str.injEq, mulG, dAsg, dFld, lookF, dSetF, setF, dProp, dMeth, dMake, dMakeK, cxOf_K, dChain, notNG, isNG, isNon_non, isNon_bl, isNon_int, isNon_str, isNon_lst, isNon_tup, isNon_dct, isNon_ins, isNon_exc, dXv, reprG, DD.D.ins.injEq, DD.D.exc.injEq, cmpIG, neIG, clsD, Option.bind_some, B.s.injEq, if_true, if_false, dNeg, dLenSet, dIndex, dClrE, dAppE, dCallK, eqKG, sortedSG]
    refine forL_pre (fun p δ => p.length ≤ n ∧ ∃ x4, δ = [some (.p (.int n)), some (.p (.bl rf)), some (.p (.lst ((modes.take n).map D.str))), some (.o (.lst ((rowsTo n rf p.length).map RowT.d))), x4, none]) (pre := []) (fun p d r δ e hI N hN => ?_) (fun δ hI => ?_) ⟨Nat.zero_le _, none, rfl⟩
    · obtain ⟨hp, x4, rfl⟩ := hI
      have hl := congrArg List.length e
      rw [List.nil_append, List.length_append, List.length_cons, List.length_map, m_len h4] at hl
      have hjn : p.length < n := by omega
      have hj : p.length < 4 := by omega
      have hd : d = .str (mode p.length) := by
        have z := congrArg (fun l => l[p.length]?) e
        simp only [List.nil_append] at z
        rw [List.getElem?_append_right (Nat.le_refl _), Nat.sub_self, List.getElem?_cons_zero, List.getElem?_map, m_get h4 hjn] at z
        exact (Option.some.inj z).symm
      subst hd
      have hsl : ((rowsTo n rf p.length).map RowT.d).length ≤ 20 := by
        rw [List.length_map]
        exact Nat.le_trans (rowsTo_len _) (by omega)
      have sl := sizeLine_eq
      have fin : ∀ L : List D, L = (rowsTo n rf p.length).map RowT.d ++ (rowsAt n rf p.length).map RowT.d → N [some (.p (.int n)), some (.p (.bl rf)), some (.p (.lst ((modes.take n).map D.str))), some (.o (.lst L)), some (.p (.str (mode p.length))), none] := fun L e => hN _ ⟨by rw [List.length_append, List.length_singleton]; omega, some (.p (.str (mode p.length))), by rw [e, List.length_append, List.length_singleton, ← List.map_append]; rfl⟩
      have last := m_last h1 h4
      have mn : (mode p.length = mode (n - 1)) ↔ p.length = n - 1 := by
        have z := mode_ne ⟨p.length, hj⟩ ⟨n - 1, by omega⟩
        exact z.trans ⟨fun h => congrArg Fin.val h, fun h => Fin.ext h⟩
      rw [List.length_map] at hsl
      have ek : ((p.length : Nat) : Int) + 1 = ((p.length + 1 : Nat) : Int) := rfl
      have flS : ((modes.take n).map D.str).all flatD = true := by
        rw [List.all_eq_true]
        intro d hd
        obtain ⟨x, _, rfl⟩ := List.mem_map.mp hd
        rfl
      cases rf
      · refine dseq ?_
        simp only [startD, List.map_cons, List.map_nil, List.length_cons, List.length_nil, Nat.reduceAdd, Nat.reduceSub, List.replicate, List.cons_append, List.nil_append, dSet, dIfS, dT, dOp, dCB, dCons, dNil, dV, dM, dC, dp, dNext, dRet, dRetN, dLst, dTup, dDrop, dNot, dAnd, dOr, dAndV, dOrV, dNotV, intG, intG0, lenG, lenD, ixG, itemD, intCG, intOf, maxG, List.getElem?_cons_zero, List.getElem?_cons_succ, List.set_cons_zero, List.set_cons_succ, Option.some.injEq, B.isU, B.d, B.rd, exists_eq_left', exists_eq_left, exists_and_left, true_and, and_true, B.p.injEq, DD.D.bl.injEq, DD.D.int.injEq, List.cons.injEq, DD.PC, decide_eq_true_eq, and_assoc, Option.map_some, dLc, iAny, walked, wipeE, gN, dCall, dCallP, dCallF, eqG, neG, Bool.not_true, Bool.not_false, if_true, if_false, Bool.false_eq_true, reduceIte, List.append_nil, dCBK, addG, dM1, gT, gsCons, gsNil, iEnumD, dAsP, iR1, dPart, dNo, dSl, freB, lstD, List.all_cons, List.all_nil, litD, Bool.and_self, dReprPair, dDctN, itemD2, ixG2, keyD, lookD, strG2, dPar, bCons, bNil, dFor, List.zip_cons_cons, List.zip_nil_right, List.foldl_cons, List.foldl_nil, dApp, B.o.injEq, DD.D.lst.injEq, DD.D.tup.injEq, exists_eq', dDct0, B.u.injEq, sizeLine_eq, Nat.reduceLeDiff, Nat.reduceLT, Nat.zero_le, true_implies, slG, List.length_map, tupleG, seqD, listG, iR2, List.length_take, List.length_drop, List.length_append, DD.D.str.injEq, mulG, dAsg, dFld, lookF, dSetF, setF, dProp, dMeth, dMake, dMakeK, cxOf_K, dChain, notNG, isNG, isNon_non, isNon_bl, isNon_int, isNon_str, isNon_lst, isNon_tup, isNon_dct, isNon_ins, isNon_exc, dXv, reprG, DD.D.ins.injEq, DD.D.exc.injEq, cmpIG, neIG, clsD, Option.bind_some, B.s.injEq, if_true, if_false, dNeg, dLenSet, dIndex, dClrE, dAppE, dCallK, eqKG, sortedSG]
        refine ⟨by omega, dseq ?_⟩
        simp only [startD, List.map_cons, List.map_nil, List.length_cons, List.length_nil, Nat.reduceAdd, Nat.reduceSub, List.replicate, List.cons_append, List.nil_append, dSet, dIfS, dT, dOp, dCB, dCons, dNil, dV, dM, dC, dp, dNext, dRet, dRetN, dLst, dTup, dDrop, dNot, dAnd, dOr, dAndV, dOrV, dNotV, intG, intG0, lenG, lenD, ixG, itemD, intCG, intOf, maxG, List.getElem?_cons_zero, List.getElem?_cons_succ, List.set_cons_zero, List.set_cons_succ, Option.some.injEq, B.isU, B.d, B.rd, exists_eq_left', exists_eq_left, exists_and_left, true_and, and_true, B.p.injEq, DD.D.bl.injEq, DD.D.int.injEq, List.cons.injEq, DD.PC, decide_eq_true_eq, and_assoc, Option.map_some, dLc, iAny, walked, wipeE, gN, dCall, dCallP, dCallF, eqG, neG, Bool.not_true, Bool.not_false, if_true, if_false, Bool.false_eq_true, reduceIte, List.append_nil, dCBK, addG, dM1, gT, gsCons, gsNil, iEnumD, dAsP, iR1, dPart, dNo, dSl, freB, lstD, List.all_cons, List.all_nil, litD, Bool.and_self, dReprPair, dDctN, itemD2, ixG2, keyD, lookD, strG2, dPar, bCons, bNil, dFor, List.zip_cons_cons, List.zip_nil_right, List.foldl_cons, List.foldl_nil, dApp, B.o.injEq, DD.D.lst.injEq, DD.D.tup.injEq, exists_eq', dDct0, B.u.injEq, sizeLine_eq, Nat.reduceLeDiff, Nat.reduceLT, Nat.zero_le, true_implies, slG, List.length_map, tupleG, seqD, listG, iR2, List.length_take, List.length_drop, List.length_append, DD.D.str.injEq, mulG, dAsg, dFld, lookF, dSetF, setF, dProp, dMeth, dMake, dMakeK, cxOf_K, dChain, notNG, isNG, isNon_non, isNon_bl, isNon_int, isNon_str, isNon_lst, isNon_tup, isNon_dct, isNon_ins, isNon_exc, dXv, reprG, DD.D.ins.injEq, DD.D.exc.injEq, cmpIG, neIG, clsD, Option.bind_some, B.s.injEq, if_true, if_false, dNeg, dLenSet, dIndex, dClrE, dAppE, dCallK, eqKG, sortedSG]
        refine ⟨.str (mode (n - 1)), last, decide (mode p.length = mode (n - 1)), eqD_str, ?_⟩
        by_cases hlt : p.length + 1 < n
        · rw [decide_eq_false (fun z => by have := mn.mp z; omega)]
          refine iteT ⟨flS, rfl, p.length, .str (mode p.length), by rw [List.getElem?_map, m_get h4 hjn]; rfl, beq_self_eq_true _, fun m z' hm hz => m_no h4 hjn hm hz, _, by rw [ek]; exact m_at h4 hlt, by omega, fin _ ?_⟩
          unfold rowsAt
          rw [if_pos hlt]
          simp [RowT.d]
        · rw [decide_eq_true (mn.mpr (by omega))]
          refine iteF (dseq ?_)
          simp only [startD, List.map_cons, List.map_nil, List.length_cons, List.length_nil, Nat.reduceAdd, Nat.reduceSub, List.replicate, List.cons_append, List.nil_append, dSet, dIfS, dT, dOp, dCB, dCons, dNil, dV, dM, dC, dp, dNext, dRet, dRetN, dLst, dTup, dDrop, dNot, dAnd, dOr, dAndV, dOrV, dNotV, intG, intG0, lenG, lenD, ixG, itemD, intCG, intOf, maxG, List.getElem?_cons_zero, List.getElem?_cons_succ, List.set_cons_zero, List.set_cons_succ, Option.some.injEq, B.isU, B.d, B.rd, exists_eq_left', exists_eq_left, exists_and_left, true_and, and_true, B.p.injEq, DD.D.bl.injEq, DD.D.int.injEq, List.cons.injEq, DD.PC, decide_eq_true_eq, and_assoc, Option.map_some, dLc, iAny, walked, wipeE, gN, dCall, dCallP, dCallF, eqG, neG, Bool.not_true, Bool.not_false, if_true, if_false, Bool.false_eq_true, reduceIte, List.append_nil, dCBK, addG, dM1, gT, gsCons, gsNil, iEnumD, dAsP, iR1, dPart, dNo, dSl, freB, lstD, List.all_cons, List.all_nil, litD, Bool.and_self, dReprPair, dDctN, itemD2, ixG2, keyD, lookD, strG2, dPar, bCons, bNil, dFor, List.zip_cons_cons, List.zip_nil_right, List.foldl_cons, List.foldl_nil, dApp, B.o.injEq, DD.D.lst.injEq, DD.D.tup.injEq, exists_eq', dDct0, B.u.injEq, sizeLine_eq, Nat.reduceLeDiff, Nat.reduceLT, Nat.zero_le, true_implies, slG, List.length_map, tupleG, seqD, listG, iR2, List.length_take, List.length_drop, List.length_append, DD.D.str.injEq, mulG, dAsg, dFld, lookF, dSetF, setF, dProp, dMeth, dMake, dMakeK, cxOf_K, dChain, notNG, isNG, isNon_non, isNon_bl, isNon_int, isNon_str, isNon_lst, isNon_tup, isNon_dct, isNon_ins, isNon_exc, dXv, reprG, DD.D.ins.injEq, DD.D.exc.injEq, cmpIG, neIG, clsD, Option.bind_some, B.s.injEq, if_true, if_false, dNeg, dLenSet, dIndex, dClrE, dAppE, dCallK, eqKG, sortedSG]
          refine ⟨by omega, by omega, fin _ ?_⟩
          unfold rowsAt
          rw [if_neg hlt]
          simp [RowT.d]
      · refine dseq ?_
        simp only [startD, List.map_cons, List.map_nil, List.length_cons, List.length_nil, Nat.reduceAdd, Nat.reduceSub, List.replicate, List.cons_append, List.nil_append, dSet, dIfS, dT, dOp, dCB, dCons, dNil, dV, dM, dC, dp, dNext, dRet, dRetN, dLst, dTup, dDrop, dNot, dAnd, dOr, dAndV, dOrV, dNotV, intG, intG0, lenG, lenD, ixG, itemD, intCG, intOf, maxG, List.getElem?_cons_zero, List.getElem?_cons_succ, List.set_cons_zero, List.set_cons_succ, Option.some.injEq, B.isU, B.d, B.rd, exists_eq_left', exists_eq_left, exists_and_left, true_and, and_true, B.p.injEq, DD.D.bl.injEq, DD.D.int.injEq, List.cons.injEq, DD.PC, decide_eq_true_eq, and_assoc, Option.map_some, dLc, iAny, walked, wipeE, gN, dCall, dCallP, dCallF, eqG, neG, Bool.not_true, Bool.not_false, if_true, if_false, Bool.false_eq_true, reduceIte, List.append_nil, dCBK, addG, dM1, gT, gsCons, gsNil, iEnumD, dAsP, iR1, dPart, dNo, dSl, freB, lstD, List.all_cons, List.all_nil, litD, Bool.and_self, dReprPair, dDctN, itemD2, ixG2, keyD, lookD, strG2, dPar, bCons, bNil, dFor, List.zip_cons_cons, List.zip_nil_right, List.foldl_cons, List.foldl_nil, dApp, B.o.injEq, DD.D.lst.injEq, DD.D.tup.injEq, exists_eq', dDct0, B.u.injEq, sizeLine_eq, Nat.reduceLeDiff, Nat.reduceLT, Nat.zero_le, true_implies, slG, List.length_map, tupleG, seqD, listG, iR2, List.length_take, List.length_drop, List.length_append, DD.D.str.injEq, mulG, dAsg, dFld, lookF, dSetF, setF, dProp, dMeth, dMake, dMakeK, cxOf_K, dChain, notNG, isNG, isNon_non, isNon_bl, isNon_int, isNon_str, isNon_lst, isNon_tup, isNon_dct, isNon_ins, isNon_exc, dXv, reprG, DD.D.ins.injEq, DD.D.exc.injEq, cmpIG, neIG, clsD, Option.bind_some, B.s.injEq, if_true, if_false, dNeg, dLenSet, dIndex, dClrE, dAppE, dCallK, eqKG, sortedSG]
        refine ⟨by omega, dseq ?_⟩
        simp only [startD, List.map_cons, List.map_nil, List.length_cons, List.length_nil, Nat.reduceAdd, Nat.reduceSub, List.replicate, List.cons_append, List.nil_append, dSet, dIfS, dT, dOp, dCB, dCons, dNil, dV, dM, dC, dp, dNext, dRet, dRetN, dLst, dTup, dDrop, dNot, dAnd, dOr, dAndV, dOrV, dNotV, intG, intG0, lenG, lenD, ixG, itemD, intCG, intOf, maxG, List.getElem?_cons_zero, List.getElem?_cons_succ, List.set_cons_zero, List.set_cons_succ, Option.some.injEq, B.isU, B.d, B.rd, exists_eq_left', exists_eq_left, exists_and_left, true_and, and_true, B.p.injEq, DD.D.bl.injEq, DD.D.int.injEq, List.cons.injEq, DD.PC, decide_eq_true_eq, and_assoc, Option.map_some, dLc, iAny, walked, wipeE, gN, dCall, dCallP, dCallF, eqG, neG, Bool.not_true, Bool.not_false, if_true, if_false, Bool.false_eq_true, reduceIte, List.append_nil, dCBK, addG, dM1, gT, gsCons, gsNil, iEnumD, dAsP, iR1, dPart, dNo, dSl, freB, lstD, List.all_cons, List.all_nil, litD, Bool.and_self, dReprPair, dDctN, itemD2, ixG2, keyD, lookD, strG2, dPar, bCons, bNil, dFor, List.zip_cons_cons, List.zip_nil_right, List.foldl_cons, List.foldl_nil, dApp, B.o.injEq, DD.D.lst.injEq, DD.D.tup.injEq, exists_eq', dDct0, B.u.injEq, sizeLine_eq, Nat.reduceLeDiff, Nat.reduceLT, Nat.zero_le, true_implies, slG, List.length_map, tupleG, seqD, listG, iR2, List.length_take, List.length_drop, List.length_append, DD.D.str.injEq, mulG, dAsg, dFld, lookF, dSetF, setF, dProp, dMeth, dMake, dMakeK, cxOf_K, dChain, notNG, isNG, isNon_non, isNon_bl, isNon_int, isNon_str, isNon_lst, isNon_tup, isNon_dct, isNon_ins, isNon_exc, dXv, reprG, DD.D.ins.injEq, DD.D.exc.injEq, cmpIG, neIG, clsD, Option.bind_some, B.s.injEq, if_true, if_false, dNeg, dLenSet, dIndex, dClrE, dAppE, dCallK, eqKG, sortedSG]
        refine dseq ?_
        simp only [startD, List.map_cons, List.map_nil, List.length_cons, List.length_nil, Nat.reduceAdd, Nat.reduceSub, List.replicate, List.cons_append, List.nil_append, dSet, dIfS, dT, dOp, dCB, dCons, dNil, dV, dM, dC, dp, dNext, dRet, dRetN, dLst, dTup, dDrop, dNot, dAnd, dOr, dAndV, dOrV, dNotV, intG, intG0, lenG, lenD, ixG, itemD, intCG, intOf, maxG, List.getElem?_cons_zero, List.getElem?_cons_succ, List.set_cons_zero, List.set_cons_succ, Option.some.injEq, B.isU, B.d, B.rd, exists_eq_left', exists_eq_left, exists_and_left, true_and, and_true, B.p.injEq, DD.D.bl.injEq, DD.D.int.injEq, List.cons.injEq, DD.PC, decide_eq_true_eq, and_assoc, Option.map_some, dLc, iAny, walked, wipeE, gN, dCall, dCallP, dCallF, eqG, neG, Bool.not_true, Bool.not_false, if_true, if_false, Bool.false_eq_true, reduceIte, List.append_nil, dCBK, addG, dM1, gT, gsCons, gsNil, iEnumD, dAsP, iR1, dPart, dNo, dSl, freB, lstD, List.all_cons, List.all_nil, litD, Bool.and_self, dReprPair, dDctN, itemD2, ixG2, keyD, lookD, strG2, dPar, bCons, bNil, dFor, List.zip_cons_cons, List.zip_nil_right, List.foldl_cons, List.foldl_nil, dApp, B.o.injEq, DD.D.lst.injEq, DD.D.tup.injEq, exists_eq', dDct0, B.u.injEq, sizeLine_eq, Nat.reduceLeDiff, Nat.reduceLT, Nat.zero_le, true_implies, slG, List.length_map, tupleG, seqD, listG, iR2, List.length_take, List.length_drop, List.length_append, DD.D.str.injEq, mulG, dAsg, dFld, lookF, dSetF, setF, dProp, dMeth, dMake, dMakeK, cxOf_K, dChain, notNG, isNG, isNon_non, isNon_bl, isNon_int, isNon_str, isNon_lst, isNon_tup, isNon_dct, isNon_ins, isNon_exc, dXv, reprG, DD.D.ins.injEq, DD.D.exc.injEq, cmpIG, neIG, clsD, Option.bind_some, B.s.injEq, if_true, if_false, dNeg, dLenSet, dIndex, dClrE, dAppE, dCallK, eqKG, sortedSG]
        refine ⟨by omega, by omega, ?_⟩
        refine ⟨.str (mode (n - 1)), last, decide (mode p.length = mode (n - 1)), eqD_str, ?_⟩
        by_cases hlt : p.length + 1 < n
        · rw [decide_eq_false (fun z => by have := mn.mp z; omega)]
          refine iteT ⟨flS, rfl, p.length, .str (mode p.length), by rw [List.getElem?_map, m_get h4 hjn]; rfl, beq_self_eq_true _, fun m z' hm hz => m_no h4 hjn hm hz, _, by rw [ek]; exact m_at h4 hlt, by omega, fin _ ?_⟩
          unfold rowsAt
          rw [if_pos hlt]
          simp [RowT.d]
        · rw [decide_eq_true (mn.mpr (by omega))]
          refine iteF (dseq ?_)
          simp only [startD, List.map_cons, List.map_nil, List.length_cons, List.length_nil, Nat.reduceAdd, Nat.reduceSub, List.replicate, List.cons_append, List.nil_append, dSet, dIfS, dT, dOp, dCB, dCons, dNil, dV, dM, dC, dp, dNext, dRet, dRetN, dLst, dTup, dDrop, dNot, dAnd, dOr, dAndV, dOrV, dNotV, intG, intG0, lenG, lenD, ixG, itemD, intCG, intOf, maxG, List.getElem?_cons_zero, List.getElem?_cons_succ, List.set_cons_zero, List.set_cons_succ, Option.some.injEq, B.isU, B.d, B.rd, exists_eq_left', exists_eq_left, exists_and_left, true_and, and_true, B.p.injEq, DD.D.bl.injEq, DD.D.int.injEq, List.cons.injEq, DD.PC, decide_eq_true_eq, and_assoc, Option.map_some, dLc, iAny, walked, wipeE, gN, dCall, dCallP, dCallF, eqG, neG, Bool.not_true, Bool.not_false, if_true, if_false, Bool.false_eq_true, reduceIte, List.append_nil, dCBK, addG, dM1, gT, gsCons, gsNil, iEnumD, dAsP, iR1, dPart, dNo, dSl, freB, lstD, List.all_cons, List.all_nil, litD, Bool.and_self, dReprPair, dDctN, itemD2, ixG2, keyD, lookD, strG2, dPar, bCons, bNil, dFor, List.zip_cons_cons, List.zip_nil_right, List.foldl_cons, List.foldl_nil, dApp, B.o.injEq, DD.D.lst.injEq, DD.D.tup.injEq, exists_eq', dDct0, B.u.injEq, sizeLine_eq, Nat.reduceLeDiff, Nat.reduceLT, Nat.zero_le, true_implies, slG, List.length_map, tupleG, seqD, listG, iR2, List.length_take, List.length_drop, List.length_append, DD.D.str.injEq, mulG, dAsg, dFld, lookF, dSetF, setF, dProp, dMeth, dMake, dMakeK, cxOf_K, dChain, notNG, isNG, isNon_non, isNon_bl, isNon_int, isNon_str, isNon_lst, isNon_tup, isNon_dct, isNon_ins, isNon_exc, dXv, reprG, DD.D.ins.injEq, DD.D.exc.injEq, cmpIG, neIG, clsD, Option.bind_some, B.s.injEq, if_true, if_false, dNeg, dLenSet, dIndex, dClrE, dAppE, dCallK, eqKG, sortedSG]
          refine ⟨by omega, by omega, fin _ ?_⟩
          unfold rowsAt
          rw [if_neg hlt]
          simp [RowT.d]
    · obtain ⟨hp, x4, rfl⟩ := hI
      rw [List.nil_append, List.length_map, m_len h4]
      have hsl : ((rowsTo n rf n).map RowT.d).length ≤ 20 := by
        rw [List.length_map]
        exact Nat.le_trans (rowsTo_len _) (by omega)
      rw [List.length_map] at hsl
      have sl := sizeLine_eq
      refine dseq ?_
      simp only [startD, List.map_cons, List.map_nil, List.length_cons, List.length_nil, Nat.reduceAdd, Nat.reduceSub, List.replicate, List.cons_append, List.nil_append, dSet, dIfS, dT, dOp, dCB, dCons, dNil, dV, dM, dC, dp, dNext, dRet, dRetN, dLst, dTup, dDrop, dNot, dAnd, dOr, dAndV, dOrV, dNotV, intG, intG0, lenG, lenD, ixG, itemD, intCG, intOf, maxG, List.getElem?_cons_zero, List.getElem?_cons_succ, List.set_cons_zero, List.set_cons_succ, Option.some.injEq, B.isU, B.d, B.rd, exists_eq_left', exists_eq_left, exists_and_left, true_and, and_true, B.p.injEq, DD.D.bl.injEq, DD.D.int.injEq, List.cons.injEq, DD.PC, decide_eq_true_eq, and_assoc, Option.map_some, dLc, iAny, walked, wipeE, gN, dCall, dCallP, dCallF, eqG, neG, Bool.not_true, Bool.not_false, if_true, if_false, Bool.false_eq_true, reduceIte, List.append_nil, dCBK, addG, dM1, gT, gsCons, gsNil, iEnumD, dAsP, iR1, dPart, dNo, dSl, freB, lstD, List.all_cons, List.all_nil, litD, Bool.and_self, dReprPair, dDctN, itemD2, ixG2, keyD, lookD, strG2, dPar, bCons, bNil, dFor, List.zip_cons_cons, List.zip_nil_right, List.foldl_cons, List.foldl_nil, dApp, B.o.injEq, DD.D.lst.injEq, DD.D.tup.injEq, exists_eq', dDct0, B.u.injEq, sizeLine_eq, Nat.reduceLeDiff, Nat.reduceLT, Nat.zero_le, true_implies, slG, List.length_map, tupleG, seqD, listG, iR2, List.length_take, List.length_drop, List.length_append, DD.D.str.injEq, mulG, dAsg, dFld, lookF, dSetF, setF, dProp, dMeth, dMake, dMakeK, cxOf_K, dChain, notNG, isNG, isNon_non, isNon_bl, isNon_int, isNon_str, isNon_lst, isNon_tup, isNon_dct, isNon_ins, isNon_exc, dXv, reprG, DD.D.ins.injEq, DD.D.exc.injEq, cmpIG, neIG, clsD, Option.bind_some, B.s.injEq, if_true, if_false, dNeg, dLenSet, dIndex, dClrE, dAppE, dCallK, eqKG, sortedSG]
      refine dseq ?_
      simp only [startD, List.map_cons, List.map_nil, List.length_cons, List.length_nil, Nat.reduceAdd, Nat.reduceSub, List.replicate, List.cons_append, List.nil_append, dSet, dIfS, dT, dOp, dCB, dCons, dNil, dV, dM, dC, dp, dNext, dRet, dRetN, dLst, dTup, dDrop, dNot, dAnd, dOr, dAndV, dOrV, dNotV, intG, intG0, lenG, lenD, ixG, itemD, intCG, intOf, maxG, List.getElem?_cons_zero, List.getElem?_cons_succ, List.set_cons_zero, List.set_cons_succ, Option.some.injEq, B.isU, B.d, B.rd, exists_eq_left', exists_eq_left, exists_and_left, true_and, and_true, B.p.injEq, DD.D.bl.injEq, DD.D.int.injEq, List.cons.injEq, DD.PC, decide_eq_true_eq, and_assoc, Option.map_some, dLc, iAny, walked, wipeE, gN, dCall, dCallP, dCallF, eqG, neG, Bool.not_true, Bool.not_false, if_true, if_false, Bool.false_eq_true, reduceIte, List.append_nil, dCBK, addG, dM1, gT, gsCons, gsNil, iEnumD, dAsP, iR1, dPart, dNo, dSl, freB, lstD, List.all_cons, List.all_nil, litD, Bool.and_self, dReprPair, dDctN, itemD2, ixG2, keyD, lookD, strG2, dPar, bCons, bNil, dFor, List.zip_cons_cons, List.zip_nil_right, List.foldl_cons, List.foldl_nil, dApp, B.o.injEq, DD.D.lst.injEq, DD.D.tup.injEq, exists_eq', dDct0, B.u.injEq, sizeLine_eq, Nat.reduceLeDiff, Nat.reduceLT, Nat.zero_le, true_implies, slG, List.length_map, tupleG, seqD, listG, iR2, List.length_take, List.length_drop, List.length_append, DD.D.str.injEq, mulG, dAsg, dFld, lookF, dSetF, setF, dProp, dMeth, dMake, dMakeK, cxOf_K, dChain, notNG, isNG, isNon_non, isNon_bl, isNon_int, isNon_str, isNon_lst, isNon_tup, isNon_dct, isNon_ins, isNon_exc, dXv, reprG, DD.D.ins.injEq, DD.D.exc.injEq, cmpIG, neIG, clsD, Option.bind_some, B.s.injEq, if_true, if_false, dNeg, dLenSet, dIndex, dClrE, dAppE, dCallK, eqKG, sortedSG]
      refine ⟨by omega, dseq ?_⟩
      simp only [startD, List.map_cons, List.map_nil, List.length_cons, List.length_nil, Nat.reduceAdd, Nat.reduceSub, List.replicate, List.cons_append, List.nil_append, dSet, dIfS, dT, dOp, dCB, dCons, dNil, dV, dM, dC, dp, dNext, dRet, dRetN, dLst, dTup, dDrop, dNot, dAnd, dOr, dAndV, dOrV, dNotV, intG, intG0, lenG, lenD, ixG, itemD, intCG, intOf, maxG, List.getElem?_cons_zero, List.getElem?_cons_succ, List.set_cons_zero, List.set_cons_succ, Option.some.injEq, B.isU, B.d, B.rd, exists_eq_left', exists_eq_left, exists_and_left, true_and, and_true, B.p.injEq, DD.D.bl.injEq, DD.D.int.injEq, List.cons.injEq, DD.PC, decide_eq_true_eq, and_assoc, Option.map_some, dLc, iAny, walked, wipeE, gN, dCall, dCallP, dCallF, eqG, neG, Bool.not_true, Bool.not_false, if_true, if_false, Bool.false_eq_true, reduceIte, List.append_nil, dCBK, addG, dM1, gT, gsCons, gsNil, iEnumD, dAsP, iR1, dPart, dNo, dSl, freB, lstD, List.all_cons, List.all_nil, litD, Bool.and_self, dReprPair, dDctN, itemD2, ixG2, keyD, lookD, strG2, dPar, bCons, bNil, dFor, List.zip_cons_cons, List.zip_nil_right, List.foldl_cons, List.foldl_nil, dApp, B.o.injEq, DD.D.lst.injEq, DD.D.tup.injEq, exists_eq', dDct0, B.u.injEq, sizeLine_eq, Nat.reduceLeDiff, Nat.reduceLT, Nat.zero_le, true_implies, slG, List.length_map, tupleG, seqD, listG, iR2, List.length_take, List.length_drop, List.length_append, DD.D.str.injEq, mulG, dAsg, dFld, lookF, dSetF, setF, dProp, dMeth, dMake, dMakeK, cxOf_K, dChain, notNG, isNG, isNon_non, isNon_bl, isNon_int, isNon_str, isNon_lst, isNon_tup, isNon_dct, isNon_ins, isNon_exc, dXv, reprG, DD.D.ins.injEq, DD.D.exc.injEq, cmpIG, neIG, clsD, Option.bind_some, B.s.injEq, if_true, if_false, dNeg, dLenSet, dIndex, dClrE, dAppE, dCallK, eqKG, sortedSG]
      refine dseq ?_
      simp only [startD, List.map_cons, List.map_nil, List.length_cons, List.length_nil, Nat.reduceAdd, Nat.reduceSub, List.replicate, List.cons_append, List.nil_append, dSet, dIfS, dT, dOp, dCB, dCons, dNil, dV, dM, dC, dp, dNext, dRet, dRetN, dLst, dTup, dDrop, dNot, dAnd, dOr, dAndV, dOrV, dNotV, intG, intG0, lenG, lenD, ixG, itemD, intCG, intOf, maxG, List.getElem?_cons_zero, List.getElem?_cons_succ, List.set_cons_zero, List.set_cons_succ, Option.some.injEq, B.isU, B.d, B.rd, exists_eq_left', exists_eq_left, exists_and_left, true_and, and_true, B.p.injEq, DD.D.bl.injEq, DD.D.int.injEq, List.cons.injEq, DD.PC, decide_eq_true_eq, and_assoc, Option.map_some, dLc, iAny, walked, wipeE, gN, dCall, dCallP, dCallF, eqG, neG, Bool.not_true, Bool.not_false, if_true, if_false, Bool.false_eq_true, reduceIte, List.append_nil, dCBK, addG, dM1, gT, gsCons, gsNil, iEnumD, dAsP, iR1, dPart, dNo, dSl, freB, lstD, List.all_cons, List.all_nil, litD, Bool.and_self, dReprPair, dDctN, itemD2, ixG2, keyD, lookD, strG2, dPar, bCons, bNil, dFor, List.zip_cons_cons, List.zip_nil_right, List.foldl_cons, List.foldl_nil, dApp, B.o.injEq, DD.D.lst.injEq, DD.D.tup.injEq, exists_eq', dDct0, B.u.injEq, sizeLine_eq, Nat.reduceLeDiff, Nat.reduceLT, Nat.zero_le, true_implies, slG, List.length_map, tupleG, seqD, listG, iR2, List.length_take, List.length_drop, List.length_append, DD.D.str.injEq, mulG, dAsg, dFld, lookF, dSetF, setF, dProp, dMeth, dMake, dMakeK, cxOf_K, dChain, notNG, isNG, isNon_non, isNon_bl, isNon_int, isNon_str, isNon_lst, isNon_tup, isNon_dct, isNon_ins, isNon_exc, dXv, reprG, DD.D.ins.injEq, DD.D.exc.injEq, cmpIG, neIG, clsD, Option.bind_some, B.s.injEq, if_true, if_false, dNeg, dLenSet, dIndex, dClrE, dAppE, dCallK, eqKG, sortedSG]
      have e : (rowsTo n rf n).map RowT.d ++ [D.tup [D.non, D.non, D.str (Str.ofString "any"), D.non, D.str (Str.ofString "stay"), D.non]] = (rowsT n rf).map RowT.d := by
        unfold rowsT
        rw [List.map_append]
        rfl
      rw [e]
      cases rf
      · have c1 : ∀ x y : D, DD.cutD [x, y] none (some (1 + if false = true then 1 else 0)) = [x] := fun x y => rfl
        rw [c1]
        exact ⟨by simp, 0, q⟩
      · have c2 : ∀ x y : D, DD.cutD [x, y] none (some (1 + if true = true then 1 else 0)) = [x, y] := fun x y => rfl
        rw [c2]
        exact ⟨by simp, 0, q⟩
end
end K

set_option Elab.async false
set_option linter.all false
set_option maxRecDepth 100000
set_option maxHeartbeats 8000000
namespace K
open PySem PySem.Spec PyProof.Rows L2 DD
section
variable {P : Program} {w : World} {K : PySem.W.Frag} {mg : Str → Option Value} {base : Heap}

theorem bs_of {d : D} (h : datB d = true) : pureD d = true ∧ Sh 0 d := by
  cases d <;> first | (cases h; done) | skip
  · exact ⟨rfl, sh_non⟩
  · obtain ⟨h1, _⟩ := Bool.and_eq_true_iff.mp h
    exact ⟨rfl, sh_str fun c hc => of_decide_eq_true (List.all_eq_true.mp h1 c hc)⟩
theorem okRow_b {m h w t v s : D} (hk : okRow m h w t v s = true) : ∀ d ∈ [m, h, w, t, v, s], pureD d = true ∧ Sh 0 d := fun d hd => by
  unfold okRow at hk
  simp only [Bool.and_eq_true] at hk
  obtain ⟨⟨⟨⟨⟨⟨k0, k1⟩, k2⟩, k3⟩, k4⟩, k5⟩, k6⟩ := hk
  simp only [List.mem_cons, List.not_mem_nil, or_false] at hd
  rcases hd with rfl | rfl | rfl | rfl | rfl | rfl <;> exact bs_of (by assumption)
theorem RowT.b {r : RowT} {sd : Str} (h : r.ok sd = true) : ∀ d ∈ [r.m, r.h, .str r.w, r.t, .str r.v, r.s], pureD d = true ∧ Sh 0 d := by
  unfold RowT.ok at h
  simp only [Bool.and_eq_true] at h
  exact okRow_b h.1.1
theorem pureL_of : ∀ {ds : List D}, (∀ d ∈ ds, pureD d = true) → pureL ds = true
  | [], _ => rfl
  | d :: ds, h => by
    show (pureD d && pureL ds) = true
    rw [h d List.mem_cons_self, pureL_of fun x hx => h x (List.mem_cons_of_mem _ hx)]
    rfl
theorem row_self {aR : Addr} {r : RowT} {sd : Str} (h : r.ok sd = true) : rIns aR (rRule aR) (r.r aR) (r.r aR) true := by
  have hb := RowT.b h
  have p := pureL_of fun d hd => (hb d hd).1
  exact ⟨⟨_, _, rfl⟩, ⟨_, _, rfl⟩, _, _, rfl, rfl, p, p, eqD_same (k := 1) (by decide) (sh_tup fun d hd => (hb d hd).2)⟩
theorem rItems_refl {R : EqR} : ∀ {cs : List D}, (∀ c ∈ cs, R c c true) → rItems R cs cs true
  | [], _ => rfl
  | c :: cs, h => ⟨true, h c List.mem_cons_self, by rw [if_pos rfl]; exact rItems_refl fun x hx => h x (List.mem_cons_of_mem _ hx)⟩
theorem dat_sh {x : Str} (h : Dat (.str x)) : Sh 0 (.str x) := sh_str (h.s x rfl).1
theorem side_str {sd : Str} (h : sd ∈ sides) : Sh 0 (.str sd) := by
  simp only [sides, List.mem_cons, List.not_mem_nil, or_false] at h
  rcases h with rfl | rfl <;> exact sh_str (by decide)
theorem SideT.Ok.shS {x : SideT} {sd : Str} (o : x.Ok sd) : ∀ d ∈ x.ss.map D.str, Sh 0 d := fun d hd => by
  obtain ⟨y, hy, rfl⟩ := List.mem_map.mp hd
  exact dat_sh (o.h7 y hy).2
theorem SideT.Ok.pr {x : SideT} {sd : Str} {aR : Addr} (o : x.Ok sd) : pureL (x.rs.map (RowT.r aR)) = true := pureL_of fun d hd => by
  obtain ⟨r, hr, rfl⟩ := List.mem_map.mp hd
  have z := RowT.b (List.all_eq_true.mp o.h4 r hr)
  have p := pureL_of fun d hd => (z d hd).1
  show (pureL [r.m, r.h, .str r.w, r.t, .str r.v, r.s] && true) = true
  rw [p]
  rfl
theorem role_self {aRo aR : Addr} {sd : Str} {x : SideT} (o : x.Ok sd) : rIns aRo (rRole aRo aR) (x.r aRo aR sd) (x.r aRo aR sd) true := by
  have e1 : eqD (.tup [.str sd, .str x.f]) (.tup [.str sd, .str x.f]) = some true := eqD_same (k := 1) (by decide) (sh_tup fun d hd => by
    simp only [List.mem_cons, List.not_mem_nil, or_false] at hd
    rcases hd with rfl | rfl
    · exact side_str o.h1
    · exact dat_sh o.h3)
  have e3 : eqD (.tup (x.ss.map D.str)) (.tup (x.ss.map D.str)) = some true := eqD_same (k := 1) (by decide) (sh_tup o.shS)
  have e2 : rTab aR (.tup (x.rs.map (RowT.r aR))) (.tup (x.rs.map (RowT.r aR))) true := ⟨_, _, rfl, rfl, o.pr, o.pr, rItems_refl fun c hc => by
    obtain ⟨r, hr, rfl⟩ := List.mem_map.mp hc
    exact row_self (List.all_eq_true.mp o.h4 r hr)⟩
  exact ⟨⟨_, _, rfl⟩, ⟨_, _, rfl⟩, _, _, _, _, _, _, _, _, true, true, true, rfl, rfl, e1, e2, e3, rfl⟩
theorem rol_self {aRo aR : Addr} {c h : SideT} (hc : c.Ok "caller") (hh : h.Ok "host") : rRol aRo aR (.tup [c.r aRo aR "caller", h.r aRo aR "host"]) (.tup [c.r aRo aR "caller", h.r aRo aR "host"]) true := by
  have p : pureL [c.r aRo aR "caller", h.r aRo aR "host"] = true := pureL_of fun d hd => by
    simp only [List.mem_cons, List.not_mem_nil, or_false] at hd
    rcases hd with rfl | rfl
    · exact pure_role hc.pr
    · exact pure_role hh.pr
  exact ⟨_, _, rfl, rfl, p, p, rItems_refl fun d hd => by
    simp only [List.mem_cons, List.not_mem_nil, or_false] at hd
    rcases hd with rfl | rfl
    · exact role_self hc
    · exact role_self hh⟩
theorem part_self {x : SideT} {sd : Str} (o : x.Ok sd) : eqD x.d x.d = some true := by
  refine eqD_same (k := 3) (by decide) (sh_tup fun d hd => ?_)
  simp only [List.mem_cons, List.not_mem_nil, or_false] at hd
  rcases hd with rfl | rfl | rfl
  · exact (dat_sh o.h3).mono (by decide)
  · refine (sh_lst (k := 1) fun d hd => ?_)
    obtain ⟨r, hr, rfl⟩ := List.mem_map.mp hd
    exact sh_tup fun y hy => (RowT.b (List.all_eq_true.mp o.h4 r hr) y hy).2
  · exact (sh_lst o.shS).mono (by decide)

abbrev s__law_right : Stmt := topS 44
theorem sc__law_right : FnScope ["_law_design", "_law_due_here", "_law_sides"] ["_law_design", "_law_due_here"] (defScope s__law_right) := ⟨rfl, rfl, rfl, by decide +kernel, rfl, by decide +kernel, by decide +kernel⟩
def spd__law_right (aDe aRo aR : Addr) : Spd := fun bs R _ => ∃ (c h : SideT) (he : Str), bs = [.p (desT aDe aRo aR c h he), .p (dueD c h he)] ∧ c.Ok "caller" ∧ h.Ok "host" ∧ isNm (.str he) = true ∧ Dat (.str he) ∧ R (.p (.bl true)) 0
theorem cal__law_right (Da : DefAt K mg "_law_right" s__law_right) {a_Rule a_Role a_Design : Addr} (c__law_made : Cal P w K mg base "_law_made" 9 ["_law_design"] (spd__law_made a_Design a_Role a_Rule)) (c__law_parts : Cal P w K mg base "_law_parts" 3 ["_law_role_here"] (spd__law_parts a_Role a_Rule)) (pr_Design_hello : PropC P w K mg base a_Design "hello" 1 (spd_Design_hello a_Design a_Role)) (pr_Design_caller : PropC P w K mg base a_Design "caller" 1 (spd_Design_caller a_Design a_Role)) (pr_Design_host : PropC P w K mg base a_Design "host" 1 (spd_Design_host a_Design a_Role)) (pr_Role_side : PropC P w K mg base a_Role "side" 1 (spd_Role_side a_Role)) (pr_Role_rules : PropC P w K mg base a_Role "rules" 1 (spd_Role_rules a_Role)) (pr_Role_settled : PropC P w K mg base a_Role "settled" 1 (spd_Role_settled a_Role)) (eq_Design : CmpC P w K mg base a_Design "__eq__" 5 (spd_Design___eq__ a_Design a_Role a_Rule)) (ne_Design : NeC K a_Design) (io : InsOk K a_Design) (c_Design : ConAt K mg "Design" (.ref a_Design)) (m_isinstance : mg "isinstance" = none) : Cal P w K mg base "_law_right" 10 ["_law_design", "_law_due_here"] (spd__law_right a_Design a_Role a_Rule) := by
  refine cal_mk none Da sc__law_right (fun _ _ _ _ _ _ us hl => match us, hl with | [_, _], _ => rfl) (fun bs R E h => ?_) (fun bs R E h => ?_) fun f cdv A outer s H E W bs R ED gu hr te h fh => ?_
  · obtain ⟨c, h, he, rfl, hc, hh, n1, n2, q⟩ := h
    rfl
  · obtain ⟨c, h, he, rfl, hc, hh, n1, n2, q⟩ := h
    exact pur_none (by simp [B.own])
  · obtain ⟨c, h, he, rfl, hc, hh, n1, n2, q⟩ := h
    have nd := sc__law_right.nd
    have hu := hr.units
    refine ⟨_, (dss_cons (ds_if (DW.dt (dw_or (dt_not (dt_val (he := fun _ => rfl) (de_callB call_isZ (rc_isa (K := K)) rfl m_isinstance bt_isinstance (da_cons (de_v 0) (da_cons (de_con c_Design) da_nil))))) (dw_or (dt_neI eq_Design ne_Design gu hr (de_v 0) (de_c c__law_made gu hr (da_cons (de_v 1) da_nil))) (dw_or1 (dt_cmp (op_neAll hu) rd_ne (de_prop pr_Design_hello gu hr (de_v 0)) (de_ix2 hu (de_v 1) de_int fun _ _ => rfl) rfl))))) (dss_one (ds_ret de_bl)) dss_nil) (dss_cons (ds_set (i := 2) nd rfl (by first | exact Or.inl rfl | exact Or.inr rfl) (de_lst (da_cons (de_prop pr_Role_side gu hr (de_prop pr_Design_caller gu hr (de_v 0))) (da_cons (de_prop pr_Role_side gu hr (de_prop pr_Design_host gu hr (de_v 0))) da_nil)))) (dss_cons (ds_if (DW.dt (dw_or (dt_cmp (op_neAll hu) rd_ne (de_v 2) (de_lst (da_cons de_str (da_cons de_str da_nil))) rfl) (dw_or (dt_cmp (op_neAll hu) rd_ne (de_c c__law_parts gu hr (da_cons (de_prop pr_Design_caller gu hr (de_v 0)) da_nil)) (de_ix2 hu (de_v 1) de_int fun _ _ => rfl) rfl) (dw_or1 (dt_cmp (op_neAll hu) rd_ne (de_c c__law_parts gu hr (da_cons (de_prop pr_Design_host gu hr (de_v 0)) da_nil)) (de_ix2 hu (de_v 1) de_int fun _ _ => rfl) rfl))))) (dss_one (ds_ret de_bl)) dss_nil) (dss_cons (ds_clrE (de_prop pr_Role_rules gu hr (de_prop pr_Design_caller gu hr (de_v 0))) (hpe := fun o ho => pe_bm0 PySem.F.plainAttrs_list PySem.F.slot_list_clear PySem.F.type_list_clear mt_clear ho)) (dss_cons (ds_appE (de_prop pr_Role_settled gu hr (de_prop pr_Design_host gu hr (de_v 0))) (hpe := fun o ho => pe_bm PySem.F.plainAttrs_list PySem.F.slot_list_append PySem.F.type_list_append mt_append ho (pa_cons pe_str pa_nil))) (dss_one (ds_ret (de_and (de_cmp (op_eqAll hu) rd_eq (de_c c__law_parts gu hr (da_cons (de_prop pr_Design_caller gu hr (de_v 0)) da_nil)) (de_ix2 hu (de_v 1) de_int fun _ _ => rfl) rfl) (de_one (de_cmp (op_eqAll hu) rd_eq (de_c c__law_parts gu hr (da_cons (de_prop pr_Design_host gu hr (de_v 0)) da_nil)) (de_ix2 hu (de_v 1) de_int fun _ _ => rfl) rfl)))))))))), ?_⟩
    refine dseq ?_
    simp only [startD, List.map_cons, List.map_nil, List.length_cons, List.length_nil, Nat.reduceAdd, Nat.reduceSub, List.replicate, List.cons_append, List.nil_append, dSet, dIfS, dT, dOp, dCB, dCons, dNil, dV, dM, dC, dp, dNext, dRet, dRetN, dLst, dTup, dDrop, dNot, dAnd, dOr, dAndV, dOrV, dNotV, intG, intG0, lenG, lenD, ixG, itemD, intCG, intOf, maxG, List.getElem?_cons_zero, List.getElem?_cons_succ, List.set_cons_zero, List.set_cons_succ, Option.some.injEq, B.isU, B.d, B.rd, exists_eq_left', exists_eq_left, exists_and_left, true_and, and_true, B.p.injEq, DD.D.bl.injEq, DD.D.int.injEq, List.cons.injEq, DD.PC, decide_eq_true_eq, and_assoc, Option.map_some, dLc, iAny, walked, wipeE, gN, dCall, dCallP, dCallF, eqG, neG, Bool.not_true, Bool.not_false, if_true, if_false, Bool.false_eq_true, reduceIte, List.append_nil, dCBK, addG, dM1, gT, gsCons, gsNil, iEnumD, dAsP, iR1, dPart, dNo, dSl, freB, lstD, List.all_cons, List.all_nil, litD, Bool.and_self, dReprPair, dDctN, itemD2, ixG2, keyD, lookD, strG2, dPar, bCons, bNil, dFor, List.zip_cons_cons, List.zip_nil_right, List.foldl_cons, List.foldl_nil, dApp, B.o.injEq, DD.D.lst.injEq, DD.D.tup.injEq, exists_eq', dDct0, B.u.injEq, sizeLine_eq, Nat.reduceLeDiff, Nat.reduceLT, Nat.zero_le, true_implies, slG, List.length_map, tupleG, seqD, listG, iR2, List.length_take, List.length_drop, List.length_append, DD.D.str.injEq, mulG, dAsg, dFld, lookF, dSetF, setF, dProp, dMeth, dMake, dMakeK, cxOf_K, dChain, notNG, isNG, isNon_non, isNon_bl, isNon_int, isNon_str, isNon_lst, isNon_tup, isNon_dct, isNon_ins, isNon_exc, dXv, reprG, DD.D.ins.injEq, DD.D.exc.injEq, cmpIG, neIG, clsD, Option.bind_some, B.s.injEq, if_true, if_false, dNeg, dLenSet, dIndex, dClrE, dAppE, dCallK, eqKG, sortedSG, desT, desD, isa_ins io kitOne_self]
    have a4 : atI [c.d, h.d, .str he] 2 = some (.str he) := rfl
    have eh : eqD (.str he) (.str he) = some true := eqD_str.trans (by rw [decide_eq_true rfl])
    have es : eqD (.lst [.str "caller", .str "host"]) (.lst [.str "caller", .str "host"]) = some true := by decide +kernel
    have lr1 : (c.rs.map (RowT.r a_Rule)).length ≤ 1000 := by rw [List.length_map]; exact hc.hl
    have lr2 : (h.rs.map (RowT.r a_Rule)).length ≤ 1000 := by rw [List.length_map]; exact hh.hl
    refine ⟨c, h, he, rfl, hc, hh, n1, n2, rfl, rfl, ⟨_, _, rfl⟩, ?_⟩
    refine ⟨c.f, _, c.ss, h.f, _, h.ss, he, c.f, _, c.ss, h.f, _, h.ss, he, true, rfl, rol_self hc hh, _, rfl, ?_⟩
    rw [decide_eq_true rfl]
    refine iteF ⟨c.f, h.f, he, _, _, c.ss, h.ss, rfl, rfl, rfl, .str he, rfl, true, eh, iteF (dseq ?_)⟩
    simp only [startD, List.map_cons, List.map_nil, List.length_cons, List.length_nil, Nat.reduceAdd, Nat.reduceSub, List.replicate, List.cons_append, List.nil_append, dSet, dIfS, dT, dOp, dCB, dCons, dNil, dV, dM, dC, dp, dNext, dRet, dRetN, dLst, dTup, dDrop, dNot, dAnd, dOr, dAndV, dOrV, dNotV, intG, intG0, lenG, lenD, ixG, itemD, intCG, intOf, maxG, List.getElem?_cons_zero, List.getElem?_cons_succ, List.set_cons_zero, List.set_cons_succ, Option.some.injEq, B.isU, B.d, B.rd, exists_eq_left', exists_eq_left, exists_and_left, true_and, and_true, B.p.injEq, DD.D.bl.injEq, DD.D.int.injEq, List.cons.injEq, DD.PC, decide_eq_true_eq, and_assoc, Option.map_some, dLc, iAny, walked, wipeE, gN, dCall, dCallP, dCallF, eqG, neG, Bool.not_true, Bool.not_false, if_true, if_false, Bool.false_eq_true, reduceIte, List.append_nil, dCBK, addG, dM1, gT, gsCons, gsNil, iEnumD, dAsP, iR1, dPart, dNo, dSl, freB, lstD, List.all_cons, List.all_nil, litD, Bool.and_self, dReprPair, dDctN, itemD2, ixG2, keyD, lookD, strG2, dPar, bCons, bNil, dFor, List.zip_cons_cons, List.zip_nil_right, List.foldl_cons, List.foldl_nil, dApp, B.o.injEq, DD.D.lst.injEq, DD.D.tup.injEq, exists_eq', dDct0, B.u.injEq, sizeLine_eq, Nat.reduceLeDiff, Nat.reduceLT, Nat.zero_le, true_implies, slG, List.length_map, tupleG, seqD, listG, iR2, List.length_take, List.length_drop, List.length_append, DD.D.str.injEq, mulG, dAsg, dFld, lookF, dSetF, setF, dProp, dMeth, dMake, dMakeK, cxOf_K, dChain, notNG, isNG, isNon_non, isNon_bl, isNon_int, isNon_str, isNon_lst, isNon_tup, isNon_dct, isNon_ins, isNon_exc, dXv, reprG, DD.D.ins.injEq, DD.D.exc.injEq, cmpIG, neIG, clsD, Option.bind_some, B.s.injEq, if_true, if_false, dNeg, dLenSet, dIndex, dClrE, dAppE, dCallK, eqKG, sortedSG]
    refine ⟨c.f, h.f, he, _, _, c.ss, h.ss, rfl, rfl, rfl, ⟨_, _, rfl⟩, "caller", c.f, _, c.ss, rfl, lr1, hc.h6, rfl, rfl, ?_⟩
    refine ⟨c.f, h.f, he, _, _, c.ss, h.ss, rfl, rfl, rfl, ⟨_, _, rfl⟩, "host", h.f, _, h.ss, rfl, lr2, hh.h6, rfl, rfl, dseq ?_⟩
    simp only [startD, List.map_cons, List.map_nil, List.length_cons, List.length_nil, Nat.reduceAdd, Nat.reduceSub, List.replicate, List.cons_append, List.nil_append, dSet, dIfS, dT, dOp, dCB, dCons, dNil, dV, dM, dC, dp, dNext, dRet, dRetN, dLst, dTup, dDrop, dNot, dAnd, dOr, dAndV, dOrV, dNotV, intG, intG0, lenG, lenD, ixG, itemD, intCG, intOf, maxG, List.getElem?_cons_zero, List.getElem?_cons_succ, List.set_cons_zero, List.set_cons_succ, Option.some.injEq, B.isU, B.d, B.rd, exists_eq_left', exists_eq_left, exists_and_left, true_and, and_true, B.p.injEq, DD.D.bl.injEq, DD.D.int.injEq, List.cons.injEq, DD.PC, decide_eq_true_eq, and_assoc, Option.map_some, dLc, iAny, walked, wipeE, gN, dCall, dCallP, dCallF, eqG, neG, Bool.not_true, Bool.not_false, if_true, if_false, Bool.false_eq_true, reduceIte, List.append_nil, dCBK, addG, dM1, gT, gsCons, gsNil, iEnumD, dAsP, iR1, dPart, dNo, dSl, freB, lstD, List.all_cons, List.all_nil, litD, Bool.and_self, dReprPair, dDctN, itemD2, ixG2, keyD, lookD, strG2, dPar, bCons, bNil, dFor, List.zip_cons_cons, List.zip_nil_right, List.foldl_cons, List.foldl_nil, dApp, B.o.injEq, DD.D.lst.injEq, DD.D.tup.injEq, exists_eq', dDct0, B.u.injEq, sizeLine_eq, Nat.reduceLeDiff, Nat.reduceLT, Nat.zero_le, true_implies, slG, List.length_map, tupleG, seqD, listG, iR2, List.length_take, List.length_drop, List.length_append, DD.D.str.injEq, mulG, dAsg, dFld, lookF, dSetF, setF, dProp, dMeth, dMake, dMakeK, cxOf_K, dChain, notNG, isNG, isNon_non, isNon_bl, isNon_int, isNon_str, isNon_lst, isNon_tup, isNon_dct, isNon_ins, isNon_exc, dXv, reprG, DD.D.ins.injEq, DD.D.exc.injEq, cmpIG, neIG, clsD, Option.bind_some, B.s.injEq, if_true, if_false, dNeg, dLenSet, dIndex, dClrE, dAppE, dCallK, eqKG, sortedSG]
    refine ⟨true, es, iteF ?_⟩
    refine ⟨c.f, h.f, he, _, _, c.ss, h.ss, rfl, rfl, rfl, "caller", c, rfl, hc.hl, hc.h6, rfl, rfl, c.d, rfl, true, part_self hc, iteF ?_⟩
    refine ⟨c.f, h.f, he, _, _, c.ss, h.ss, rfl, rfl, rfl, "host", h, rfl, hh.hl, hh.h6, rfl, rfl, h.d, rfl, true, part_self hh, iteF (dseq ?_)⟩
    simp only [startD, List.map_cons, List.map_nil, List.length_cons, List.length_nil, Nat.reduceAdd, Nat.reduceSub, List.replicate, List.cons_append, List.nil_append, dSet, dIfS, dT, dOp, dCB, dCons, dNil, dV, dM, dC, dp, dNext, dRet, dRetN, dLst, dTup, dDrop, dNot, dAnd, dOr, dAndV, dOrV, dNotV, intG, intG0, lenG, lenD, ixG, itemD, intCG, intOf, maxG, List.getElem?_cons_zero, List.getElem?_cons_succ, List.set_cons_zero, List.set_cons_succ, Option.some.injEq, B.isU, B.d, B.rd, exists_eq_left', exists_eq_left, exists_and_left, true_and, and_true, B.p.injEq, DD.D.bl.injEq, DD.D.int.injEq, List.cons.injEq, DD.PC, decide_eq_true_eq, and_assoc, Option.map_some, dLc, iAny, walked, wipeE, gN, dCall, dCallP, dCallF, eqG, neG, Bool.not_true, Bool.not_false, if_true, if_false, Bool.false_eq_true, reduceIte, List.append_nil, dCBK, addG, dM1, gT, gsCons, gsNil, iEnumD, dAsP, iR1, dPart, dNo, dSl, freB, lstD, List.all_cons, List.all_nil, litD, Bool.and_self, dReprPair, dDctN, itemD2, ixG2, keyD, lookD, strG2, dPar, bCons, bNil, dFor, List.zip_cons_cons, List.zip_nil_right, List.foldl_cons, List.foldl_nil, dApp, B.o.injEq, DD.D.lst.injEq, DD.D.tup.injEq, exists_eq', dDct0, B.u.injEq, sizeLine_eq, Nat.reduceLeDiff, Nat.reduceLT, Nat.zero_le, true_implies, slG, List.length_map, tupleG, seqD, listG, iR2, List.length_take, List.length_drop, List.length_append, DD.D.str.injEq, mulG, dAsg, dFld, lookF, dSetF, setF, dProp, dMeth, dMake, dMakeK, cxOf_K, dChain, notNG, isNG, isNon_non, isNon_bl, isNon_int, isNon_str, isNon_lst, isNon_tup, isNon_dct, isNon_ins, isNon_exc, dXv, reprG, DD.D.ins.injEq, DD.D.exc.injEq, cmpIG, neIG, clsD, Option.bind_some, B.s.injEq, if_true, if_false, dNeg, dLenSet, dIndex, dClrE, dAppE, dCallK, eqKG, sortedSG]
    have ls : (h.ss.map D.str).length < 16777216 := by have := hh.h6; rw [List.length_map]; omega
    have ls2 : h.ss.length < 16777216 := by have := hh.h6; omega
    refine ⟨c.f, h.f, he, _, _, c.ss, h.ss, rfl, rfl, rfl, ⟨_, _, rfl⟩, "caller", c.f, _, c.ss, rfl, lr1, hc.h6, rfl, _, rfl, dseq ?_⟩
    simp only [startD, List.map_cons, List.map_nil, List.length_cons, List.length_nil, Nat.reduceAdd, Nat.reduceSub, List.replicate, List.cons_append, List.nil_append, dSet, dIfS, dT, dOp, dCB, dCons, dNil, dV, dM, dC, dp, dNext, dRet, dRetN, dLst, dTup, dDrop, dNot, dAnd, dOr, dAndV, dOrV, dNotV, intG, intG0, lenG, lenD, ixG, itemD, intCG, intOf, maxG, List.getElem?_cons_zero, List.getElem?_cons_succ, List.set_cons_zero, List.set_cons_succ, Option.some.injEq, B.isU, B.d, B.rd, exists_eq_left', exists_eq_left, exists_and_left, true_and, and_true, B.p.injEq, DD.D.bl.injEq, DD.D.int.injEq, List.cons.injEq, DD.PC, decide_eq_true_eq, and_assoc, Option.map_some, dLc, iAny, walked, wipeE, gN, dCall, dCallP, dCallF, eqG, neG, Bool.not_true, Bool.not_false, if_true, if_false, Bool.false_eq_true, reduceIte, List.append_nil, dCBK, addG, dM1, gT, gsCons, gsNil, iEnumD, dAsP, iR1, dPart, dNo, dSl, freB, lstD, List.all_cons, List.all_nil, litD, Bool.and_self, dReprPair, dDctN, itemD2, ixG2, keyD, lookD, strG2, dPar, bCons, bNil, dFor, List.zip_cons_cons, List.zip_nil_right, List.foldl_cons, List.foldl_nil, dApp, B.o.injEq, DD.D.lst.injEq, DD.D.tup.injEq, exists_eq', dDct0, B.u.injEq, sizeLine_eq, Nat.reduceLeDiff, Nat.reduceLT, Nat.zero_le, true_implies, slG, List.length_map, tupleG, seqD, listG, iR2, List.length_take, List.length_drop, List.length_append, DD.D.str.injEq, mulG, dAsg, dFld, lookF, dSetF, setF, dProp, dMeth, dMake, dMakeK, cxOf_K, dChain, notNG, isNG, isNon_non, isNon_bl, isNon_int, isNon_str, isNon_lst, isNon_tup, isNon_dct, isNon_ins, isNon_exc, dXv, reprG, DD.D.ins.injEq, DD.D.exc.injEq, cmpIG, neIG, clsD, Option.bind_some, B.s.injEq, if_true, if_false, dNeg, dLenSet, dIndex, dClrE, dAppE, dCallK, eqKG, sortedSG]
    refine ⟨c.f, h.f, he, _, _, c.ss, h.ss, rfl, rfl, rfl, ⟨_, _, rfl⟩, "host", h.f, _, h.ss, rfl, lr2, hh.h6, rfl, _, rfl, by first | exact ls | exact ls2, ?_⟩
    refine ⟨c.f, h.f, he, _, _, c.ss, h.ss, rfl, rfl, rfl, "caller", c, rfl, hc.hl, hc.h6, rfl, rfl, c.d, rfl, true, part_self hc, ?_⟩
    exact iteT ⟨c.f, h.f, he, _, _, c.ss, h.ss, rfl, rfl, rfl, "host", h, rfl, hh.hl, hh.h6, rfl, rfl, h.d, rfl, true, part_self hh, 0, q⟩
end
end K

set_option Elab.async false
set_option linter.all false
set_option maxRecDepth 100000
set_option maxHeartbeats 8000000
namespace K
open PySem PySem.Spec PyProof.Rows L2 DD
section
variable {P : Program} {w : World} {K : PySem.W.Frag} {mg : Str → Option Value} {base : Heap}
abbrev s__law_refused : Stmt := topS 45
theorem sc__law_refused : FnScope ["_law_odd", "_law_way", "_law_caught", "error"] ["_law_odd", "_law_way"] (defScope s__law_refused) := ⟨rfl, rfl, rfl, by decide +kernel, rfl, by decide +kernel, by decide +kernel⟩
def spd__law_refused  : Spd := fun bs R _ => ∃ (d : D) (w : Int) (c : PyData), bs = [.p d, .p (.int w)] ∧ dat d = true ∧ okN d = false ∧ toPyR d = some c ∧ Shw c ∧ R (.p (.bl true)) 0
theorem cal__law_refused (Da : DefAt K mg "_law_refused" s__law_refused) {a_Rule a_Role a_Design aN a_EveryPairError : Addr} (cd_stepping : CalD P w K mg base "stepping" 10 ["tries", "refuse"] [.bl true] (spd_stepping a_Design a_Role a_Rule aN)) (ck_stepping : CalK P w K mg base "stepping" 10 1 ["refuse"] (spd_stepping a_Design a_Role a_Rule aN)) (m_EveryPairError : mg "EveryPairError" = some (.ref a_EveryPairError)) (c_InvalidNumber : ConAt K mg "InvalidNumber" (.ref aN)) (m_isinstance : mg "isinstance" = none) (m_repr : mg "repr" = none) (hsy : ∃ o, K.lookup sysModules = some o) (kx : PySem.W.exmOne K (.ref aN) (.ref a_EveryPairError) = some true) (xN : XfE K aN) : Cal P w K mg base "_law_refused" 12 ["_law_odd", "_law_way"] spd__law_refused := by
  refine cal_mk none Da sc__law_refused (fun _ _ _ _ _ _ us hl => match us, hl with | [_, _], _ => rfl) (fun bs R E h => ?_) (fun bs R E h => ?_) fun f cdv A outer s H E W bs R ED gu hr te h fh => ?_
  · obtain ⟨d, w, c, rfl, hd, hn, tc, sh, q⟩ := h
    rfl
  · obtain ⟨d, w, c, rfl, hd, hn, tc, sh, q⟩ := h
    exact pur_none (by simp [B.own])
  · obtain ⟨d, w, c, rfl, hd, hn, tc, sh, q⟩ := h
    have nd := sc__law_refused.nd
    have hu := hr.units
    refine ⟨_, (dss_cons (ds_set (i := 2) nd rfl (by first | exact Or.inl rfl | exact Or.inr rfl) de_non) (dss_cons (ds_try (i := 3) (j := 2) (c := .ref a_EveryPairError) rfl rfl rfl nd rfl rfl rfl rfl ⟨rfl, by decide, .inl m_EveryPairError⟩ (fun _ _ _ _ te => (dss_one (ds_if (dt_cmp (op_eqAll hu) rd_eq (de_v 1) de_int rfl) (dss_one (ds_expr (de_cDX te cd_stepping gu hr (da_cons (de_v 0) da_nil)))) (dss_one (ds_expr (de_cKX te ck_stepping gu hr (da_cons (de_v 0) da_nil) (dk_cons de_bl dk_nil)))))))) (dss_one (ds_ret (de_and (de_callB call_isZ (rc_isa (K := K)) rfl m_isinstance bt_isinstance (da_cons (de_v 2) (da_cons (de_con c_InvalidNumber) da_nil))) (de_one (de_cmp (op_eqAll hu) rd_eq (de_callB (call_repr gu hu hsy) rc_repr rfl m_repr bt_repr (da_cons (de_xv (de_v 2)) da_nil)) (de_callB (call_repr gu hu hsy) rc_repr rfl m_repr bt_repr (da_cons (de_v 0) da_nil)) rfl))))))), ?_⟩
    have rT : ∀ z : Str, eqD (.str z) (.str z) = some true := fun z => eqD_str.trans (by rw [decide_eq_true rfl])
    refine dseq ?_
    simp only [startD, List.map_cons, List.map_nil, List.length_cons, List.length_nil, Nat.reduceAdd, Nat.reduceSub, List.replicate, List.cons_append, List.nil_append, dSet, dIfS, dT, dOp, dCB, dCons, dNil, dV, dM, dC, dp, dNext, dRet, dRetN, dLst, dTup, dDrop, dNot, dAnd, dOr, dAndV, dOrV, dNotV, intG, intG0, lenG, lenD, ixG, itemD, intCG, intOf, maxG, List.getElem?_cons_zero, List.getElem?_cons_succ, List.set_cons_zero, List.set_cons_succ, Option.some.injEq, B.isU, B.d, B.rd, exists_eq_left', exists_eq_left, exists_and_left, true_and, and_true, B.p.injEq, DD.D.bl.injEq, DD.D.int.injEq, List.cons.injEq, DD.PC, decide_eq_true_eq, and_assoc, Option.map_some, dLc, iAny, walked, wipeE, gN, dCall, dCallP, dCallF, eqG, neG, Bool.not_true, Bool.not_false, if_true, if_false, Bool.false_eq_true, reduceIte, List.append_nil, dCBK, addG, dM1, gT, gsCons, gsNil, iEnumD, dAsP, iR1, dPart, dNo, dSl, freB, lstD, List.all_cons, List.all_nil, litD, Bool.and_self, dReprPair, dDctN, itemD2, ixG2, keyD, lookD, strG2, dPar, bCons, bNil, dFor, List.zip_cons_cons, List.zip_nil_right, List.foldl_cons, List.foldl_nil, dApp, B.o.injEq, DD.D.lst.injEq, DD.D.tup.injEq, exists_eq', dDct0, B.u.injEq, sizeLine_eq, Nat.reduceLeDiff, Nat.reduceLT, Nat.zero_le, true_implies, slG, List.length_map, tupleG, seqD, listG, iR2, List.length_take, List.length_drop, List.length_append, DD.D.str.injEq, mulG, dAsg, dFld, lookF, dSetF, setF, dProp, dMeth, dMake, dMakeK, cxOf_K, dChain, notNG, isNG, isNon_non, isNon_bl, isNon_int, isNon_str, isNon_lst, isNon_tup, isNon_dct, isNon_ins, isNon_exc, dXv, reprG, DD.D.ins.injEq, DD.D.exc.injEq, cmpIG, neIG, clsD, Option.bind_some, B.s.injEq, if_true, if_false, dNeg, dLenSet, dIndex, dClrE, dAppE, dCallK, eqKG, sortedSG, dTry, eKeep]
    refine dseq ?_
    simp only [startD, List.map_cons, List.map_nil, List.length_cons, List.length_nil, Nat.reduceAdd, Nat.reduceSub, List.replicate, List.cons_append, List.nil_append, dSet, dIfS, dT, dOp, dCB, dCons, dNil, dV, dM, dC, dp, dNext, dRet, dRetN, dLst, dTup, dDrop, dNot, dAnd, dOr, dAndV, dOrV, dNotV, intG, intG0, lenG, lenD, ixG, itemD, intCG, intOf, maxG, List.getElem?_cons_zero, List.getElem?_cons_succ, List.set_cons_zero, List.set_cons_succ, Option.some.injEq, B.isU, B.d, B.rd, exists_eq_left', exists_eq_left, exists_and_left, true_and, and_true, B.p.injEq, DD.D.bl.injEq, DD.D.int.injEq, List.cons.injEq, DD.PC, decide_eq_true_eq, and_assoc, Option.map_some, dLc, iAny, walked, wipeE, gN, dCall, dCallP, dCallF, eqG, neG, Bool.not_true, Bool.not_false, if_true, if_false, Bool.false_eq_true, reduceIte, List.append_nil, dCBK, addG, dM1, gT, gsCons, gsNil, iEnumD, dAsP, iR1, dPart, dNo, dSl, freB, lstD, List.all_cons, List.all_nil, litD, Bool.and_self, dReprPair, dDctN, itemD2, ixG2, keyD, lookD, strG2, dPar, bCons, bNil, dFor, List.zip_cons_cons, List.zip_nil_right, List.foldl_cons, List.foldl_nil, dApp, B.o.injEq, DD.D.lst.injEq, DD.D.tup.injEq, exists_eq', dDct0, B.u.injEq, sizeLine_eq, Nat.reduceLeDiff, Nat.reduceLT, Nat.zero_le, true_implies, slG, List.length_map, tupleG, seqD, listG, iR2, List.length_take, List.length_drop, List.length_append, DD.D.str.injEq, mulG, dAsg, dFld, lookF, dSetF, setF, dProp, dMeth, dMake, dMakeK, cxOf_K, dChain, notNG, isNG, isNon_non, isNon_bl, isNon_int, isNon_str, isNon_lst, isNon_tup, isNon_dct, isNon_ins, isNon_exc, dXv, reprG, DD.D.ins.injEq, DD.D.exc.injEq, cmpIG, neIG, clsD, Option.bind_some, B.s.injEq, if_true, if_false, dNeg, dLenSet, dIndex, dClrE, dAppE, dCallK, eqKG, sortedSG, dTry, eKeep, eqD_int]
    refine ite2 (fun _ => ?_) fun _ => ?_
    · exact ⟨d, true, rfl, hd, .inr ⟨hn, d, rfl, kx, (isa_exc xN kitOne_self).mpr ⟨true, rfl, iteT ⟨xN, c, tc, sh, c, tc, sh, true, rT _, 0, q⟩⟩⟩⟩
    · exact ⟨d, false, rfl, hd, .inr ⟨hn, d, rfl, kx, (isa_exc xN kitOne_self).mpr ⟨true, rfl, iteT ⟨xN, c, tc, sh, c, tc, sh, true, rT _, 0, q⟩⟩⟩⟩
end
end K

set_option Elab.async false
set_option linter.all false
set_option maxRecDepth 100000
set_option maxHeartbeats 8000000
namespace K
open PySem PySem.Spec PyProof.Rows L2 DD
section
variable {P : Program} {w : World} {K : PySem.W.Frag} {mg : Str → Option Value} {base : Heap}

theorem des_eq {aDe aRo aR : Addr} {n : Nat} {rf : Bool} : desT aDe aRo aR (callT n rf) (hostT rf) "offer" = stepDes aDe aRo aR n rf := by
  show desD aDe aRo "a" ((rowsT n rf).map (RowT.r aR)) ["sure"] "idle" ((ansT rf).map (RowT.r aR)) ["sure"] "offer" = _
  rw [rowsT_r, ansT_r]
  rfl
theorem sure_ok : ∀ s ∈ (["sure"] : List Str), isNm (.str s) = true ∧ Dat (.str s) := fun x hx => by
  rw [List.mem_singleton.mp hx]
  exact ⟨by decide +kernel, dat_of (by decide +kernel)⟩
theorem call_ok {n : Nat} {rf : Bool} (h1 : 1 ≤ n) (h4 : n ≤ 4) : (callT n rf).Ok "caller" where
  h1 := by decide
  h2 := (by decide +kernel : isNm (.str "a") = true)
  h3 := dat_of (by decide +kernel : datB (.str "a") = true)
  h0 := by
    show rowsT n rf ≠ []
    unfold rowsT
    simp
  hl := by
    show (rowsT n rf).length ≤ 1000
    have := rowsTo_len (n := n) (rf := rf) n
    unfold rowsT
    rw [List.length_append, List.length_singleton]
    omega
  h4 := by
    show (rowsT n rf).all (·.ok "caller") = true
    match n, h1, h4 with
    | 1, _, _ => cases rf <;> decide +kernel
    | 2, _, _ => cases rf <;> decide +kernel
    | 3, _, _ => cases rf <;> decide +kernel
    | 4, _, _ => cases rf <;> decide +kernel
  h6 := Nat.le_refl _
  h7 := sure_ok
  h8 := by
    show ¬ ("a" : Str) ∈ (["sure"] : List Str)
    decide
theorem host_ok {rf : Bool} : (hostT rf).Ok "host" where
  h1 := by decide
  h2 := (by decide +kernel : isNm (.str "idle") = true)
  h3 := dat_of (by decide +kernel : datB (.str "idle") = true)
  h0 := by
    show ansT rf ≠ []
    unfold ansT
    simp
  hl := by
    show (ansT rf).length ≤ 1000
    cases rf <;> decide
  h4 := by
    show (ansT rf).all (·.ok "host") = true
    cases rf <;> decide +kernel
  h6 := Nat.le_refl _
  h7 := sure_ok
  h8 := by
    show ¬ ("idle" : Str) ∈ (["sure"] : List Str)
    decide
theorem off_ok : isNm (.str "offer") = true ∧ Dat (.str "offer") := ⟨by decide +kernel, dat_of (by decide +kernel)⟩
/-- stepping(n, refuse = rf) -/
theorem stepG {aDe aRo aR aN : Addr} {n : Nat} {rf : Bool} {R : B → Nat → Prop} {E : Addr → List DD.D → Nat → Prop} (h1 : 1 ≤ n) (h4 : n ≤ 4) (q : R (.o (desT aDe aRo aR (callT n rf) (hostT rf) "offer")) 0) : spd_stepping aDe aRo aR aN [.p (.int n), .p (.bl rf)] R E :=
  ⟨.int n, rf, rfl, rfl, .inl ⟨n, rfl, h1, h4, by rw [← des_eq]; exact q⟩⟩


/-- designs of the two kinds differ -/
theorem tab_ne {aR : Addr} {A B C : D} {r1 r2 : List D} (hp1 : pureL (A :: B :: r1) = true) (hp2 : pureL (A :: C :: r2) = true) (h1 : rIns aR (rRule aR) A A true) (h2 : rIns aR (rRule aR) B C false) : rTab aR (.tup (A :: B :: r1)) (.tup (A :: C :: r2)) false :=
  ⟨_, _, rfl, rfl, hp1, hp2, true, h1, by rw [if_pos rfl]; exact ⟨false, h2, by rw [if_neg Bool.false_ne_true]⟩⟩
theorem row_ne {aR : Addr} {r s : RowT} {sd : Str} (hr : r.ok sd = true) (hs : s.ok sd = true) (h : eqD r.d s.d = some false) : rIns aR (rRule aR) (r.r aR) (s.r aR) false :=
  ⟨⟨_, _, rfl⟩, ⟨_, _, rfl⟩, _, _, rfl, rfl, pureL_of fun d hd => (RowT.b hr d hd).1, pureL_of fun d hd => (RowT.b hs d hd).1, h⟩
theorem rows_ne {n : Nat} {rf : Bool} (h1 : 1 ≤ n) (h4 : n ≤ 4) : ∃ (a b c : RowT) (r1 r2 : List RowT), rowsT n (!rf) = a :: b :: r1 ∧ rowsT n rf = a :: c :: r2 ∧ eqD b.d c.d = some false := by
  match n, h1, h4 with
  | 1, _, _ => cases rf <;> exact ⟨_, _, _, _, _, rfl, rfl, by decide +kernel⟩
  | 2, _, _ => cases rf <;> exact ⟨_, _, _, _, _, rfl, rfl, by decide +kernel⟩
  | 3, _, _ => cases rf <;> exact ⟨_, _, _, _, _, rfl, rfl, by decide +kernel⟩
  | 4, _, _ => cases rf <;> exact ⟨_, _, _, _, _, rfl, rfl, by decide +kernel⟩
theorem rol_ne {aRo aR : Addr} {n : Nat} {rf : Bool} (h1 : 1 ≤ n) (h4 : n ≤ 4) : rRol aRo aR (.tup [(callT n (!rf)).r aRo aR "caller", (hostT (!rf)).r aRo aR "host"]) (.tup [(callT n rf).r aRo aR "caller", (hostT rf).r aRo aR "host"]) false := by
  have o1 := call_ok (rf := !rf) h1 h4
  have o2 := call_ok (rf := rf) h1 h4
  have pp : ∀ rf : Bool, pureL [(callT n rf).r aRo aR "caller", (hostT rf).r aRo aR "host"] = true := fun rf => pureL_of fun d hd => by
    simp only [List.mem_cons, List.not_mem_nil, or_false] at hd
    rcases hd with rfl | rfl
    · exact pure_role (call_ok h1 h4).pr
    · exact pure_role host_ok.pr
  obtain ⟨a, b, c, r1, r2, e1, e2, hne⟩ := rows_ne (rf := rf) h1 h4
  have q1 : (callT n (!rf)).rs = a :: b :: r1 := e1
  have q2 : (callT n rf).rs = a :: c :: r2 := e2
  have k1 := o1.h4
  have k2 := o2.h4
  rw [q1] at k1
  rw [q2] at k2
  have m1 := List.all_eq_true.mp k1
  have m2 := List.all_eq_true.mp k2
  have t : rTab aR (.tup ((callT n (!rf)).rs.map (RowT.r aR))) (.tup ((callT n rf).rs.map (RowT.r aR))) false := by
    have p1 := o1.pr (aR := aR)
    have p2 := o2.pr (aR := aR)
    rw [q1] at p1 ⊢
    rw [q2] at p2 ⊢
    exact tab_ne p1 p2 (row_self (m1 a List.mem_cons_self)) (row_ne (m1 b (by simp)) (m2 c (by simp)) hne)
  have ee : eqD (.tup [.str "caller", .str "a"]) (.tup [.str "caller", .str "a"]) = some true := by decide +kernel
  have ec : eqD (.tup ((["sure"] : List Str).map D.str)) (.tup ((["sure"] : List Str).map D.str)) = some true := by decide +kernel
  exact ⟨_, _, rfl, rfl, pp _, pp _, false, ⟨⟨_, _, rfl⟩, ⟨_, _, rfl⟩, _, _, _, _, _, _, _, _, true, false, true, rfl, rfl, ee, t, ec, rfl⟩, by rw [if_neg Bool.false_ne_true]⟩

end
end K

set_option Elab.async false
set_option linter.all false
set_option maxRecDepth 100000
set_option maxHeartbeats 8000000
namespace K
open PySem PySem.Spec PyProof.Rows L2 DD
section
variable {P : Program} {w : World} {K : PySem.W.Frag} {mg : Str → Option Value} {base : Heap}
abbrev s_law : Stmt := topS 46
theorem sc_law : FnScope ["_law_script", "_law_purse_here", "_law_turn", "_law_tries", "_law_refusing", "_law_due_here", "_law_far", "_law_odd"] ["_law_script"] (defScope s_law) := ⟨rfl, rfl, rfl, by decide +kernel, rfl, by decide +kernel, by decide +kernel⟩
def spd_law  : Spd := fun bs R _ => ∃ ns : List Int, bs = [.p (.scr ns)] ∧ R (.p (.bl true)) 0
theorem cal_law (Da : DefAt K mg "law" s_law) {a_Rule a_Role a_Design aN : Addr} (c__law_purse : Cal P w K mg base "_law_purse" 1 ["_law_script", "_law_at"] spdPurse) (c__law_draw : Cal P w K mg base "_law_draw" 1 ["_law_purse_here", "_law_many"] spdDraw) (cd_stepping : CalD P w K mg base "stepping" 10 ["tries", "refuse"] [.bl true] (spd_stepping a_Design a_Role a_Rule aN)) (ck_stepping : CalK P w K mg base "stepping" 10 1 ["refuse"] (spd_stepping a_Design a_Role a_Rule aN)) (c__law_due : Cal P w K mg base "_law_due" 1 ["_law_tries", "_law_refusing"] spd__law_due) (c__law_right : Cal P w K mg base "_law_right" 10 ["_law_design", "_law_due_here"] (spd__law_right a_Design a_Role a_Rule)) (c__law_made : Cal P w K mg base "_law_made" 9 ["_law_design"] (spd__law_made a_Design a_Role a_Rule)) (c__law_refused : Cal P w K mg base "_law_refused" 12 ["_law_odd", "_law_way"] spd__law_refused) (eq_Design : CmpC P w K mg base a_Design "__eq__" 5 (spd_Design___eq__ a_Design a_Role a_Rule)) (ne_Design : NeC K a_Design) (io : InsOk K a_Design) (m_range : mg "range" = none) (m_int : mg "int" = none) : Cal P w K mg base "law" 14 ["_law_script"] spd_law := by
  refine cal_mk none Da sc_law (fun _ _ _ _ _ _ us hl => match us, hl with | [_], _ => rfl) (fun bs R E h => ?_) (fun bs R E h => ?_) fun f cdv A outer s H E W bs R ED gu hr te h fh => ?_
  · obtain ⟨ns, rfl, q⟩ := h
    rfl
  · obtain ⟨ns, rfl, q⟩ := h
    exact pur_none (by simp [B.own])
  · obtain ⟨ns, rfl, q⟩ := h
    have nd := sc_law.nd
    have hu := hr.units
    have ps := passes_of (X := cxOf (L2.CX P w) P w K mg base ["_law_script", "_law_purse_here", "_law_turn", "_law_tries", "_law_refusing", "_law_due_here", "_law_far", "_law_odd"] "law" (defScope s_law) f cdv A outer s H E) rfl
    refine ⟨_, (dss_cons (ds_set (i := 1) nd rfl (by first | exact Or.inl rfl | exact Or.inr rfl) (de_asPurse (de_c c__law_purse gu hr (da_cons (de_v 0) (da_cons de_int da_nil))))) (dss_cons (ds_forR ps rfl (di_range1 rfl m_range (da_cons de_int da_nil)) (dg_name (i := 2) nd rfl (by first | exact Or.inl rfl | exact Or.inr rfl)) (dss_cons (ds_set (i := 3) nd rfl (by first | exact Or.inl rfl | exact Or.inr rfl) (de_op op_addAll rd_add de_int (de_op op_mod rd_intI (de_callTy call_int1 rc_int rfl m_int bt_int (da_cons (de_op op_addAll rd_add (de_v 2) (de_cP c__law_draw gu hr (i := 1) rfl (da_cons de_int da_nil))) da_nil)) de_int))) (dss_cons (ds_for te ps rfl (di_any (de_lst (da_cons de_bl (da_cons de_bl (da_cons de_bl da_nil))))) (fun _ => (dg_name (i := 4) nd rfl (by first | exact Or.inl rfl | exact Or.inr rfl))) (fun _ te => (dss_cons (ds_set (i := 5) nd rfl (by first | exact Or.inl rfl | exact Or.inr rfl) (de_c c__law_due gu hr (da_cons (de_v 3) (da_cons (de_v 4) da_nil)))) (dss_cons (ds_if (dt_not (dt_val (he := fun _ => rfl) (de_c c__law_right gu hr (da_cons (de_cK ck_stepping gu hr (da_cons (de_v 3) da_nil) (dk_cons (de_v 4) dk_nil)) (da_cons (de_v 5) da_nil))))) (dss_one (ds_ret de_bl)) dss_nil) (dss_one (ds_if (dt_eqI eq_Design gu hr (de_cK ck_stepping gu hr (da_cons (de_v 3) da_nil) (dk_cons (de_not (de_v 4)) dk_nil)) (de_c c__law_made gu hr (da_cons (de_v 5) da_nil))) (dss_one (ds_ret de_bl)) dss_nil)))))) (dss_one (ds_if (DW.dt (dw_or (dt_neI eq_Design ne_Design gu hr (de_cD cd_stepping gu hr (da_cons (de_v 3) da_nil)) (de_cK ck_stepping gu hr (da_cons (de_v 3) da_nil) (dk_cons de_bl dk_nil))) (dw_or1 (dt_not (dt_val (he := fun _ => rfl) (de_c c__law_right gu hr (da_cons (de_cD cd_stepping gu hr (da_cons (de_v 3) da_nil)) (da_cons (de_c c__law_due gu hr (da_cons (de_v 3) (da_cons de_bl da_nil))) da_nil)))))))) (dss_one (ds_ret de_bl)) dss_nil))))) (dss_cons (ds_set (i := 6) nd rfl (by first | exact Or.inl rfl | exact Or.inr rfl) (de_op op_addAll rd_add de_int (de_cP c__law_draw gu hr (i := 1) rfl (da_cons (de_op op_powW rd_intI de_int de_int) da_nil)))) (dss_cons (ds_for te ps rfl (di_any (de_lst (da_cons de_int (da_cons de_int (da_cons (de_v 6) (da_cons (de_op op_sub rd_intI0 de_int (de_v 6)) (da_cons (de_neg de_int) (da_cons de_bl (da_cons de_bl (da_cons de_non (da_cons de_str (da_cons (de_lst (da_cons de_int da_nil)) (da_cons (de_tup (da_cons de_int da_nil)) (da_cons de_dct0 (da_cons de_str da_nil))))))))))))))) (fun _ => (dg_name (i := 7) nd rfl (by first | exact Or.inl rfl | exact Or.inr rfl))) (fun _ te => (dss_one (ds_if (DW.dt (dw_or (dt_not (dt_val (he := fun _ => rfl) (de_c c__law_refused gu hr (da_cons (de_v 7) (da_cons de_int da_nil))))) (dw_or1 (dt_not (dt_val (he := fun _ => rfl) (de_c c__law_refused gu hr (da_cons (de_v 7) (da_cons de_int da_nil)))))))) (dss_one (ds_ret de_bl)) dss_nil)))) (dss_one (ds_ret de_bl)))))), ?_⟩
    have big : (1000000 : Int) < 10 ^ 2000 := by decide +kernel
    refine dseq ?_
    simp only [startD, List.map_cons, List.map_nil, List.length_cons, List.length_nil, Nat.reduceAdd, Nat.reduceSub, List.replicate, List.cons_append, List.nil_append, dSet, dIfS, dT, dOp, dCB, dCons, dNil, dV, dM, dC, dp, dNext, dRet, dRetN, dLst, dTup, dDrop, dNot, dAnd, dOr, dAndV, dOrV, dNotV, intG, intG0, lenG, lenD, ixG, itemD, intCG, intOf, maxG, List.getElem?_cons_zero, List.getElem?_cons_succ, List.set_cons_zero, List.set_cons_succ, Option.some.injEq, B.isU, B.d, B.rd, exists_eq_left', exists_eq_left, exists_and_left, true_and, and_true, B.p.injEq, DD.D.bl.injEq, DD.D.int.injEq, List.cons.injEq, DD.PC, decide_eq_true_eq, and_assoc, Option.map_some, dLc, iAny, walked, wipeE, gN, dCall, dCallP, dCallF, eqG, neG, Bool.not_true, Bool.not_false, if_true, if_false, Bool.false_eq_true, reduceIte, List.append_nil, dCBK, addG, dM1, gT, gsCons, gsNil, iEnumD, dAsP, iR1, dPart, dNo, dSl, freB, lstD, List.all_cons, List.all_nil, litD, Bool.and_self, dReprPair, dDctN, itemD2, ixG2, keyD, lookD, strG2, dPar, bCons, bNil, dFor, List.zip_cons_cons, List.zip_nil_right, List.foldl_cons, List.foldl_nil, dApp, B.o.injEq, DD.D.lst.injEq, DD.D.tup.injEq, exists_eq', dDct0, B.u.injEq, sizeLine_eq, Nat.reduceLeDiff, Nat.reduceLT, Nat.zero_le, true_implies, slG, List.length_map, tupleG, seqD, listG, iR2, List.length_take, List.length_drop, List.length_append, DD.D.str.injEq, mulG, dAsg, dFld, lookF, dSetF, setF, dProp, dMeth, dMake, dMakeK, cxOf_K, dChain, notNG, isNG, isNon_non, isNon_bl, isNon_int, isNon_str, isNon_lst, isNon_tup, isNon_dct, isNon_ins, isNon_exc, dXv, reprG, DD.D.ins.injEq, DD.D.exc.injEq, cmpIG, neIG, clsD, Option.bind_some, B.s.injEq, if_true, if_false, dNeg, dLenSet, dIndex, dClrE, dAppE, dCallK, eqKG, sortedSG]
    refine ⟨ns, 0, rfl, fun x y a1 a2 a3 a4 => ⟨rfl, x, y, 0, rfl, 0, ⟨a1, a2, a3, a4, by decide, by decide⟩, dseq ?_⟩⟩
    simp only [startD, List.map_cons, List.map_nil, List.length_cons, List.length_nil, Nat.reduceAdd, Nat.reduceSub, List.replicate, List.cons_append, List.nil_append, dSet, dIfS, dT, dOp, dCB, dCons, dNil, dV, dM, dC, dp, dNext, dRet, dRetN, dLst, dTup, dDrop, dNot, dAnd, dOr, dAndV, dOrV, dNotV, intG, intG0, lenG, lenD, ixG, itemD, intCG, intOf, maxG, List.getElem?_cons_zero, List.getElem?_cons_succ, List.set_cons_zero, List.set_cons_succ, Option.some.injEq, B.isU, B.d, B.rd, exists_eq_left', exists_eq_left, exists_and_left, true_and, and_true, B.p.injEq, DD.D.bl.injEq, DD.D.int.injEq, List.cons.injEq, DD.PC, decide_eq_true_eq, and_assoc, Option.map_some, dLc, iAny, walked, wipeE, gN, dCall, dCallP, dCallF, eqG, neG, Bool.not_true, Bool.not_false, if_true, if_false, Bool.false_eq_true, reduceIte, List.append_nil, dCBK, addG, dM1, gT, gsCons, gsNil, iEnumD, dAsP, iR1, dPart, dNo, dSl, freB, lstD, List.all_cons, List.all_nil, litD, Bool.and_self, dReprPair, dDctN, itemD2, ixG2, keyD, lookD, strG2, dPar, bCons, bNil, dFor, List.zip_cons_cons, List.zip_nil_right, List.foldl_cons, List.foldl_nil, dApp, B.o.injEq, DD.D.lst.injEq, DD.D.tup.injEq, exists_eq', dDct0, B.u.injEq, sizeLine_eq, Nat.reduceLeDiff, Nat.reduceLT, Nat.zero_le, true_implies, slG, List.length_map, tupleG, seqD, listG, iR2, List.length_take, List.length_drop, List.length_append, DD.D.str.injEq, mulG, dAsg, dFld, lookF, dSetF, setF, dProp, dMeth, dMake, dMakeK, cxOf_K, dChain, notNG, isNG, isNon_non, isNon_bl, isNon_int, isNon_str, isNon_lst, isNon_tup, isNon_dct, isNon_ins, isNon_exc, dXv, reprG, DD.D.ins.injEq, DD.D.exc.injEq, cmpIG, neIG, clsD, Option.bind_some, B.s.injEq, if_true, if_false, dNeg, dLenSet, dIndex, dClrE, dAppE, dCallK, eqKG, sortedSG]
    refine ⟨by decide, by decide, ?_⟩
    refine forL_pre (fun p δ => p.length ≤ 4 ∧ ∃ x2 x3 x4 x5 x6 x7, δ = [some (.p (.scr ns)), some (.u false p.length), x2, x3, x4, x5, x6, x7]) (pre := []) (fun p d r δ e hI N hN => ?_) (fun δ hI => ?_) ⟨Nat.zero_le _, _, _, _, _, _, _, rfl⟩
    · obtain ⟨hp, x2, x3, x4, x5, x6, x7, rfl⟩ := hI
      have hl := congrArg List.length e
      rw [List.nil_append, List.length_append, List.length_cons, upto_len] at hl
      have hl : 4 = p.length + (r.length + 1) := hl
      have hdm : d ∈ upto 0 (Int.toNat 4) := by
        rw [List.nil_append] at e
        rw [e]
        simp
      obtain ⟨j, hj, rfl⟩ := List.mem_map.mp (show d ∈ (List.range _).map _ from hdm)
      refine dseq ?_
      simp only [startD, List.map_cons, List.map_nil, List.length_cons, List.length_nil, Nat.reduceAdd, Nat.reduceSub, List.replicate, List.cons_append, List.nil_append, dSet, dIfS, dT, dOp, dCB, dCons, dNil, dV, dM, dC, dp, dNext, dRet, dRetN, dLst, dTup, dDrop, dNot, dAnd, dOr, dAndV, dOrV, dNotV, intG, intG0, lenG, lenD, ixG, itemD, intCG, intOf, maxG, List.getElem?_cons_zero, List.getElem?_cons_succ, List.set_cons_zero, List.set_cons_succ, Option.some.injEq, B.isU, B.d, B.rd, exists_eq_left', exists_eq_left, exists_and_left, true_and, and_true, B.p.injEq, DD.D.bl.injEq, DD.D.int.injEq, List.cons.injEq, DD.PC, decide_eq_true_eq, and_assoc, Option.map_some, dLc, iAny, walked, wipeE, gN, dCall, dCallP, dCallF, eqG, neG, Bool.not_true, Bool.not_false, if_true, if_false, Bool.false_eq_true, reduceIte, List.append_nil, dCBK, addG, dM1, gT, gsCons, gsNil, iEnumD, dAsP, iR1, dPart, dNo, dSl, freB, lstD, List.all_cons, List.all_nil, litD, Bool.and_self, dReprPair, dDctN, itemD2, ixG2, keyD, lookD, strG2, dPar, bCons, bNil, dFor, List.zip_cons_cons, List.zip_nil_right, List.foldl_cons, List.foldl_nil, dApp, B.o.injEq, DD.D.lst.injEq, DD.D.tup.injEq, exists_eq', dDct0, B.u.injEq, sizeLine_eq, Nat.reduceLeDiff, Nat.reduceLT, Nat.zero_le, true_implies, slG, List.length_map, tupleG, seqD, listG, iR2, List.length_take, List.length_drop, List.length_append, DD.D.str.injEq, mulG, dAsg, dFld, lookF, dSetF, setF, dProp, dMeth, dMake, dMakeK, cxOf_K, dChain, notNG, isNG, isNon_non, isNon_bl, isNon_int, isNon_str, isNon_lst, isNon_tup, isNon_dct, isNon_ins, isNon_exc, dXv, reprG, DD.D.ins.injEq, DD.D.exc.injEq, cmpIG, neIG, clsD, Option.bind_some, B.s.injEq, if_true, if_false, dNeg, dLenSet, dIndex, dClrE, dAppE, dCallK, eqKG, sortedSG]
      refine ⟨p.length, _, rfl, by decide, by omega, by omega, fun g g0 g1 => ?_⟩
      simp only [startD, List.map_cons, List.map_nil, List.length_cons, List.length_nil, Nat.reduceAdd, Nat.reduceSub, List.replicate, List.cons_append, List.nil_append, dSet, dIfS, dT, dOp, dCB, dCons, dNil, dV, dM, dC, dp, dNext, dRet, dRetN, dLst, dTup, dDrop, dNot, dAnd, dOr, dAndV, dOrV, dNotV, intG, intG0, lenG, lenD, ixG, itemD, intCG, intOf, maxG, List.getElem?_cons_zero, List.getElem?_cons_succ, List.set_cons_zero, List.set_cons_succ, Option.some.injEq, B.isU, B.d, B.rd, exists_eq_left', exists_eq_left, exists_and_left, true_and, and_true, B.p.injEq, DD.D.bl.injEq, DD.D.int.injEq, List.cons.injEq, DD.PC, decide_eq_true_eq, and_assoc, Option.map_some, dLc, iAny, walked, wipeE, gN, dCall, dCallP, dCallF, eqG, neG, Bool.not_true, Bool.not_false, if_true, if_false, Bool.false_eq_true, reduceIte, List.append_nil, dCBK, addG, dM1, gT, gsCons, gsNil, iEnumD, dAsP, iR1, dPart, dNo, dSl, freB, lstD, List.all_cons, List.all_nil, litD, Bool.and_self, dReprPair, dDctN, itemD2, ixG2, keyD, lookD, strG2, dPar, bCons, bNil, dFor, List.zip_cons_cons, List.zip_nil_right, List.foldl_cons, List.foldl_nil, dApp, B.o.injEq, DD.D.lst.injEq, DD.D.tup.injEq, exists_eq', dDct0, B.u.injEq, sizeLine_eq, Nat.reduceLeDiff, Nat.reduceLT, Nat.zero_le, true_implies, slG, List.length_map, tupleG, seqD, listG, iR2, List.length_take, List.length_drop, List.length_append, DD.D.str.injEq, mulG, dAsg, dFld, lookF, dSetF, setF, dProp, dMeth, dMake, dMakeK, cxOf_K, dChain, notNG, isNG, isNon_non, isNon_bl, isNon_int, isNon_str, isNon_lst, isNon_tup, isNon_dct, isNon_ins, isNon_exc, dXv, reprG, DD.D.ins.injEq, DD.D.exc.injEq, cmpIG, neIG, clsD, Option.bind_some, B.s.injEq, if_true, if_false, dNeg, dLenSet, dIndex, dClrE, dAppE, dCallK, eqKG, sortedSG, Int.zero_add]
      obtain ⟨n, hn, h1, h4⟩ : ∃ n : Nat, 1 + ((j : Int) + g) % 4 = (n : Int) ∧ 1 ≤ n ∧ n ≤ 4 := ⟨(1 + ((j : Int) + g) % 4).toNat, by omega, by omega, by omega⟩
      rw [hn]
      refine ⟨by decide, dseq ?_⟩
      simp only [startD, List.map_cons, List.map_nil, List.length_cons, List.length_nil, Nat.reduceAdd, Nat.reduceSub, List.replicate, List.cons_append, List.nil_append, dSet, dIfS, dT, dOp, dCB, dCons, dNil, dV, dM, dC, dp, dNext, dRet, dRetN, dLst, dTup, dDrop, dNot, dAnd, dOr, dAndV, dOrV, dNotV, intG, intG0, lenG, lenD, ixG, itemD, intCG, intOf, maxG, List.getElem?_cons_zero, List.getElem?_cons_succ, List.set_cons_zero, List.set_cons_succ, Option.some.injEq, B.isU, B.d, B.rd, exists_eq_left', exists_eq_left, exists_and_left, true_and, and_true, B.p.injEq, DD.D.bl.injEq, DD.D.int.injEq, List.cons.injEq, DD.PC, decide_eq_true_eq, and_assoc, Option.map_some, dLc, iAny, walked, wipeE, gN, dCall, dCallP, dCallF, eqG, neG, Bool.not_true, Bool.not_false, if_true, if_false, Bool.false_eq_true, reduceIte, List.append_nil, dCBK, addG, dM1, gT, gsCons, gsNil, iEnumD, dAsP, iR1, dPart, dNo, dSl, freB, lstD, List.all_cons, List.all_nil, litD, Bool.and_self, dReprPair, dDctN, itemD2, ixG2, keyD, lookD, strG2, dPar, bCons, bNil, dFor, List.zip_cons_cons, List.zip_nil_right, List.foldl_cons, List.foldl_nil, dApp, B.o.injEq, DD.D.lst.injEq, DD.D.tup.injEq, exists_eq', dDct0, B.u.injEq, sizeLine_eq, Nat.reduceLeDiff, Nat.reduceLT, Nat.zero_le, true_implies, slG, List.length_map, tupleG, seqD, listG, iR2, List.length_take, List.length_drop, List.length_append, DD.D.str.injEq, mulG, dAsg, dFld, lookF, dSetF, setF, dProp, dMeth, dMake, dMakeK, cxOf_K, dChain, notNG, isNG, isNon_non, isNon_bl, isNon_int, isNon_str, isNon_lst, isNon_tup, isNon_dct, isNon_ins, isNon_exc, dXv, reprG, DD.D.ins.injEq, DD.D.exc.injEq, cmpIG, neIG, clsD, Option.bind_some, B.s.injEq, if_true, if_false, dNeg, dLenSet, dIndex, dClrE, dAppE, dCallK, eqKG, sortedSG]
      refine forL_inv (fun δ => ∃ x4 x5, δ = [some (.p (.scr ns)), some (.u false (p.length + 1)), some (.p (.int j)), some (.p (.int n)), x4, x5, x6, x7]) (fun d hd δ hI M hM => ?_) (fun δ hI => ?_) ⟨_, _, rfl⟩
      · obtain ⟨x4, x5, rfl⟩ := hI
        obtain ⟨rf, rfl⟩ : ∃ rf : Bool, d = .bl rf := by
          simp only [List.mem_cons, List.not_mem_nil, or_false] at hd
          rcases hd with rfl | rfl | rfl <;> exact ⟨_, rfl⟩
        refine dseq ?_
        simp only [startD, List.map_cons, List.map_nil, List.length_cons, List.length_nil, Nat.reduceAdd, Nat.reduceSub, List.replicate, List.cons_append, List.nil_append, dSet, dIfS, dT, dOp, dCB, dCons, dNil, dV, dM, dC, dp, dNext, dRet, dRetN, dLst, dTup, dDrop, dNot, dAnd, dOr, dAndV, dOrV, dNotV, intG, intG0, lenG, lenD, ixG, itemD, intCG, intOf, maxG, List.getElem?_cons_zero, List.getElem?_cons_succ, List.set_cons_zero, List.set_cons_succ, Option.some.injEq, B.isU, B.d, B.rd, exists_eq_left', exists_eq_left, exists_and_left, true_and, and_true, B.p.injEq, DD.D.bl.injEq, DD.D.int.injEq, List.cons.injEq, DD.PC, decide_eq_true_eq, and_assoc, Option.map_some, dLc, iAny, walked, wipeE, gN, dCall, dCallP, dCallF, eqG, neG, Bool.not_true, Bool.not_false, if_true, if_false, Bool.false_eq_true, reduceIte, List.append_nil, dCBK, addG, dM1, gT, gsCons, gsNil, iEnumD, dAsP, iR1, dPart, dNo, dSl, freB, lstD, List.all_cons, List.all_nil, litD, Bool.and_self, dReprPair, dDctN, itemD2, ixG2, keyD, lookD, strG2, dPar, bCons, bNil, dFor, List.zip_cons_cons, List.zip_nil_right, List.foldl_cons, List.foldl_nil, dApp, B.o.injEq, DD.D.lst.injEq, DD.D.tup.injEq, exists_eq', dDct0, B.u.injEq, sizeLine_eq, Nat.reduceLeDiff, Nat.reduceLT, Nat.zero_le, true_implies, slG, List.length_map, tupleG, seqD, listG, iR2, List.length_take, List.length_drop, List.length_append, DD.D.str.injEq, mulG, dAsg, dFld, lookF, dSetF, setF, dProp, dMeth, dMake, dMakeK, cxOf_K, dChain, notNG, isNG, isNon_non, isNon_bl, isNon_int, isNon_str, isNon_lst, isNon_tup, isNon_dct, isNon_ins, isNon_exc, dXv, reprG, DD.D.ins.injEq, DD.D.exc.injEq, cmpIG, neIG, clsD, Option.bind_some, B.s.injEq, if_true, if_false, dNeg, dLenSet, dIndex, dClrE, dAppE, dCallK, eqKG, sortedSG]
        refine ⟨n, rf, rfl, h1, h4, rfl, dseq ?_⟩
        simp only [startD, List.map_cons, List.map_nil, List.length_cons, List.length_nil, Nat.reduceAdd, Nat.reduceSub, List.replicate, List.cons_append, List.nil_append, dSet, dIfS, dT, dOp, dCB, dCons, dNil, dV, dM, dC, dp, dNext, dRet, dRetN, dLst, dTup, dDrop, dNot, dAnd, dOr, dAndV, dOrV, dNotV, intG, intG0, lenG, lenD, ixG, itemD, intCG, intOf, maxG, List.getElem?_cons_zero, List.getElem?_cons_succ, List.set_cons_zero, List.set_cons_succ, Option.some.injEq, B.isU, B.d, B.rd, exists_eq_left', exists_eq_left, exists_and_left, true_and, and_true, B.p.injEq, DD.D.bl.injEq, DD.D.int.injEq, List.cons.injEq, DD.PC, decide_eq_true_eq, and_assoc, Option.map_some, dLc, iAny, walked, wipeE, gN, dCall, dCallP, dCallF, eqG, neG, Bool.not_true, Bool.not_false, if_true, if_false, Bool.false_eq_true, reduceIte, List.append_nil, dCBK, addG, dM1, gT, gsCons, gsNil, iEnumD, dAsP, iR1, dPart, dNo, dSl, freB, lstD, List.all_cons, List.all_nil, litD, Bool.and_self, dReprPair, dDctN, itemD2, ixG2, keyD, lookD, strG2, dPar, bCons, bNil, dFor, List.zip_cons_cons, List.zip_nil_right, List.foldl_cons, List.foldl_nil, dApp, B.o.injEq, DD.D.lst.injEq, DD.D.tup.injEq, exists_eq', dDct0, B.u.injEq, sizeLine_eq, Nat.reduceLeDiff, Nat.reduceLT, Nat.zero_le, true_implies, slG, List.length_map, tupleG, seqD, listG, iR2, List.length_take, List.length_drop, List.length_append, DD.D.str.injEq, mulG, dAsg, dFld, lookF, dSetF, setF, dProp, dMeth, dMake, dMakeK, cxOf_K, dChain, notNG, isNG, isNon_non, isNon_bl, isNon_int, isNon_str, isNon_lst, isNon_tup, isNon_dct, isNon_ins, isNon_exc, dXv, reprG, DD.D.ins.injEq, DD.D.exc.injEq, cmpIG, neIG, clsD, Option.bind_some, B.s.injEq, if_true, if_false, dNeg, dLenSet, dIndex, dClrE, dAppE, dCallK, eqKG, sortedSG]
        refine stepG h1 h4 ⟨rfl, ?_⟩
        refine ⟨rfl, callT n rf, hostT rf, "offer", rfl, call_ok h1 h4, host_ok, off_ok.1, off_ok.2, rfl, true, rfl, iteF ?_⟩
        refine stepG h1 h4 ⟨rfl, rfl, callT n rf, hostT rf, "offer", rfl, call_ok h1 h4, host_ok, off_ok.1, off_ok.2, rfl, rfl, ⟨_, _, rfl⟩, .ins io notFirst_self, ?_⟩
        exact ⟨_, _, _, _, _, _, _, _, _, _, _, _, _, _, false, rfl, rol_ne h1 h4, _, rfl, _, rfl, iteF (hM _ ⟨_, _, rfl⟩)⟩
      · obtain ⟨x4, x5, rfl⟩ := hI
        simp only [startD, List.map_cons, List.map_nil, List.length_cons, List.length_nil, Nat.reduceAdd, Nat.reduceSub, List.replicate, List.cons_append, List.nil_append, dSet, dIfS, dT, dOp, dCB, dCons, dNil, dV, dM, dC, dp, dNext, dRet, dRetN, dLst, dTup, dDrop, dNot, dAnd, dOr, dAndV, dOrV, dNotV, intG, intG0, lenG, lenD, ixG, itemD, intCG, intOf, maxG, List.getElem?_cons_zero, List.getElem?_cons_succ, List.set_cons_zero, List.set_cons_succ, Option.some.injEq, B.isU, B.d, B.rd, exists_eq_left', exists_eq_left, exists_and_left, true_and, and_true, B.p.injEq, DD.D.bl.injEq, DD.D.int.injEq, List.cons.injEq, DD.PC, decide_eq_true_eq, and_assoc, Option.map_some, dLc, iAny, walked, wipeE, gN, dCall, dCallP, dCallF, eqG, neG, Bool.not_true, Bool.not_false, if_true, if_false, Bool.false_eq_true, reduceIte, List.append_nil, dCBK, addG, dM1, gT, gsCons, gsNil, iEnumD, dAsP, iR1, dPart, dNo, dSl, freB, lstD, List.all_cons, List.all_nil, litD, Bool.and_self, dReprPair, dDctN, itemD2, ixG2, keyD, lookD, strG2, dPar, bCons, bNil, dFor, List.zip_cons_cons, List.zip_nil_right, List.foldl_cons, List.foldl_nil, dApp, B.o.injEq, DD.D.lst.injEq, DD.D.tup.injEq, exists_eq', dDct0, B.u.injEq, sizeLine_eq, Nat.reduceLeDiff, Nat.reduceLT, Nat.zero_le, true_implies, slG, List.length_map, tupleG, seqD, listG, iR2, List.length_take, List.length_drop, List.length_append, DD.D.str.injEq, mulG, dAsg, dFld, lookF, dSetF, setF, dProp, dMeth, dMake, dMakeK, cxOf_K, dChain, notNG, isNG, isNon_non, isNon_bl, isNon_int, isNon_str, isNon_lst, isNon_tup, isNon_dct, isNon_ins, isNon_exc, dXv, reprG, DD.D.ins.injEq, DD.D.exc.injEq, cmpIG, neIG, clsD, Option.bind_some, B.s.injEq, if_true, if_false, dNeg, dLenSet, dIndex, dClrE, dAppE, dCallK, eqKG, sortedSG]
        refine stepG h1 h4 ⟨rfl, rfl, ?_⟩
        refine stepG h1 h4 ⟨rfl, rfl, ⟨_, _, rfl⟩, ⟨_, _, rfl⟩, ?_⟩
        refine ⟨_, _, _, _, _, _, _, _, _, _, _, _, _, _, true, rfl, rol_self (call_ok h1 h4) host_ok, ?_⟩
        rw [decide_eq_true rfl]
        refine ⟨_, rfl, iteF ?_⟩
        refine stepG h1 h4 ⟨rfl, rfl, n, true, rfl, h1, h4, rfl, rfl, callT n true, hostT true, "offer", rfl, call_ok h1 h4, host_ok, off_ok.1, off_ok.2, rfl, true, rfl, iteF (hN _ ⟨by rw [List.length_append, List.length_singleton]; omega, _, _, _, _, _, _, by rw [List.length_append, List.length_singleton]⟩)⟩
    · obtain ⟨hp, x2, x3, x4, x5, x6, x7, rfl⟩ := hI
      rw [List.nil_append, upto_len]
      have c3 : CPowW 10 30 := ⟨by decide, by decide +kernel⟩
      refine dseq ?_
      simp only [startD, List.map_cons, List.map_nil, List.length_cons, List.length_nil, Nat.reduceAdd, Nat.reduceSub, List.replicate, List.cons_append, List.nil_append, dSet, dIfS, dT, dOp, dCB, dCons, dNil, dV, dM, dC, dp, dNext, dRet, dRetN, dLst, dTup, dDrop, dNot, dAnd, dOr, dAndV, dOrV, dNotV, intG, intG0, lenG, lenD, ixG, itemD, intCG, intOf, maxG, List.getElem?_cons_zero, List.getElem?_cons_succ, List.set_cons_zero, List.set_cons_succ, Option.some.injEq, B.isU, B.d, B.rd, exists_eq_left', exists_eq_left, exists_and_left, true_and, and_true, B.p.injEq, DD.D.bl.injEq, DD.D.int.injEq, List.cons.injEq, DD.PC, decide_eq_true_eq, and_assoc, Option.map_some, dLc, iAny, walked, wipeE, gN, dCall, dCallP, dCallF, eqG, neG, Bool.not_true, Bool.not_false, if_true, if_false, Bool.false_eq_true, reduceIte, List.append_nil, dCBK, addG, dM1, gT, gsCons, gsNil, iEnumD, dAsP, iR1, dPart, dNo, dSl, freB, lstD, List.all_cons, List.all_nil, litD, Bool.and_self, dReprPair, dDctN, itemD2, ixG2, keyD, lookD, strG2, dPar, bCons, bNil, dFor, List.zip_cons_cons, List.zip_nil_right, List.foldl_cons, List.foldl_nil, dApp, B.o.injEq, DD.D.lst.injEq, DD.D.tup.injEq, exists_eq', dDct0, B.u.injEq, sizeLine_eq, Nat.reduceLeDiff, Nat.reduceLT, Nat.zero_le, true_implies, slG, List.length_map, tupleG, seqD, listG, iR2, List.length_take, List.length_drop, List.length_append, DD.D.str.injEq, mulG, dAsg, dFld, lookF, dSetF, setF, dProp, dMeth, dMake, dMakeK, cxOf_K, dChain, notNG, isNG, isNon_non, isNon_bl, isNon_int, isNon_str, isNon_lst, isNon_tup, isNon_dct, isNon_ins, isNon_exc, dXv, reprG, DD.D.ins.injEq, DD.D.exc.injEq, cmpIG, neIG, clsD, Option.bind_some, B.s.injEq, if_true, if_false, dNeg, dLenSet, dIndex, dClrE, dAppE, dCallK, eqKG, sortedSG]
      refine dseq ?_
      simp only [startD, List.map_cons, List.map_nil, List.length_cons, List.length_nil, Nat.reduceAdd, Nat.reduceSub, List.replicate, List.cons_append, List.nil_append, dSet, dIfS, dT, dOp, dCB, dCons, dNil, dV, dM, dC, dp, dNext, dRet, dRetN, dLst, dTup, dDrop, dNot, dAnd, dOr, dAndV, dOrV, dNotV, intG, intG0, lenG, lenD, ixG, itemD, intCG, intOf, maxG, List.getElem?_cons_zero, List.getElem?_cons_succ, List.set_cons_zero, List.set_cons_succ, Option.some.injEq, B.isU, B.d, B.rd, exists_eq_left', exists_eq_left, exists_and_left, true_and, and_true, B.p.injEq, DD.D.bl.injEq, DD.D.int.injEq, List.cons.injEq, DD.PC, decide_eq_true_eq, and_assoc, Option.map_some, dLc, iAny, walked, wipeE, gN, dCall, dCallP, dCallF, eqG, neG, Bool.not_true, Bool.not_false, if_true, if_false, Bool.false_eq_true, reduceIte, List.append_nil, dCBK, addG, dM1, gT, gsCons, gsNil, iEnumD, dAsP, iR1, dPart, dNo, dSl, freB, lstD, List.all_cons, List.all_nil, litD, Bool.and_self, dReprPair, dDctN, itemD2, ixG2, keyD, lookD, strG2, dPar, bCons, bNil, dFor, List.zip_cons_cons, List.zip_nil_right, List.foldl_cons, List.foldl_nil, dApp, B.o.injEq, DD.D.lst.injEq, DD.D.tup.injEq, exists_eq', dDct0, B.u.injEq, sizeLine_eq, Nat.reduceLeDiff, Nat.reduceLT, Nat.zero_le, true_implies, slG, List.length_map, tupleG, seqD, listG, iR2, List.length_take, List.length_drop, List.length_append, DD.D.str.injEq, mulG, dAsg, dFld, lookF, dSetF, setF, dProp, dMeth, dMake, dMakeK, cxOf_K, dChain, notNG, isNG, isNon_non, isNon_bl, isNon_int, isNon_str, isNon_lst, isNon_tup, isNon_dct, isNon_ins, isNon_exc, dXv, reprG, DD.D.ins.injEq, DD.D.exc.injEq, cmpIG, neIG, clsD, Option.bind_some, B.s.injEq, if_true, if_false, dNeg, dLenSet, dIndex, dClrE, dAppE, dCallK, eqKG, sortedSG]
      have e30 : (10 : Int) ^ Int.toNat 30 = 1000000000000000000000000000000 := by decide +kernel
      rw [e30]
      refine ⟨c3, _, _, rfl, by decide, by omega, by decide, fun g g0 g1 => ⟨rfl, rfl, ?_⟩⟩
      simp only [startD, List.map_cons, List.map_nil, List.length_cons, List.length_nil, Nat.reduceAdd, Nat.reduceSub, List.replicate, List.cons_append, List.nil_append, dSet, dIfS, dT, dOp, dCB, dCons, dNil, dV, dM, dC, dp, dNext, dRet, dRetN, dLst, dTup, dDrop, dNot, dAnd, dOr, dAndV, dOrV, dNotV, intG, intG0, lenG, lenD, ixG, itemD, intCG, intOf, maxG, List.getElem?_cons_zero, List.getElem?_cons_succ, List.set_cons_zero, List.set_cons_succ, Option.some.injEq, B.isU, B.d, B.rd, exists_eq_left', exists_eq_left, exists_and_left, true_and, and_true, B.p.injEq, DD.D.bl.injEq, DD.D.int.injEq, List.cons.injEq, DD.PC, decide_eq_true_eq, and_assoc, Option.map_some, dLc, iAny, walked, wipeE, gN, dCall, dCallP, dCallF, eqG, neG, Bool.not_true, Bool.not_false, if_true, if_false, Bool.false_eq_true, reduceIte, List.append_nil, dCBK, addG, dM1, gT, gsCons, gsNil, iEnumD, dAsP, iR1, dPart, dNo, dSl, freB, lstD, List.all_cons, List.all_nil, litD, Bool.and_self, dReprPair, dDctN, itemD2, ixG2, keyD, lookD, strG2, dPar, bCons, bNil, dFor, List.zip_cons_cons, List.zip_nil_right, List.foldl_cons, List.foldl_nil, dApp, B.o.injEq, DD.D.lst.injEq, DD.D.tup.injEq, exists_eq', dDct0, B.u.injEq, sizeLine_eq, Nat.reduceLeDiff, Nat.reduceLT, Nat.zero_le, true_implies, slG, List.length_map, tupleG, seqD, listG, iR2, List.length_take, List.length_drop, List.length_append, DD.D.str.injEq, mulG, dAsg, dFld, lookF, dSetF, setF, dProp, dMeth, dMake, dMakeK, cxOf_K, dChain, notNG, isNG, isNon_non, isNon_bl, isNon_int, isNon_str, isNon_lst, isNon_tup, isNon_dct, isNon_ins, isNon_exc, dXv, reprG, DD.D.ins.injEq, DD.D.exc.injEq, cmpIG, neIG, clsD, Option.bind_some, B.s.injEq, if_true, if_false, dNeg, dLenSet, dIndex, dClrE, dAppE, dCallK, eqKG, sortedSG]
      refine dseq ?_
      simp only [startD, List.map_cons, List.map_nil, List.length_cons, List.length_nil, Nat.reduceAdd, Nat.reduceSub, List.replicate, List.cons_append, List.nil_append, dSet, dIfS, dT, dOp, dCB, dCons, dNil, dV, dM, dC, dp, dNext, dRet, dRetN, dLst, dTup, dDrop, dNot, dAnd, dOr, dAndV, dOrV, dNotV, intG, intG0, lenG, lenD, ixG, itemD, intCG, intOf, maxG, List.getElem?_cons_zero, List.getElem?_cons_succ, List.set_cons_zero, List.set_cons_succ, Option.some.injEq, B.isU, B.d, B.rd, exists_eq_left', exists_eq_left, exists_and_left, true_and, and_true, B.p.injEq, DD.D.bl.injEq, DD.D.int.injEq, List.cons.injEq, DD.PC, decide_eq_true_eq, and_assoc, Option.map_some, dLc, iAny, walked, wipeE, gN, dCall, dCallP, dCallF, eqG, neG, Bool.not_true, Bool.not_false, if_true, if_false, Bool.false_eq_true, reduceIte, List.append_nil, dCBK, addG, dM1, gT, gsCons, gsNil, iEnumD, dAsP, iR1, dPart, dNo, dSl, freB, lstD, List.all_cons, List.all_nil, litD, Bool.and_self, dReprPair, dDctN, itemD2, ixG2, keyD, lookD, strG2, dPar, bCons, bNil, dFor, List.zip_cons_cons, List.zip_nil_right, List.foldl_cons, List.foldl_nil, dApp, B.o.injEq, DD.D.lst.injEq, DD.D.tup.injEq, exists_eq', dDct0, B.u.injEq, sizeLine_eq, Nat.reduceLeDiff, Nat.reduceLT, Nat.zero_le, true_implies, slG, List.length_map, tupleG, seqD, listG, iR2, List.length_take, List.length_drop, List.length_append, DD.D.str.injEq, mulG, dAsg, dFld, lookF, dSetF, setF, dProp, dMeth, dMake, dMakeK, cxOf_K, dChain, notNG, isNG, isNon_non, isNon_bl, isNon_int, isNon_str, isNon_lst, isNon_tup, isNon_dct, isNon_ins, isNon_exc, dXv, reprG, DD.D.ins.injEq, DD.D.exc.injEq, cmpIG, neIG, clsD, Option.bind_some, B.s.injEq, if_true, if_false, dNeg, dLenSet, dIndex, dClrE, dAppE, dCallK, eqKG, sortedSG]
      have b50 : (2000000000000000000000000000000 : Nat) < 10 ^ 50 := by decide +kernel
      refine forL_inv (fun δ => ∃ x7, δ = [some (.p (.scr ns)), some (.u false (Int.toNat 4 + 1)), x2, x3, x4, x5, some (.p (.int (5 + g))), x7]) (fun d hd δ hI N hN => ?_) (fun δ hI => ?_) ⟨_, rfl⟩
      · obtain ⟨x7, rfl⟩ := hI
        have hd' : dat d = true ∧ okN d = false ∧ Rs 10 2 d := by
          simp only [List.mem_cons, List.not_mem_nil, or_false] at hd
          have ii : ∀ i : Int, i.natAbs < 2000000000000000000000000000000 → Rs 10 2 (.int i) := fun i h => (rs_int (by omega)).mono (by decide) (by decide)
          rcases hd with rfl | rfl | rfl | rfl | rfl | rfl | rfl | rfl | rfl | rfl | rfl | rfl | rfl
          · exact ⟨rfl, by decide, ii _ (by decide)⟩
          · exact ⟨rfl, by decide, ii _ (by decide)⟩
          · refine ⟨rfl, ?_, ii _ (by omega)⟩
            show (decide _ && decide _) = false
            rw [decide_eq_false (show ¬ 5 + g ≤ 4 by omega), Bool.and_false]
          · refine ⟨rfl, ?_, ii _ (by omega)⟩
            show (decide _ && decide _) = false
            rw [decide_eq_false (show ¬ 1 ≤ 0 - (5 + g) by omega)]
            rfl
          · exact ⟨rfl, by decide, ii _ (by decide)⟩
          · exact ⟨rfl, rfl, rs_bl.mono (by decide) (by decide)⟩
          · exact ⟨rfl, rfl, rs_bl.mono (by decide) (by decide)⟩
          · exact ⟨rfl, rfl, rs_non.mono (by decide) (by decide)⟩
          · exact ⟨rfl, rfl, (rs_str (n := 10) (by decide) (by decide)).mono (by decide) (by decide)⟩
          · exact ⟨rfl, rfl, (rs_lst (n := 0) (k := 0) (m := 1) (fun x hx => by rw [List.mem_singleton.mp hx]; exact rs_int (by decide)) (Nat.le_refl _)).mono (by decide) (by decide)⟩
          · exact ⟨rfl, rfl, (rs_tup (n := 0) (k := 0) (m := 1) (fun x hx => by rw [List.mem_singleton.mp hx]; exact rs_int (by decide)) (Nat.le_refl _)).mono (by decide) (by decide)⟩
          · exact ⟨rfl, rfl, rs_dct0.mono (by decide) (by decide)⟩
          · exact ⟨rfl, rfl, (rs_str (n := 10) (by decide) (by decide)).mono (by decide) (by decide)⟩
        obtain ⟨k1, k2, k3⟩ := hd'
        obtain ⟨c, tc, sh⟩ := k3.shw (by decide) (by decide)
        simp only [startD, List.map_cons, List.map_nil, List.length_cons, List.length_nil, Nat.reduceAdd, Nat.reduceSub, List.replicate, List.cons_append, List.nil_append, dSet, dIfS, dT, dOp, dCB, dCons, dNil, dV, dM, dC, dp, dNext, dRet, dRetN, dLst, dTup, dDrop, dNot, dAnd, dOr, dAndV, dOrV, dNotV, intG, intG0, lenG, lenD, ixG, itemD, intCG, intOf, maxG, List.getElem?_cons_zero, List.getElem?_cons_succ, List.set_cons_zero, List.set_cons_succ, Option.some.injEq, B.isU, B.d, B.rd, exists_eq_left', exists_eq_left, exists_and_left, true_and, and_true, B.p.injEq, DD.D.bl.injEq, DD.D.int.injEq, List.cons.injEq, DD.PC, decide_eq_true_eq, and_assoc, Option.map_some, dLc, iAny, walked, wipeE, gN, dCall, dCallP, dCallF, eqG, neG, Bool.not_true, Bool.not_false, if_true, if_false, Bool.false_eq_true, reduceIte, List.append_nil, dCBK, addG, dM1, gT, gsCons, gsNil, iEnumD, dAsP, iR1, dPart, dNo, dSl, freB, lstD, List.all_cons, List.all_nil, litD, Bool.and_self, dReprPair, dDctN, itemD2, ixG2, keyD, lookD, strG2, dPar, bCons, bNil, dFor, List.zip_cons_cons, List.zip_nil_right, List.foldl_cons, List.foldl_nil, dApp, B.o.injEq, DD.D.lst.injEq, DD.D.tup.injEq, exists_eq', dDct0, B.u.injEq, sizeLine_eq, Nat.reduceLeDiff, Nat.reduceLT, Nat.zero_le, true_implies, slG, List.length_map, tupleG, seqD, listG, iR2, List.length_take, List.length_drop, List.length_append, DD.D.str.injEq, mulG, dAsg, dFld, lookF, dSetF, setF, dProp, dMeth, dMake, dMakeK, cxOf_K, dChain, notNG, isNG, isNon_non, isNon_bl, isNon_int, isNon_str, isNon_lst, isNon_tup, isNon_dct, isNon_ins, isNon_exc, dXv, reprG, DD.D.ins.injEq, DD.D.exc.injEq, cmpIG, neIG, clsD, Option.bind_some, B.s.injEq, if_true, if_false, dNeg, dLenSet, dIndex, dClrE, dAppE, dCallK, eqKG, sortedSG]
        exact ⟨d, 0, c, rfl, k1, k2, tc, sh, rfl, true, rfl, iteF ⟨d, 1, c, rfl, k1, k2, tc, sh, rfl, true, rfl, iteF (hN _ ⟨_, rfl⟩)⟩⟩
      · obtain ⟨x7, rfl⟩ := hI
        exact ⟨rfl, 0, q⟩
end
end K

set_option Elab.async false
set_option linter.all false
set_option maxRecDepth 100000
set_option maxHeartbeats 8000000
namespace K
open PySem PySem.Spec PyProof.Rows L2 DD
section
variable {P : Program} {w : World} {K : PySem.W.Frag} {mg : Str → Option Value} {base : Heap}

theorem step_D {k : Nat} {spd : Spd} (h : ∃ f fd, GnOk P w K mg base k f fd ["tries", "refuse"] (toSp K spd) ∧ mg "stepping" = some (.ref f) ∧ FunD K "stepping" "stepping" (defArgs s_stepping) (defBody s_stepping) (defScope s_stepping) [] [("refuse", V.bl true)] f fd) : CalD P w K mg base "stepping" k ["tries", "refuse"] [.bl true] spd := by
  obtain ⟨f, fd, G, hm, F⟩ := h
  obtain ⟨ds, r, b⟩ := F.binds0 (ps := ["tries", "refuse"]) 1 (by simp) rfl
    (fun D doc pm an cdv ct us ks h1 h2 => match us, h1, ks, h2 with | [_], _, [_], _ => ⟨_, _, _, _, _, _, rfl, rfl, rfl⟩)
  exact ⟨f, fd, ds, _, G, hm, F.kp, b, r, fun F => .cons (by unfold Rp; rfl) .nil⟩
theorem step_K {k : Nat} {spd : Spd} (h : ∃ f fd, GnOk P w K mg base k f fd ["tries", "refuse"] (toSp K spd) ∧ mg "stepping" = some (.ref f) ∧ FunD K "stepping" "stepping" (defArgs s_stepping) (defBody s_stepping) (defScope s_stepping) [] [("refuse", V.bl true)] f fd) : CalK P w K mg base "stepping" k 1 ["refuse"] spd := by
  obtain ⟨f, fd, G, hm, F⟩ := h
  have kp := F.kp
  obtain ⟨oc, od, dV, kV, doc, pm, an, cdv, ct, osl, rfl, lk, hcd, hD, hK⟩ := F.ex
  rcases hD with ⟨_, rfl⟩ | ⟨e, _⟩
  · exact ⟨f, _, _, G, hm, kp, fun s us ws X l1 l2 => match us, l1, ws, l2 with | [_], _, [_], _ => .of_eq rfl⟩
  · exact absurd rfl e

end
end K

set_option Elab.async false
set_option linter.all false
set_option maxRecDepth 100000
set_option maxHeartbeats 8000000
namespace K
open PySem PySem.Spec PyProof.Rows L2 DD
def initOf : Stmt → Stmt
  | .ClassDef _ _ _ b _ _ _ _ _ _ _ => b.getD 0 (.Pass ⟨0, 0, 0, 0⟩)
  | s => s
def p_InvalidRule : Nat → Pos := fun | 0 => ⟨19, 8, 19, 13⟩ | 1 => ⟨19, 8, 19, 15⟩ | 2 => ⟨19, 8, 19, 24⟩ | 3 => ⟨19, 25, 19, 30⟩ | 4 => ⟨19, 8, 19, 31⟩ | 5 => ⟨19, 8, 19, 31⟩ | 6 => ⟨20, 8, 20, 12⟩ | 7 => ⟨20, 8, 20, 18⟩ | 8 => ⟨20, 21, 20, 26⟩ | _ => ⟨20, 8, 20, 26⟩
abbrev i_InvalidRule : Stmt := initOf (topS 9)
def p_InvalidRole : Nat → Pos := fun | 0 => ⟨24, 8, 24, 13⟩ | 1 => ⟨24, 8, 24, 15⟩ | 2 => ⟨24, 8, 24, 24⟩ | 3 => ⟨24, 25, 24, 30⟩ | 4 => ⟨24, 8, 24, 31⟩ | 5 => ⟨24, 8, 24, 31⟩ | 6 => ⟨25, 8, 25, 12⟩ | 7 => ⟨25, 8, 25, 18⟩ | 8 => ⟨25, 21, 25, 26⟩ | _ => ⟨25, 8, 25, 26⟩
abbrev i_InvalidRole : Stmt := initOf (topS 10)
def p_InvalidDesign : Nat → Pos := fun | 0 => ⟨29, 8, 29, 13⟩ | 1 => ⟨29, 8, 29, 15⟩ | 2 => ⟨29, 8, 29, 24⟩ | 3 => ⟨29, 25, 29, 30⟩ | 4 => ⟨29, 8, 29, 31⟩ | 5 => ⟨29, 8, 29, 31⟩ | 6 => ⟨30, 8, 30, 12⟩ | 7 => ⟨30, 8, 30, 18⟩ | 8 => ⟨30, 21, 30, 26⟩ | _ => ⟨30, 8, 30, 26⟩
abbrev i_InvalidDesign : Stmt := initOf (topS 11)
def p_InvalidNumber : Nat → Pos := fun | 0 => ⟨34, 8, 34, 13⟩ | 1 => ⟨34, 8, 34, 15⟩ | 2 => ⟨34, 8, 34, 24⟩ | 3 => ⟨34, 25, 34, 30⟩ | 4 => ⟨34, 8, 34, 31⟩ | 5 => ⟨34, 8, 34, 31⟩ | 6 => ⟨35, 8, 35, 12⟩ | 7 => ⟨35, 8, 35, 18⟩ | 8 => ⟨35, 21, 35, 26⟩ | _ => ⟨35, 8, 35, 26⟩
abbrev i_InvalidNumber : Stmt := initOf (topS 12)
theorem all_mk {w : World} {K : PySem.W.Frag} {h : Heap} {mg : Str → Option Value} (X : K.In h) (G : h.Ns mainGlobals mg)
    {osys : Obj}
    {f_is_whole : Addr} {od_is_whole an_is_whole : Option Addr} {sl_is_whole : Array (Option Value)} {oc_is_whole kV_is_whole dc_is_whole pm_is_whole cd_is_whole ct_is_whole : Value}
    {f_is_name : Addr} {od_is_name an_is_name : Option Addr} {sl_is_name : Array (Option Value)} {oc_is_name kV_is_name dc_is_name pm_is_name cd_is_name ct_is_name : Value}
    {f_is_word : Addr} {od_is_word an_is_word : Option Addr} {sl_is_word : Array (Option Value)} {oc_is_word kV_is_word dc_is_word pm_is_word cd_is_word ct_is_word : Value}
    {f_is_name_or_none : Addr} {od_is_name_or_none an_is_name_or_none : Option Addr} {sl_is_name_or_none : Array (Option Value)} {oc_is_name_or_none kV_is_name_or_none dc_is_name_or_none pm_is_name_or_none cd_is_name_or_none ct_is_name_or_none : Value}
    {f_are_fields : Addr} {od_are_fields an_are_fields : Option Addr} {sl_are_fields : Array (Option Value)} {oc_are_fields kV_are_fields dc_are_fields pm_are_fields cd_are_fields ct_are_fields : Value}
    {f_fits_caller : Addr} {od_fits_caller an_fits_caller : Option Addr} {sl_fits_caller : Array (Option Value)} {oc_fits_caller kV_fits_caller dc_fits_caller pm_fits_caller cd_fits_caller ct_fits_caller : Value}
    {f_fits_host : Addr} {od_fits_host an_fits_host : Option Addr} {sl_fits_host : Array (Option Value)} {oc_fits_host kV_fits_host dc_fits_host pm_fits_host cd_fits_host ct_fits_host : Value}
    {f_fits_side : Addr} {od_fits_side an_fits_side : Option Addr} {sl_fits_side : Array (Option Value)} {oc_fits_side kV_fits_side dc_fits_side pm_fits_side cd_fits_side ct_fits_side : Value}
    {f_are_settled : Addr} {od_are_settled an_are_settled : Option Addr} {sl_are_settled : Array (Option Value)} {oc_are_settled kV_are_settled dc_are_settled pm_are_settled cd_are_settled ct_are_settled : Value}
    {f_are_parts : Addr} {od_are_parts an_are_parts : Option Addr} {sl_are_parts : Array (Option Value)} {oc_are_parts kV_are_parts dc_are_parts pm_are_parts cd_are_parts ct_are_parts : Value}
    {f_is_role : Addr} {od_is_role an_is_role : Option Addr} {sl_is_role : Array (Option Value)} {oc_is_role kV_is_role dc_is_role pm_is_role cd_is_role ct_is_role : Value}
    {f_check_tries : Addr} {od_check_tries an_check_tries : Option Addr} {sl_check_tries : Array (Option Value)} {oc_check_tries kV_check_tries dc_check_tries pm_check_tries cd_check_tries ct_check_tries : Value}
    {f_stepping_rules : Addr} {od_stepping_rules an_stepping_rules : Option Addr} {sl_stepping_rules : Array (Option Value)} {oc_stepping_rules kV_stepping_rules dc_stepping_rules pm_stepping_rules cd_stepping_rules ct_stepping_rules : Value}
    {f__law_purse : Addr} {od__law_purse an__law_purse : Option Addr} {sl__law_purse : Array (Option Value)} {oc__law_purse kV__law_purse dc__law_purse pm__law_purse cd__law_purse ct__law_purse : Value}
    {f__law_draw : Addr} {od__law_draw an__law_draw : Option Addr} {sl__law_draw : Array (Option Value)} {oc__law_draw kV__law_draw dc__law_draw pm__law_draw cd__law_draw ct__law_draw : Value}
    {f__law_rule : Addr} {od__law_rule an__law_rule : Option Addr} {sl__law_rule : Array (Option Value)} {oc__law_rule kV__law_rule dc__law_rule pm__law_rule cd__law_rule ct__law_rule : Value}
    {f__law_role : Addr} {od__law_role an__law_role : Option Addr} {sl__law_role : Array (Option Value)} {oc__law_role kV__law_role dc__law_role pm__law_role cd__law_role ct__law_role : Value}
    {f__law_made : Addr} {od__law_made an__law_made : Option Addr} {sl__law_made : Array (Option Value)} {oc__law_made kV__law_made dc__law_made pm__law_made cd__law_made ct__law_made : Value}
    {f__law_due : Addr} {od__law_due an__law_due : Option Addr} {sl__law_due : Array (Option Value)} {oc__law_due kV__law_due dc__law_due pm__law_due cd__law_due ct__law_due : Value}
    {f__law_parts : Addr} {od__law_parts an__law_parts : Option Addr} {sl__law_parts : Array (Option Value)} {oc__law_parts kV__law_parts dc__law_parts pm__law_parts cd__law_parts ct__law_parts : Value}
    {f__law_right : Addr} {od__law_right an__law_right : Option Addr} {sl__law_right : Array (Option Value)} {oc__law_right kV__law_right dc__law_right pm__law_right cd__law_right ct__law_right : Value}
    {f__law_refused : Addr} {od__law_refused an__law_refused : Option Addr} {sl__law_refused : Array (Option Value)} {oc__law_refused kV__law_refused dc__law_refused pm__law_refused cd__law_refused ct__law_refused : Value}
    {f_law : Addr} {od_law an_law : Option Addr} {sl_law : Array (Option Value)} {oc_law kV_law dc_law pm_law cd_law ct_law : Value}
    {f_stepping : Addr} {od_stepping an_stepping : Option Addr} {sl_stepping : Array (Option Value)} {oc_stepping dV_stepping kV_stepping dc_stepping pm_stepping cd_stepping ct_stepping : Value} {Kd_stepping : Addr}
    {A_InvalidRule : Addr}
    {nm_InvalidRule q_InvalidRule : Str} {N_InvalidRule : Addr} {bs_InvalidRule bm_InvalidRule : List Value} {sn_InvalidRule : List Str} {sub_InvalidRule : List Value} {ab_InvalidRule : Bool} {col_InvalidRule : Option Bool} {dd_InvalidRule : Option Addr} {k0_InvalidRule k1_InvalidRule k2_InvalidRule k3_InvalidRule k5_InvalidRule : Option Value}
    {T_InvalidRule : Addr} {tc_InvalidRule : Value} {td_InvalidRule : Option Addr} {tn_InvalidRule : Nat} {ts_InvalidRule : Array (Option Value)}
    {I_InvalidRule : Addr} {oc_InvalidRule kV_InvalidRule doc_InvalidRule pm_InvalidRule ct_InvalidRule ccl_InvalidRule cl_InvalidRule : Value} {od_InvalidRule an_InvalidRule cdd_InvalidRule cld_InvalidRule : Option Addr} {cda_InvalidRule cc_InvalidRule : Addr} {osl_InvalidRule ccs_InvalidRule csl_InvalidRule : Array (Option Value)} {vs_InvalidRule : Array Value} {file_InvalidRule : Str} {tf_InvalidRule : Tok}
    {A_InvalidRole : Addr}
    {nm_InvalidRole q_InvalidRole : Str} {N_InvalidRole : Addr} {bs_InvalidRole bm_InvalidRole : List Value} {sn_InvalidRole : List Str} {sub_InvalidRole : List Value} {ab_InvalidRole : Bool} {col_InvalidRole : Option Bool} {dd_InvalidRole : Option Addr} {k0_InvalidRole k1_InvalidRole k2_InvalidRole k3_InvalidRole k5_InvalidRole : Option Value}
    {T_InvalidRole : Addr} {tc_InvalidRole : Value} {td_InvalidRole : Option Addr} {tn_InvalidRole : Nat} {ts_InvalidRole : Array (Option Value)}
    {I_InvalidRole : Addr} {oc_InvalidRole kV_InvalidRole doc_InvalidRole pm_InvalidRole ct_InvalidRole ccl_InvalidRole cl_InvalidRole : Value} {od_InvalidRole an_InvalidRole cdd_InvalidRole cld_InvalidRole : Option Addr} {cda_InvalidRole cc_InvalidRole : Addr} {osl_InvalidRole ccs_InvalidRole csl_InvalidRole : Array (Option Value)} {vs_InvalidRole : Array Value} {file_InvalidRole : Str} {tf_InvalidRole : Tok}
    {A_InvalidDesign : Addr}
    {nm_InvalidDesign q_InvalidDesign : Str} {N_InvalidDesign : Addr} {bs_InvalidDesign bm_InvalidDesign : List Value} {sn_InvalidDesign : List Str} {sub_InvalidDesign : List Value} {ab_InvalidDesign : Bool} {col_InvalidDesign : Option Bool} {dd_InvalidDesign : Option Addr} {k0_InvalidDesign k1_InvalidDesign k2_InvalidDesign k3_InvalidDesign k5_InvalidDesign : Option Value}
    {T_InvalidDesign : Addr} {tc_InvalidDesign : Value} {td_InvalidDesign : Option Addr} {tn_InvalidDesign : Nat} {ts_InvalidDesign : Array (Option Value)}
    {I_InvalidDesign : Addr} {oc_InvalidDesign kV_InvalidDesign doc_InvalidDesign pm_InvalidDesign ct_InvalidDesign ccl_InvalidDesign cl_InvalidDesign : Value} {od_InvalidDesign an_InvalidDesign cdd_InvalidDesign cld_InvalidDesign : Option Addr} {cda_InvalidDesign cc_InvalidDesign : Addr} {osl_InvalidDesign ccs_InvalidDesign csl_InvalidDesign : Array (Option Value)} {vs_InvalidDesign : Array Value} {file_InvalidDesign : Str} {tf_InvalidDesign : Tok}
    {A_InvalidNumber : Addr}
    {nm_InvalidNumber q_InvalidNumber : Str} {N_InvalidNumber : Addr} {bs_InvalidNumber bm_InvalidNumber : List Value} {sn_InvalidNumber : List Str} {sub_InvalidNumber : List Value} {ab_InvalidNumber : Bool} {col_InvalidNumber : Option Bool} {dd_InvalidNumber : Option Addr} {k0_InvalidNumber k1_InvalidNumber k2_InvalidNumber k3_InvalidNumber k5_InvalidNumber : Option Value}
    {T_InvalidNumber : Addr} {tc_InvalidNumber : Value} {td_InvalidNumber : Option Addr} {tn_InvalidNumber : Nat} {ts_InvalidNumber : Array (Option Value)}
    {I_InvalidNumber : Addr} {oc_InvalidNumber kV_InvalidNumber doc_InvalidNumber pm_InvalidNumber ct_InvalidNumber ccl_InvalidNumber cl_InvalidNumber : Value} {od_InvalidNumber an_InvalidNumber cdd_InvalidNumber cld_InvalidNumber : Option Addr} {cda_InvalidNumber cc_InvalidNumber : Addr} {osl_InvalidNumber ccs_InvalidNumber csl_InvalidNumber : Array (Option Value)} {vs_InvalidNumber : Array Value} {file_InvalidNumber : Str} {tf_InvalidNumber : Tok}
    {A_EveryPairError : Addr}
    {tk_LETTERS : Tok}
    {tk_TIMEOUT : Tok}
    {tk_LONGEST_NAME : Tok}
    {A_CALLER_TESTS : Addr} {od_CALLER_TESTS : Option Addr} {sl_CALLER_TESTS : Array (Option Value)} {nn_CALLER_TESTS : Nat} {t0_CALLER_TESTS t1_CALLER_TESTS t2_CALLER_TESTS t3_CALLER_TESTS : Tok}
    {A_HOST_TESTS : Addr} {od_HOST_TESTS : Option Addr} {sl_HOST_TESTS : Array (Option Value)} {nn_HOST_TESTS : Nat} {t0_HOST_TESTS t1_HOST_TESTS t2_HOST_TESTS t3_HOST_TESTS t4_HOST_TESTS t5_HOST_TESTS t6_HOST_TESTS : Tok}
    {A_CALLER_MOVES : Addr} {od_CALLER_MOVES : Option Addr} {sl_CALLER_MOVES : Array (Option Value)} {nn_CALLER_MOVES : Nat} {t0_CALLER_MOVES t1_CALLER_MOVES t2_CALLER_MOVES : Tok}
    {A_HOST_MOVES : Addr} {od_HOST_MOVES : Option Addr} {sl_HOST_MOVES : Array (Option Value)} {nn_HOST_MOVES : Nat} {t0_HOST_MOVES t1_HOST_MOVES t2_HOST_MOVES t3_HOST_MOVES : Tok}
    {A_SIDES : Addr} {od_SIDES : Option Addr} {sl_SIDES : Array (Option Value)} {nn_SIDES : Nat} {t0_SIDES t1_SIDES : Tok}
    {A_MODES : Addr} {od_MODES : Option Addr} {sl_MODES : Array (Option Value)} {nn_MODES : Nat} {t0_MODES t1_MODES t2_MODES t3_MODES : Tok}
    {A_Rule : Addr}
    {A_Role : Addr}
    {A_Design : Addr}
    {nm_Design q_Design : Str} {N_Design : Addr} {bs_Design : List Value} {sn_Design : List Str} {sub_Design : List Value} {ab_Design : Bool} {col_Design : Option Bool} {dd_Design : Option Addr} {k0_Design k1_Design k2_Design k3_Design k5_Design : Option Value} {nw_Design : String} {fe_Design : Addr} {oe_Design : Obj}
    {p_Rule_mode : Addr} {r_Rule_mode : List Value}
    {f_Rule_mode : Addr} {od_Rule_mode an_Rule_mode : Option Addr} {sl_Rule_mode : Array (Option Value)} {oc_Rule_mode kV_Rule_mode dc_Rule_mode pm_Rule_mode cd_Rule_mode ct_Rule_mode : Value}
    {p_Rule_heard : Addr} {r_Rule_heard : List Value}
    {f_Rule_heard : Addr} {od_Rule_heard an_Rule_heard : Option Addr} {sl_Rule_heard : Array (Option Value)} {oc_Rule_heard kV_Rule_heard dc_Rule_heard pm_Rule_heard cd_Rule_heard ct_Rule_heard : Value}
    {p_Rule_which : Addr} {r_Rule_which : List Value}
    {f_Rule_which : Addr} {od_Rule_which an_Rule_which : Option Addr} {sl_Rule_which : Array (Option Value)} {oc_Rule_which kV_Rule_which dc_Rule_which pm_Rule_which cd_Rule_which ct_Rule_which : Value}
    {p_Rule_then : Addr} {r_Rule_then : List Value}
    {f_Rule_then : Addr} {od_Rule_then an_Rule_then : Option Addr} {sl_Rule_then : Array (Option Value)} {oc_Rule_then kV_Rule_then dc_Rule_then pm_Rule_then cd_Rule_then ct_Rule_then : Value}
    {p_Rule_move : Addr} {r_Rule_move : List Value}
    {f_Rule_move : Addr} {od_Rule_move an_Rule_move : Option Addr} {sl_Rule_move : Array (Option Value)} {oc_Rule_move kV_Rule_move dc_Rule_move pm_Rule_move cd_Rule_move ct_Rule_move : Value}
    {p_Rule_send : Addr} {r_Rule_send : List Value}
    {f_Rule_send : Addr} {od_Rule_send an_Rule_send : Option Addr} {sl_Rule_send : Array (Option Value)} {oc_Rule_send kV_Rule_send dc_Rule_send pm_Rule_send cd_Rule_send ct_Rule_send : Value}
    {p_Role_side : Addr} {r_Role_side : List Value}
    {f_Role_side : Addr} {od_Role_side an_Role_side : Option Addr} {sl_Role_side : Array (Option Value)} {oc_Role_side kV_Role_side dc_Role_side pm_Role_side cd_Role_side ct_Role_side : Value}
    {p_Role_first : Addr} {r_Role_first : List Value}
    {f_Role_first : Addr} {od_Role_first an_Role_first : Option Addr} {sl_Role_first : Array (Option Value)} {oc_Role_first kV_Role_first dc_Role_first pm_Role_first cd_Role_first ct_Role_first : Value}
    {p_Role_rules : Addr} {r_Role_rules : List Value}
    {f_Role_rules : Addr} {od_Role_rules an_Role_rules : Option Addr} {sl_Role_rules : Array (Option Value)} {oc_Role_rules kV_Role_rules dc_Role_rules pm_Role_rules cd_Role_rules ct_Role_rules : Value}
    {p_Role_settled : Addr} {r_Role_settled : List Value}
    {f_Role_settled : Addr} {od_Role_settled an_Role_settled : Option Addr} {sl_Role_settled : Array (Option Value)} {oc_Role_settled kV_Role_settled dc_Role_settled pm_Role_settled cd_Role_settled ct_Role_settled : Value}
    {p_Design_caller : Addr} {r_Design_caller : List Value}
    {f_Design_caller : Addr} {od_Design_caller an_Design_caller : Option Addr} {sl_Design_caller : Array (Option Value)} {oc_Design_caller kV_Design_caller dc_Design_caller pm_Design_caller cd_Design_caller ct_Design_caller : Value}
    {p_Design_host : Addr} {r_Design_host : List Value}
    {f_Design_host : Addr} {od_Design_host an_Design_host : Option Addr} {sl_Design_host : Array (Option Value)} {oc_Design_host kV_Design_host dc_Design_host pm_Design_host cd_Design_host ct_Design_host : Value}
    {p_Design_hello : Addr} {r_Design_hello : List Value}
    {f_Design_hello : Addr} {od_Design_hello an_Design_hello : Option Addr} {sl_Design_hello : Array (Option Value)} {oc_Design_hello kV_Design_hello dc_Design_hello pm_Design_hello cd_Design_hello ct_Design_hello : Value}
    {f_Rule___eq__ : Addr} {od_Rule___eq__ an_Rule___eq__ : Option Addr} {sl_Rule___eq__ : Array (Option Value)} {oc_Rule___eq__ kV_Rule___eq__ dc_Rule___eq__ pm_Rule___eq__ cd_Rule___eq__ ct_Rule___eq__ : Value}
    {f_Role___eq__ : Addr} {od_Role___eq__ an_Role___eq__ : Option Addr} {sl_Role___eq__ : Array (Option Value)} {oc_Role___eq__ kV_Role___eq__ dc_Role___eq__ pm_Role___eq__ cd_Role___eq__ ct_Role___eq__ : Value}
    {f_Design___eq__ : Addr} {od_Design___eq__ an_Design___eq__ : Option Addr} {sl_Design___eq__ : Array (Option Value)} {oc_Design___eq__ kV_Design___eq__ dc_Design___eq__ pm_Design___eq__ cd_Design___eq__ ct_Design___eq__ : Value}
    {f_Rule___init__ : Addr} {od_Rule___init__ an_Rule___init__ : Option Addr} {sl_Rule___init__ : Array (Option Value)} {oc_Rule___init__ kV_Rule___init__ dc_Rule___init__ pm_Rule___init__ cd_Rule___init__ ct_Rule___init__ dV_Rule___init__ : Value}
    {T_Rule___init__ : Addr} {To_Rule___init__ : Value} {Td_Rule___init__ : Option Addr} {Ts_Rule___init__ : Array (Option Value)} {Tn_Rule___init__ : Nat}
    {tt0_Rule___init__ : Tok}
    {Kd_Rule___init__ : Addr}
    {tk1_Rule___init__ : Tok}
    {E_Role : Addr}
    {f_Role___init__ : Addr} {od_Role___init__ an_Role___init__ : Option Addr} {sl_Role___init__ : Array (Option Value)} {oc_Role___init__ kV_Role___init__ dc_Role___init__ pm_Role___init__ cd_Role___init__ ct_Role___init__ dV_Role___init__ : Value}
    {T_Role___init__ : Addr} {To_Role___init__ : Value} {Td_Role___init__ : Option Addr} {Ts_Role___init__ : Array (Option Value)} {Tn_Role___init__ : Nat}
    {f_Design___init__ : Addr} {od_Design___init__ an_Design___init__ : Option Addr} {sl_Design___init__ : Array (Option Value)} {oc_Design___init__ kV_Design___init__ dc_Design___init__ pm_Design___init__ cd_Design___init__ ct_Design___init__ dV_Design___init__ : Value}
    
    (zsup : PySem.W.nsIn K mainGlobals "super" = some none)
    (zopq : PySem.W.nsIn K cStatics "thirdparty.any" = some none)
    (zsp : PySem.W.specialIn K (.builtin "object.__class__") "__get__" = some (some (.builtin "getset_descriptor.__get__")))
    (ztk : PySem.W.takesIn K (.builtin "object.__class__") = some true)
    (zsys : K.lookup sysModules = some osys)
    (a_is_whole : PySem.W.nsIn K mainGlobals "is_whole" = some (some (.ref f_is_whole)))
    (l_is_whole : K.lookup f_is_whole = some ⟨oc_is_whole, od_is_whole, .func (PySem.W.fnOf "is_whole" "is_whole" (defArgs s_is_whole) (defBody s_is_whole) (defScope s_is_whole) .none kV_is_whole dc_is_whole pm_is_whole an_is_whole cd_is_whole ct_is_whole), sl_is_whole⟩)
    (c_is_whole : PySem.W.codeIn K cd_is_whole "is_whole" = true)
    (k_is_whole : PySem.W.keepIn K (.ref f_is_whole) = true)
    (a_is_name : PySem.W.nsIn K mainGlobals "is_name" = some (some (.ref f_is_name)))
    (l_is_name : K.lookup f_is_name = some ⟨oc_is_name, od_is_name, .func (PySem.W.fnOf "is_name" "is_name" (defArgs s_is_name) (defBody s_is_name) (defScope s_is_name) .none kV_is_name dc_is_name pm_is_name an_is_name cd_is_name ct_is_name), sl_is_name⟩)
    (c_is_name : PySem.W.codeIn K cd_is_name "is_name" = true)
    (k_is_name : PySem.W.keepIn K (.ref f_is_name) = true)
    (a_is_word : PySem.W.nsIn K mainGlobals "is_word" = some (some (.ref f_is_word)))
    (l_is_word : K.lookup f_is_word = some ⟨oc_is_word, od_is_word, .func (PySem.W.fnOf "is_word" "is_word" (defArgs s_is_word) (defBody s_is_word) (defScope s_is_word) .none kV_is_word dc_is_word pm_is_word an_is_word cd_is_word ct_is_word), sl_is_word⟩)
    (c_is_word : PySem.W.codeIn K cd_is_word "is_word" = true)
    (k_is_word : PySem.W.keepIn K (.ref f_is_word) = true)
    (a_is_name_or_none : PySem.W.nsIn K mainGlobals "is_name_or_none" = some (some (.ref f_is_name_or_none)))
    (l_is_name_or_none : K.lookup f_is_name_or_none = some ⟨oc_is_name_or_none, od_is_name_or_none, .func (PySem.W.fnOf "is_name_or_none" "is_name_or_none" (defArgs s_is_name_or_none) (defBody s_is_name_or_none) (defScope s_is_name_or_none) .none kV_is_name_or_none dc_is_name_or_none pm_is_name_or_none an_is_name_or_none cd_is_name_or_none ct_is_name_or_none), sl_is_name_or_none⟩)
    (c_is_name_or_none : PySem.W.codeIn K cd_is_name_or_none "is_name_or_none" = true)
    (k_is_name_or_none : PySem.W.keepIn K (.ref f_is_name_or_none) = true)
    (a_are_fields : PySem.W.nsIn K mainGlobals "are_fields" = some (some (.ref f_are_fields)))
    (l_are_fields : K.lookup f_are_fields = some ⟨oc_are_fields, od_are_fields, .func (PySem.W.fnOf "are_fields" "are_fields" (defArgs s_are_fields) (defBody s_are_fields) (defScope s_are_fields) .none kV_are_fields dc_are_fields pm_are_fields an_are_fields cd_are_fields ct_are_fields), sl_are_fields⟩)
    (c_are_fields : PySem.W.codeIn K cd_are_fields "are_fields" = true)
    (k_are_fields : PySem.W.keepIn K (.ref f_are_fields) = true)
    (a_fits_caller : PySem.W.nsIn K mainGlobals "fits_caller" = some (some (.ref f_fits_caller)))
    (l_fits_caller : K.lookup f_fits_caller = some ⟨oc_fits_caller, od_fits_caller, .func (PySem.W.fnOf "fits_caller" "fits_caller" (defArgs s_fits_caller) (defBody s_fits_caller) (defScope s_fits_caller) .none kV_fits_caller dc_fits_caller pm_fits_caller an_fits_caller cd_fits_caller ct_fits_caller), sl_fits_caller⟩)
    (c_fits_caller : PySem.W.codeIn K cd_fits_caller "fits_caller" = true)
    (k_fits_caller : PySem.W.keepIn K (.ref f_fits_caller) = true)
    (a_fits_host : PySem.W.nsIn K mainGlobals "fits_host" = some (some (.ref f_fits_host)))
    (l_fits_host : K.lookup f_fits_host = some ⟨oc_fits_host, od_fits_host, .func (PySem.W.fnOf "fits_host" "fits_host" (defArgs s_fits_host) (defBody s_fits_host) (defScope s_fits_host) .none kV_fits_host dc_fits_host pm_fits_host an_fits_host cd_fits_host ct_fits_host), sl_fits_host⟩)
    (c_fits_host : PySem.W.codeIn K cd_fits_host "fits_host" = true)
    (k_fits_host : PySem.W.keepIn K (.ref f_fits_host) = true)
    (a_fits_side : PySem.W.nsIn K mainGlobals "fits_side" = some (some (.ref f_fits_side)))
    (l_fits_side : K.lookup f_fits_side = some ⟨oc_fits_side, od_fits_side, .func (PySem.W.fnOf "fits_side" "fits_side" (defArgs s_fits_side) (defBody s_fits_side) (defScope s_fits_side) .none kV_fits_side dc_fits_side pm_fits_side an_fits_side cd_fits_side ct_fits_side), sl_fits_side⟩)
    (c_fits_side : PySem.W.codeIn K cd_fits_side "fits_side" = true)
    (k_fits_side : PySem.W.keepIn K (.ref f_fits_side) = true)
    (a_are_settled : PySem.W.nsIn K mainGlobals "are_settled" = some (some (.ref f_are_settled)))
    (l_are_settled : K.lookup f_are_settled = some ⟨oc_are_settled, od_are_settled, .func (PySem.W.fnOf "are_settled" "are_settled" (defArgs s_are_settled) (defBody s_are_settled) (defScope s_are_settled) .none kV_are_settled dc_are_settled pm_are_settled an_are_settled cd_are_settled ct_are_settled), sl_are_settled⟩)
    (c_are_settled : PySem.W.codeIn K cd_are_settled "are_settled" = true)
    (k_are_settled : PySem.W.keepIn K (.ref f_are_settled) = true)
    (a_are_parts : PySem.W.nsIn K mainGlobals "are_parts" = some (some (.ref f_are_parts)))
    (l_are_parts : K.lookup f_are_parts = some ⟨oc_are_parts, od_are_parts, .func (PySem.W.fnOf "are_parts" "are_parts" (defArgs s_are_parts) (defBody s_are_parts) (defScope s_are_parts) .none kV_are_parts dc_are_parts pm_are_parts an_are_parts cd_are_parts ct_are_parts), sl_are_parts⟩)
    (c_are_parts : PySem.W.codeIn K cd_are_parts "are_parts" = true)
    (k_are_parts : PySem.W.keepIn K (.ref f_are_parts) = true)
    (a_is_role : PySem.W.nsIn K mainGlobals "is_role" = some (some (.ref f_is_role)))
    (l_is_role : K.lookup f_is_role = some ⟨oc_is_role, od_is_role, .func (PySem.W.fnOf "is_role" "is_role" (defArgs s_is_role) (defBody s_is_role) (defScope s_is_role) .none kV_is_role dc_is_role pm_is_role an_is_role cd_is_role ct_is_role), sl_is_role⟩)
    (c_is_role : PySem.W.codeIn K cd_is_role "is_role" = true)
    (k_is_role : PySem.W.keepIn K (.ref f_is_role) = true)
    (a_check_tries : PySem.W.nsIn K mainGlobals "check_tries" = some (some (.ref f_check_tries)))
    (l_check_tries : K.lookup f_check_tries = some ⟨oc_check_tries, od_check_tries, .func (PySem.W.fnOf "check_tries" "check_tries" (defArgs s_check_tries) (defBody s_check_tries) (defScope s_check_tries) .none kV_check_tries dc_check_tries pm_check_tries an_check_tries cd_check_tries ct_check_tries), sl_check_tries⟩)
    (c_check_tries : PySem.W.codeIn K cd_check_tries "check_tries" = true)
    (k_check_tries : PySem.W.keepIn K (.ref f_check_tries) = true)
    (a_stepping_rules : PySem.W.nsIn K mainGlobals "stepping_rules" = some (some (.ref f_stepping_rules)))
    (l_stepping_rules : K.lookup f_stepping_rules = some ⟨oc_stepping_rules, od_stepping_rules, .func (PySem.W.fnOf "stepping_rules" "stepping_rules" (defArgs s_stepping_rules) (defBody s_stepping_rules) (defScope s_stepping_rules) .none kV_stepping_rules dc_stepping_rules pm_stepping_rules an_stepping_rules cd_stepping_rules ct_stepping_rules), sl_stepping_rules⟩)
    (c_stepping_rules : PySem.W.codeIn K cd_stepping_rules "stepping_rules" = true)
    (k_stepping_rules : PySem.W.keepIn K (.ref f_stepping_rules) = true)
    (a__law_purse : PySem.W.nsIn K mainGlobals "_law_purse" = some (some (.ref f__law_purse)))
    (l__law_purse : K.lookup f__law_purse = some ⟨oc__law_purse, od__law_purse, .func (PySem.W.fnOf "_law_purse" "_law_purse" (defArgs s__law_purse) (defBody s__law_purse) (defScope s__law_purse) .none kV__law_purse dc__law_purse pm__law_purse an__law_purse cd__law_purse ct__law_purse), sl__law_purse⟩)
    (c__law_purse : PySem.W.codeIn K cd__law_purse "_law_purse" = true)
    (k__law_purse : PySem.W.keepIn K (.ref f__law_purse) = true)
    (a__law_draw : PySem.W.nsIn K mainGlobals "_law_draw" = some (some (.ref f__law_draw)))
    (l__law_draw : K.lookup f__law_draw = some ⟨oc__law_draw, od__law_draw, .func (PySem.W.fnOf "_law_draw" "_law_draw" (defArgs s__law_draw) (defBody s__law_draw) (defScope s__law_draw) .none kV__law_draw dc__law_draw pm__law_draw an__law_draw cd__law_draw ct__law_draw), sl__law_draw⟩)
    (c__law_draw : PySem.W.codeIn K cd__law_draw "_law_draw" = true)
    (k__law_draw : PySem.W.keepIn K (.ref f__law_draw) = true)
    (a__law_rule : PySem.W.nsIn K mainGlobals "_law_rule" = some (some (.ref f__law_rule)))
    (l__law_rule : K.lookup f__law_rule = some ⟨oc__law_rule, od__law_rule, .func (PySem.W.fnOf "_law_rule" "_law_rule" (defArgs s__law_rule) (defBody s__law_rule) (defScope s__law_rule) .none kV__law_rule dc__law_rule pm__law_rule an__law_rule cd__law_rule ct__law_rule), sl__law_rule⟩)
    (c__law_rule : PySem.W.codeIn K cd__law_rule "_law_rule" = true)
    (k__law_rule : PySem.W.keepIn K (.ref f__law_rule) = true)
    (a__law_role : PySem.W.nsIn K mainGlobals "_law_role" = some (some (.ref f__law_role)))
    (l__law_role : K.lookup f__law_role = some ⟨oc__law_role, od__law_role, .func (PySem.W.fnOf "_law_role" "_law_role" (defArgs s__law_role) (defBody s__law_role) (defScope s__law_role) .none kV__law_role dc__law_role pm__law_role an__law_role cd__law_role ct__law_role), sl__law_role⟩)
    (c__law_role : PySem.W.codeIn K cd__law_role "_law_role" = true)
    (k__law_role : PySem.W.keepIn K (.ref f__law_role) = true)
    (a__law_made : PySem.W.nsIn K mainGlobals "_law_made" = some (some (.ref f__law_made)))
    (l__law_made : K.lookup f__law_made = some ⟨oc__law_made, od__law_made, .func (PySem.W.fnOf "_law_made" "_law_made" (defArgs s__law_made) (defBody s__law_made) (defScope s__law_made) .none kV__law_made dc__law_made pm__law_made an__law_made cd__law_made ct__law_made), sl__law_made⟩)
    (c__law_made : PySem.W.codeIn K cd__law_made "_law_made" = true)
    (k__law_made : PySem.W.keepIn K (.ref f__law_made) = true)
    (a__law_due : PySem.W.nsIn K mainGlobals "_law_due" = some (some (.ref f__law_due)))
    (l__law_due : K.lookup f__law_due = some ⟨oc__law_due, od__law_due, .func (PySem.W.fnOf "_law_due" "_law_due" (defArgs s__law_due) (defBody s__law_due) (defScope s__law_due) .none kV__law_due dc__law_due pm__law_due an__law_due cd__law_due ct__law_due), sl__law_due⟩)
    (c__law_due : PySem.W.codeIn K cd__law_due "_law_due" = true)
    (k__law_due : PySem.W.keepIn K (.ref f__law_due) = true)
    (a__law_parts : PySem.W.nsIn K mainGlobals "_law_parts" = some (some (.ref f__law_parts)))
    (l__law_parts : K.lookup f__law_parts = some ⟨oc__law_parts, od__law_parts, .func (PySem.W.fnOf "_law_parts" "_law_parts" (defArgs s__law_parts) (defBody s__law_parts) (defScope s__law_parts) .none kV__law_parts dc__law_parts pm__law_parts an__law_parts cd__law_parts ct__law_parts), sl__law_parts⟩)
    (c__law_parts : PySem.W.codeIn K cd__law_parts "_law_parts" = true)
    (k__law_parts : PySem.W.keepIn K (.ref f__law_parts) = true)
    (a__law_right : PySem.W.nsIn K mainGlobals "_law_right" = some (some (.ref f__law_right)))
    (l__law_right : K.lookup f__law_right = some ⟨oc__law_right, od__law_right, .func (PySem.W.fnOf "_law_right" "_law_right" (defArgs s__law_right) (defBody s__law_right) (defScope s__law_right) .none kV__law_right dc__law_right pm__law_right an__law_right cd__law_right ct__law_right), sl__law_right⟩)
    (c__law_right : PySem.W.codeIn K cd__law_right "_law_right" = true)
    (k__law_right : PySem.W.keepIn K (.ref f__law_right) = true)
    (a__law_refused : PySem.W.nsIn K mainGlobals "_law_refused" = some (some (.ref f__law_refused)))
    (l__law_refused : K.lookup f__law_refused = some ⟨oc__law_refused, od__law_refused, .func (PySem.W.fnOf "_law_refused" "_law_refused" (defArgs s__law_refused) (defBody s__law_refused) (defScope s__law_refused) .none kV__law_refused dc__law_refused pm__law_refused an__law_refused cd__law_refused ct__law_refused), sl__law_refused⟩)
    (c__law_refused : PySem.W.codeIn K cd__law_refused "_law_refused" = true)
    (k__law_refused : PySem.W.keepIn K (.ref f__law_refused) = true)
    (a_law : PySem.W.nsIn K mainGlobals "law" = some (some (.ref f_law)))
    (l_law : K.lookup f_law = some ⟨oc_law, od_law, .func (PySem.W.fnOf "law" "law" (defArgs s_law) (defBody s_law) (defScope s_law) .none kV_law dc_law pm_law an_law cd_law ct_law), sl_law⟩)
    (c_law : PySem.W.codeIn K cd_law "law" = true)
    (k_law : PySem.W.keepIn K (.ref f_law) = true)
    (a_stepping : PySem.W.nsIn K mainGlobals "stepping" = some (some (.ref f_stepping)))
    (l_stepping : K.lookup f_stepping = some ⟨oc_stepping, od_stepping, .func (PySem.W.fnOf "stepping" "stepping" (defArgs s_stepping) (defBody s_stepping) (defScope s_stepping) dV_stepping kV_stepping dc_stepping pm_stepping an_stepping cd_stepping ct_stepping), sl_stepping⟩)
    (c_stepping : PySem.W.codeIn K cd_stepping "stepping" = true)
    (k_stepping : PySem.W.keepIn K (.ref f_stepping) = true)
    (T0_stepping : dV_stepping = .none)
    (K0_stepping : kV_stepping = .ref Kd_stepping)
    (K1_stepping : PySem.W.nsIn K Kd_stepping "refuse" = some (some (.bool true)))
    (z_int : PySem.W.nsIn K mainGlobals "int" = some none)
    (z_bool : PySem.W.nsIn K mainGlobals "bool" = some none)
    (z_isinstance : PySem.W.nsIn K mainGlobals "isinstance" = some none)
    (z_list : PySem.W.nsIn K mainGlobals "list" = some none)
    (z_len : PySem.W.nsIn K mainGlobals "len" = some none)
    (z_range : PySem.W.nsIn K mainGlobals "range" = some none)
    (z_str : PySem.W.nsIn K mainGlobals "str" = some none)
    (z_max : PySem.W.nsIn K mainGlobals "max" = some none)
    (z_repr : PySem.W.nsIn K mainGlobals "repr" = some none)
    (z_tuple : PySem.W.nsIn K mainGlobals "tuple" = some none)
    (z_set : PySem.W.nsIn K mainGlobals "set" = some none)
    (z_sorted : PySem.W.nsIn K mainGlobals "sorted" = some none)
    (a_InvalidRule : PySem.W.nsIn K mainGlobals "InvalidRule" = some (some (.ref A_InvalidRule)))
    (xL_InvalidRule : K.lookup A_InvalidRule = some (excClassObj nm_InvalidRule q_InvalidRule A_InvalidRule N_InvalidRule bs_InvalidRule bm_InvalidRule true sn_InvalidRule sub_InvalidRule ab_InvalidRule col_InvalidRule dd_InvalidRule k0_InvalidRule k1_InvalidRule k2_InvalidRule k3_InvalidRule k5_InvalidRule "ValueError.__new__"))
    (rf_InvalidRule : PySem.HandSPX.refsVE bm_InvalidRule = true)
    (sa_InvalidRule : PySem.W.findIn K (.ref A_InvalidRule) "__setattr__" = some (some (.builtin "object.__setattr__")))
    (ex_InvalidRule : PySem.W.subIn K (.ref A_InvalidRule) (.type "BaseException") = some true)
    (no_InvalidRule : PySem.W.findIn K (.ref A_InvalidRule) "value" = some none)
    (ty_InvalidRule : PySem.W.typeIn K (.ref A_InvalidRule) = some (.type "type"))
    (kp_InvalidRule : PySem.W.keepIn K (.ref A_InvalidRule) = true)
    (iC_InvalidRule : PySem.W.findIn K (.ref A_InvalidRule) "__init__" = some (some (.ref I_InvalidRule)))
    (tI_InvalidRule : PySem.W.typeIn K (.ref I_InvalidRule) = some (.type "function"))
    (hm_InvalidRule : PySem.W.ks_superIn K A_InvalidRule A_InvalidRule "__init__" = some (some (.builtin "ValueError.__init__")))
    (hB_InvalidRule : PySem.W.subIn K (.ref A_InvalidRule) (.type "ValueError") = some true)
    (hD_InvalidRule : PySem.W.mroIn K A_InvalidRule (.ref A_InvalidRule) = some true)
    (l1_InvalidRule : K.lookup I_InvalidRule = some ⟨oc_InvalidRule, od_InvalidRule, .func (PySem.W.ksFn "__init__" "InvalidRule.__init__" (defArgs i_InvalidRule) (ixBody p_InvalidRule) ixScope (.ref T_InvalidRule) kV_InvalidRule doc_InvalidRule pm_InvalidRule an_InvalidRule (.ref cda_InvalidRule) ct_InvalidRule cc_InvalidRule), osl_InvalidRule⟩)
    (lT_InvalidRule : K.lookup T_InvalidRule = some ⟨tc_InvalidRule, td_InvalidRule, .seq [.none].toArray tn_InvalidRule, ts_InvalidRule⟩)
    (c1_InvalidRule : PySem.W.codeIn K (.ref cda_InvalidRule) "InvalidRule.__init__" = true)
    (l2_InvalidRule : K.lookup cda_InvalidRule = some ⟨ccl_InvalidRule, cdd_InvalidRule, .fields vs_InvalidRule, ccs_InvalidRule⟩)
    (v2_InvalidRule : vs_InvalidRule[2]? = some (.str file_InvalidRule tf_InvalidRule))
    (fi_InvalidRule : ((PySem.Challenge.pw_everypair_k70_stepping_tables.main.file : Str) == file_InvalidRule) = true)
    (l3_InvalidRule : K.lookup cc_InvalidRule = some ⟨cl_InvalidRule, cld_InvalidRule, .cell (some (.ref A_InvalidRule)), csl_InvalidRule⟩)
    (a_InvalidRole : PySem.W.nsIn K mainGlobals "InvalidRole" = some (some (.ref A_InvalidRole)))
    (xL_InvalidRole : K.lookup A_InvalidRole = some (excClassObj nm_InvalidRole q_InvalidRole A_InvalidRole N_InvalidRole bs_InvalidRole bm_InvalidRole true sn_InvalidRole sub_InvalidRole ab_InvalidRole col_InvalidRole dd_InvalidRole k0_InvalidRole k1_InvalidRole k2_InvalidRole k3_InvalidRole k5_InvalidRole "ValueError.__new__"))
    (rf_InvalidRole : PySem.HandSPX.refsVE bm_InvalidRole = true)
    (sa_InvalidRole : PySem.W.findIn K (.ref A_InvalidRole) "__setattr__" = some (some (.builtin "object.__setattr__")))
    (ex_InvalidRole : PySem.W.subIn K (.ref A_InvalidRole) (.type "BaseException") = some true)
    (no_InvalidRole : PySem.W.findIn K (.ref A_InvalidRole) "value" = some none)
    (ty_InvalidRole : PySem.W.typeIn K (.ref A_InvalidRole) = some (.type "type"))
    (kp_InvalidRole : PySem.W.keepIn K (.ref A_InvalidRole) = true)
    (iC_InvalidRole : PySem.W.findIn K (.ref A_InvalidRole) "__init__" = some (some (.ref I_InvalidRole)))
    (tI_InvalidRole : PySem.W.typeIn K (.ref I_InvalidRole) = some (.type "function"))
    (hm_InvalidRole : PySem.W.ks_superIn K A_InvalidRole A_InvalidRole "__init__" = some (some (.builtin "ValueError.__init__")))
    (hB_InvalidRole : PySem.W.subIn K (.ref A_InvalidRole) (.type "ValueError") = some true)
    (hD_InvalidRole : PySem.W.mroIn K A_InvalidRole (.ref A_InvalidRole) = some true)
    (l1_InvalidRole : K.lookup I_InvalidRole = some ⟨oc_InvalidRole, od_InvalidRole, .func (PySem.W.ksFn "__init__" "InvalidRole.__init__" (defArgs i_InvalidRole) (ixBody p_InvalidRole) ixScope (.ref T_InvalidRole) kV_InvalidRole doc_InvalidRole pm_InvalidRole an_InvalidRole (.ref cda_InvalidRole) ct_InvalidRole cc_InvalidRole), osl_InvalidRole⟩)
    (lT_InvalidRole : K.lookup T_InvalidRole = some ⟨tc_InvalidRole, td_InvalidRole, .seq [.none].toArray tn_InvalidRole, ts_InvalidRole⟩)
    (c1_InvalidRole : PySem.W.codeIn K (.ref cda_InvalidRole) "InvalidRole.__init__" = true)
    (l2_InvalidRole : K.lookup cda_InvalidRole = some ⟨ccl_InvalidRole, cdd_InvalidRole, .fields vs_InvalidRole, ccs_InvalidRole⟩)
    (v2_InvalidRole : vs_InvalidRole[2]? = some (.str file_InvalidRole tf_InvalidRole))
    (fi_InvalidRole : ((PySem.Challenge.pw_everypair_k70_stepping_tables.main.file : Str) == file_InvalidRole) = true)
    (l3_InvalidRole : K.lookup cc_InvalidRole = some ⟨cl_InvalidRole, cld_InvalidRole, .cell (some (.ref A_InvalidRole)), csl_InvalidRole⟩)
    (a_InvalidDesign : PySem.W.nsIn K mainGlobals "InvalidDesign" = some (some (.ref A_InvalidDesign)))
    (xL_InvalidDesign : K.lookup A_InvalidDesign = some (excClassObj nm_InvalidDesign q_InvalidDesign A_InvalidDesign N_InvalidDesign bs_InvalidDesign bm_InvalidDesign true sn_InvalidDesign sub_InvalidDesign ab_InvalidDesign col_InvalidDesign dd_InvalidDesign k0_InvalidDesign k1_InvalidDesign k2_InvalidDesign k3_InvalidDesign k5_InvalidDesign "ValueError.__new__"))
    (rf_InvalidDesign : PySem.HandSPX.refsVE bm_InvalidDesign = true)
    (sa_InvalidDesign : PySem.W.findIn K (.ref A_InvalidDesign) "__setattr__" = some (some (.builtin "object.__setattr__")))
    (ex_InvalidDesign : PySem.W.subIn K (.ref A_InvalidDesign) (.type "BaseException") = some true)
    (no_InvalidDesign : PySem.W.findIn K (.ref A_InvalidDesign) "value" = some none)
    (ty_InvalidDesign : PySem.W.typeIn K (.ref A_InvalidDesign) = some (.type "type"))
    (kp_InvalidDesign : PySem.W.keepIn K (.ref A_InvalidDesign) = true)
    (iC_InvalidDesign : PySem.W.findIn K (.ref A_InvalidDesign) "__init__" = some (some (.ref I_InvalidDesign)))
    (tI_InvalidDesign : PySem.W.typeIn K (.ref I_InvalidDesign) = some (.type "function"))
    (hm_InvalidDesign : PySem.W.ks_superIn K A_InvalidDesign A_InvalidDesign "__init__" = some (some (.builtin "ValueError.__init__")))
    (hB_InvalidDesign : PySem.W.subIn K (.ref A_InvalidDesign) (.type "ValueError") = some true)
    (hD_InvalidDesign : PySem.W.mroIn K A_InvalidDesign (.ref A_InvalidDesign) = some true)
    (l1_InvalidDesign : K.lookup I_InvalidDesign = some ⟨oc_InvalidDesign, od_InvalidDesign, .func (PySem.W.ksFn "__init__" "InvalidDesign.__init__" (defArgs i_InvalidDesign) (ixBody p_InvalidDesign) ixScope (.ref T_InvalidDesign) kV_InvalidDesign doc_InvalidDesign pm_InvalidDesign an_InvalidDesign (.ref cda_InvalidDesign) ct_InvalidDesign cc_InvalidDesign), osl_InvalidDesign⟩)
    (lT_InvalidDesign : K.lookup T_InvalidDesign = some ⟨tc_InvalidDesign, td_InvalidDesign, .seq [.none].toArray tn_InvalidDesign, ts_InvalidDesign⟩)
    (c1_InvalidDesign : PySem.W.codeIn K (.ref cda_InvalidDesign) "InvalidDesign.__init__" = true)
    (l2_InvalidDesign : K.lookup cda_InvalidDesign = some ⟨ccl_InvalidDesign, cdd_InvalidDesign, .fields vs_InvalidDesign, ccs_InvalidDesign⟩)
    (v2_InvalidDesign : vs_InvalidDesign[2]? = some (.str file_InvalidDesign tf_InvalidDesign))
    (fi_InvalidDesign : ((PySem.Challenge.pw_everypair_k70_stepping_tables.main.file : Str) == file_InvalidDesign) = true)
    (l3_InvalidDesign : K.lookup cc_InvalidDesign = some ⟨cl_InvalidDesign, cld_InvalidDesign, .cell (some (.ref A_InvalidDesign)), csl_InvalidDesign⟩)
    (a_InvalidNumber : PySem.W.nsIn K mainGlobals "InvalidNumber" = some (some (.ref A_InvalidNumber)))
    (xL_InvalidNumber : K.lookup A_InvalidNumber = some (excClassObj nm_InvalidNumber q_InvalidNumber A_InvalidNumber N_InvalidNumber bs_InvalidNumber bm_InvalidNumber true sn_InvalidNumber sub_InvalidNumber ab_InvalidNumber col_InvalidNumber dd_InvalidNumber k0_InvalidNumber k1_InvalidNumber k2_InvalidNumber k3_InvalidNumber k5_InvalidNumber "ValueError.__new__"))
    (rf_InvalidNumber : PySem.HandSPX.refsVE bm_InvalidNumber = true)
    (sa_InvalidNumber : PySem.W.findIn K (.ref A_InvalidNumber) "__setattr__" = some (some (.builtin "object.__setattr__")))
    (ex_InvalidNumber : PySem.W.subIn K (.ref A_InvalidNumber) (.type "BaseException") = some true)
    (no_InvalidNumber : PySem.W.findIn K (.ref A_InvalidNumber) "value" = some none)
    (ty_InvalidNumber : PySem.W.typeIn K (.ref A_InvalidNumber) = some (.type "type"))
    (kp_InvalidNumber : PySem.W.keepIn K (.ref A_InvalidNumber) = true)
    (iC_InvalidNumber : PySem.W.findIn K (.ref A_InvalidNumber) "__init__" = some (some (.ref I_InvalidNumber)))
    (tI_InvalidNumber : PySem.W.typeIn K (.ref I_InvalidNumber) = some (.type "function"))
    (hm_InvalidNumber : PySem.W.ks_superIn K A_InvalidNumber A_InvalidNumber "__init__" = some (some (.builtin "ValueError.__init__")))
    (hB_InvalidNumber : PySem.W.subIn K (.ref A_InvalidNumber) (.type "ValueError") = some true)
    (hD_InvalidNumber : PySem.W.mroIn K A_InvalidNumber (.ref A_InvalidNumber) = some true)
    (l1_InvalidNumber : K.lookup I_InvalidNumber = some ⟨oc_InvalidNumber, od_InvalidNumber, .func (PySem.W.ksFn "__init__" "InvalidNumber.__init__" (defArgs i_InvalidNumber) (ixBody p_InvalidNumber) ixScope (.ref T_InvalidNumber) kV_InvalidNumber doc_InvalidNumber pm_InvalidNumber an_InvalidNumber (.ref cda_InvalidNumber) ct_InvalidNumber cc_InvalidNumber), osl_InvalidNumber⟩)
    (lT_InvalidNumber : K.lookup T_InvalidNumber = some ⟨tc_InvalidNumber, td_InvalidNumber, .seq [.none].toArray tn_InvalidNumber, ts_InvalidNumber⟩)
    (c1_InvalidNumber : PySem.W.codeIn K (.ref cda_InvalidNumber) "InvalidNumber.__init__" = true)
    (l2_InvalidNumber : K.lookup cda_InvalidNumber = some ⟨ccl_InvalidNumber, cdd_InvalidNumber, .fields vs_InvalidNumber, ccs_InvalidNumber⟩)
    (v2_InvalidNumber : vs_InvalidNumber[2]? = some (.str file_InvalidNumber tf_InvalidNumber))
    (fi_InvalidNumber : ((PySem.Challenge.pw_everypair_k70_stepping_tables.main.file : Str) == file_InvalidNumber) = true)
    (l3_InvalidNumber : K.lookup cc_InvalidNumber = some ⟨cl_InvalidNumber, cld_InvalidNumber, .cell (some (.ref A_InvalidNumber)), csl_InvalidNumber⟩)
    (ga_InvalidNumber : PySem.W.findIn K (.ref A_InvalidNumber) "__getattribute__" = some (some (.builtin "BaseException.__getattribute__")))
    (gg_InvalidNumber : PySem.W.findIn K (.ref A_InvalidNumber) "__getattr__" = some none)
    (hd_InvalidNumber : PySem.W.hasDictIn K A_InvalidNumber = true)
    (ic_InvalidNumber : PySem.W.isClsIn K A_InvalidNumber = true)
    (ac_InvalidNumber : PySem.W.findIn K (.ref A_InvalidNumber) "__class__" = some (some (.builtin "object.__class__")))
    (ob_InvalidNumber : PySem.W.mroIn K A_InvalidNumber (.type "object") = some true)
    (a_EveryPairError : PySem.W.nsIn K mainGlobals "EveryPairError" = some (some (.ref A_EveryPairError)))
    (a_LETTERS : PySem.W.nsIn K mainGlobals "LETTERS" = some (some (.str "abcdefghijklmnopqrstuvwxyz" tk_LETTERS)))
    (a_TIMEOUT : PySem.W.nsIn K mainGlobals "TIMEOUT" = some (some (.str "timeout" tk_TIMEOUT)))
    (a_LONGEST_NAME : PySem.W.nsIn K mainGlobals "LONGEST_NAME" = some (some (.int 8 tk_LONGEST_NAME)))
    (a_CALLER_TESTS : PySem.W.nsIn K mainGlobals "CALLER_TESTS" = some (some (.ref A_CALLER_TESTS)))
    (l_CALLER_TESTS : K.lookup A_CALLER_TESTS = some ⟨.type "tuple", od_CALLER_TESTS, .seq [.str "any" t0_CALLER_TESTS, .str "same" t1_CALLER_TESTS, .str "older" t2_CALLER_TESTS, .str "below" t3_CALLER_TESTS].toArray nn_CALLER_TESTS, sl_CALLER_TESTS⟩)
    (a_HOST_TESTS : PySem.W.nsIn K mainGlobals "HOST_TESTS" = some (some (.ref A_HOST_TESTS)))
    (l_HOST_TESTS : K.lookup A_HOST_TESTS = some ⟨.type "tuple", od_HOST_TESTS, .seq [.str "any" t0_HOST_TESTS, .str "have" t1_HOST_TESTS, .str "lack" t2_HOST_TESTS, .str "held" t3_HOST_TESTS, .str "better" t4_HOST_TESTS, .str "meet" t5_HOST_TESTS, .str "none" t6_HOST_TESTS].toArray nn_HOST_TESTS, sl_HOST_TESTS⟩)
    (a_CALLER_MOVES : PySem.W.nsIn K mainGlobals "CALLER_MOVES" = some (some (.ref A_CALLER_MOVES)))
    (l_CALLER_MOVES : K.lookup A_CALLER_MOVES = some ⟨.type "tuple", od_CALLER_MOVES, .seq [.str "stay" t0_CALLER_MOVES, .str "down" t1_CALLER_MOVES, .str "there" t2_CALLER_MOVES].toArray nn_CALLER_MOVES, sl_CALLER_MOVES⟩)
    (a_HOST_MOVES : PySem.W.nsIn K mainGlobals "HOST_MOVES" = some (some (.ref A_HOST_MOVES)))
    (l_HOST_MOVES : K.lookup A_HOST_MOVES = some ⟨.type "tuple", od_HOST_MOVES, .seq [.str "stay" t0_HOST_MOVES, .str "take" t1_HOST_MOVES, .str "pick" t2_HOST_MOVES, .str "drop" t3_HOST_MOVES].toArray nn_HOST_MOVES, sl_HOST_MOVES⟩)
    (a_SIDES : PySem.W.nsIn K mainGlobals "SIDES" = some (some (.ref A_SIDES)))
    (l_SIDES : K.lookup A_SIDES = some ⟨.type "tuple", od_SIDES, .seq [.str "caller" t0_SIDES, .str "host" t1_SIDES].toArray nn_SIDES, sl_SIDES⟩)
    (a_MODES : PySem.W.nsIn K mainGlobals "MODES" = some (some (.ref A_MODES)))
    (l_MODES : K.lookup A_MODES = some ⟨.type "tuple", od_MODES, .seq [.str "a" t0_MODES, .str "b" t1_MODES, .str "c" t2_MODES, .str "d" t3_MODES].toArray nn_MODES, sl_MODES⟩)
    (a_Rule : PySem.W.nsIn K mainGlobals "Rule" = some (some (.ref A_Rule)))
    (pg_Rule : PySem.W.plainGet K A_Rule Str.empty = true)
    (hd_Rule : PySem.W.hasDictIn K A_Rule = true)
    (po_Rule : PySem.W.plainOver K A_Rule = true)
    (sa_Rule : PySem.W.findIn K (.ref A_Rule) "__setattr__" = some (some (.builtin "object.__setattr__")))
    (na_Rule_fields : PySem.W.findIn K (.ref A_Rule) "fields" = some none)
    (ha_Rule : PySem.W.findIn K (.ref A_Rule) "__class__" = some (some (.builtin "object.__class__")))
    (mo_Rule : PySem.W.mroIn K A_Rule (.type "object") = some true)
    (nk_Rule : NoKit K A_Rule)
    (a_Role : PySem.W.nsIn K mainGlobals "Role" = some (some (.ref A_Role)))
    (pg_Role : PySem.W.plainGet K A_Role Str.empty = true)
    (hd_Role : PySem.W.hasDictIn K A_Role = true)
    (po_Role : PySem.W.plainOver K A_Role = true)
    (sa_Role : PySem.W.findIn K (.ref A_Role) "__setattr__" = some (some (.builtin "object.__setattr__")))
    (na_Role_ends : PySem.W.findIn K (.ref A_Role) "ends" = some none)
    (na_Role_table : PySem.W.findIn K (.ref A_Role) "table" = some none)
    (na_Role_calm : PySem.W.findIn K (.ref A_Role) "calm" = some none)
    (ha_Role : PySem.W.findIn K (.ref A_Role) "__class__" = some (some (.builtin "object.__class__")))
    (mo_Role : PySem.W.mroIn K A_Role (.type "object") = some true)
    (nk_Role : NoKit K A_Role)
    (a_Design : PySem.W.nsIn K mainGlobals "Design" = some (some (.ref A_Design)))
    (pg_Design : PySem.W.plainGet K A_Design Str.empty = true)
    (hd_Design : PySem.W.hasDictIn K A_Design = true)
    (po_Design : PySem.W.plainOver K A_Design = true)
    (sa_Design : PySem.W.findIn K (.ref A_Design) "__setattr__" = some (some (.builtin "object.__setattr__")))
    (na_Design_roles : PySem.W.findIn K (.ref A_Design) "roles" = some none)
    (na_Design_word : PySem.W.findIn K (.ref A_Design) "word" = some none)
    (ha_Design : PySem.W.findIn K (.ref A_Design) "__class__" = some (some (.builtin "object.__class__")))
    (mo_Design : PySem.W.mroIn K A_Design (.type "object") = some true)
    (nl_Design : K.lookup A_Design = some (excClassObj nm_Design q_Design A_Design N_Design bs_Design [.type "object"] true sn_Design sub_Design ab_Design col_Design dd_Design k0_Design k1_Design k2_Design k3_Design k5_Design nw_Design))
    (nn_Design : PySem.W.nsOkIn K N_Design = true)
    (ne_Design : PySem.W.nsIn K N_Design "__eq__" = some (some (.ref fe_Design)))
    (nx_Design : PySem.W.nsIn K N_Design "__ne__" = some none)
    (nf1_Design : PySem.W.findIn K (.ref A_Design) "__eq__" = some (some (.ref fe_Design)))
    (nf2_Design : K.lookup fe_Design = some oe_Design)
    (nf3_Design : oe_Design.cls = .type "function")
    (at_Rule_mode : PySem.W.findIn K (.ref A_Rule) "mode" = some (some (.ref p_Rule_mode)))
    (sg_Rule_mode : PySem.W.specialIn K (.ref p_Rule_mode) "__get__" = some (some (.builtin "property.__get__")))
    (tk_Rule_mode : PySem.W.takesIn K (.ref p_Rule_mode) = some true)
    (re_Rule_mode : PySem.W.recIn K p_Rule_mode "property" = some (.ref f_Rule_mode :: r_Rule_mode))
    (l_Rule_mode : K.lookup f_Rule_mode = some ⟨oc_Rule_mode, od_Rule_mode, .func (PySem.W.fnOf "mode" "Rule.mode" (defArgs s_Rule_mode) (defBody s_Rule_mode) (defScope s_Rule_mode) .none kV_Rule_mode dc_Rule_mode pm_Rule_mode an_Rule_mode cd_Rule_mode ct_Rule_mode), sl_Rule_mode⟩)
    (c_Rule_mode : PySem.W.codeIn K cd_Rule_mode "Rule.mode" = true)
    (k_Rule_mode : PySem.W.keepIn K (.ref f_Rule_mode) = true)
    (at_Rule_heard : PySem.W.findIn K (.ref A_Rule) "heard" = some (some (.ref p_Rule_heard)))
    (sg_Rule_heard : PySem.W.specialIn K (.ref p_Rule_heard) "__get__" = some (some (.builtin "property.__get__")))
    (tk_Rule_heard : PySem.W.takesIn K (.ref p_Rule_heard) = some true)
    (re_Rule_heard : PySem.W.recIn K p_Rule_heard "property" = some (.ref f_Rule_heard :: r_Rule_heard))
    (l_Rule_heard : K.lookup f_Rule_heard = some ⟨oc_Rule_heard, od_Rule_heard, .func (PySem.W.fnOf "heard" "Rule.heard" (defArgs s_Rule_heard) (defBody s_Rule_heard) (defScope s_Rule_heard) .none kV_Rule_heard dc_Rule_heard pm_Rule_heard an_Rule_heard cd_Rule_heard ct_Rule_heard), sl_Rule_heard⟩)
    (c_Rule_heard : PySem.W.codeIn K cd_Rule_heard "Rule.heard" = true)
    (k_Rule_heard : PySem.W.keepIn K (.ref f_Rule_heard) = true)
    (at_Rule_which : PySem.W.findIn K (.ref A_Rule) "which" = some (some (.ref p_Rule_which)))
    (sg_Rule_which : PySem.W.specialIn K (.ref p_Rule_which) "__get__" = some (some (.builtin "property.__get__")))
    (tk_Rule_which : PySem.W.takesIn K (.ref p_Rule_which) = some true)
    (re_Rule_which : PySem.W.recIn K p_Rule_which "property" = some (.ref f_Rule_which :: r_Rule_which))
    (l_Rule_which : K.lookup f_Rule_which = some ⟨oc_Rule_which, od_Rule_which, .func (PySem.W.fnOf "which" "Rule.which" (defArgs s_Rule_which) (defBody s_Rule_which) (defScope s_Rule_which) .none kV_Rule_which dc_Rule_which pm_Rule_which an_Rule_which cd_Rule_which ct_Rule_which), sl_Rule_which⟩)
    (c_Rule_which : PySem.W.codeIn K cd_Rule_which "Rule.which" = true)
    (k_Rule_which : PySem.W.keepIn K (.ref f_Rule_which) = true)
    (at_Rule_then : PySem.W.findIn K (.ref A_Rule) "then" = some (some (.ref p_Rule_then)))
    (sg_Rule_then : PySem.W.specialIn K (.ref p_Rule_then) "__get__" = some (some (.builtin "property.__get__")))
    (tk_Rule_then : PySem.W.takesIn K (.ref p_Rule_then) = some true)
    (re_Rule_then : PySem.W.recIn K p_Rule_then "property" = some (.ref f_Rule_then :: r_Rule_then))
    (l_Rule_then : K.lookup f_Rule_then = some ⟨oc_Rule_then, od_Rule_then, .func (PySem.W.fnOf "then" "Rule.then" (defArgs s_Rule_then) (defBody s_Rule_then) (defScope s_Rule_then) .none kV_Rule_then dc_Rule_then pm_Rule_then an_Rule_then cd_Rule_then ct_Rule_then), sl_Rule_then⟩)
    (c_Rule_then : PySem.W.codeIn K cd_Rule_then "Rule.then" = true)
    (k_Rule_then : PySem.W.keepIn K (.ref f_Rule_then) = true)
    (at_Rule_move : PySem.W.findIn K (.ref A_Rule) "move" = some (some (.ref p_Rule_move)))
    (sg_Rule_move : PySem.W.specialIn K (.ref p_Rule_move) "__get__" = some (some (.builtin "property.__get__")))
    (tk_Rule_move : PySem.W.takesIn K (.ref p_Rule_move) = some true)
    (re_Rule_move : PySem.W.recIn K p_Rule_move "property" = some (.ref f_Rule_move :: r_Rule_move))
    (l_Rule_move : K.lookup f_Rule_move = some ⟨oc_Rule_move, od_Rule_move, .func (PySem.W.fnOf "move" "Rule.move" (defArgs s_Rule_move) (defBody s_Rule_move) (defScope s_Rule_move) .none kV_Rule_move dc_Rule_move pm_Rule_move an_Rule_move cd_Rule_move ct_Rule_move), sl_Rule_move⟩)
    (c_Rule_move : PySem.W.codeIn K cd_Rule_move "Rule.move" = true)
    (k_Rule_move : PySem.W.keepIn K (.ref f_Rule_move) = true)
    (at_Rule_send : PySem.W.findIn K (.ref A_Rule) "send" = some (some (.ref p_Rule_send)))
    (sg_Rule_send : PySem.W.specialIn K (.ref p_Rule_send) "__get__" = some (some (.builtin "property.__get__")))
    (tk_Rule_send : PySem.W.takesIn K (.ref p_Rule_send) = some true)
    (re_Rule_send : PySem.W.recIn K p_Rule_send "property" = some (.ref f_Rule_send :: r_Rule_send))
    (l_Rule_send : K.lookup f_Rule_send = some ⟨oc_Rule_send, od_Rule_send, .func (PySem.W.fnOf "send" "Rule.send" (defArgs s_Rule_send) (defBody s_Rule_send) (defScope s_Rule_send) .none kV_Rule_send dc_Rule_send pm_Rule_send an_Rule_send cd_Rule_send ct_Rule_send), sl_Rule_send⟩)
    (c_Rule_send : PySem.W.codeIn K cd_Rule_send "Rule.send" = true)
    (k_Rule_send : PySem.W.keepIn K (.ref f_Rule_send) = true)
    (at_Role_side : PySem.W.findIn K (.ref A_Role) "side" = some (some (.ref p_Role_side)))
    (sg_Role_side : PySem.W.specialIn K (.ref p_Role_side) "__get__" = some (some (.builtin "property.__get__")))
    (tk_Role_side : PySem.W.takesIn K (.ref p_Role_side) = some true)
    (re_Role_side : PySem.W.recIn K p_Role_side "property" = some (.ref f_Role_side :: r_Role_side))
    (l_Role_side : K.lookup f_Role_side = some ⟨oc_Role_side, od_Role_side, .func (PySem.W.fnOf "side" "Role.side" (defArgs s_Role_side) (defBody s_Role_side) (defScope s_Role_side) .none kV_Role_side dc_Role_side pm_Role_side an_Role_side cd_Role_side ct_Role_side), sl_Role_side⟩)
    (c_Role_side : PySem.W.codeIn K cd_Role_side "Role.side" = true)
    (k_Role_side : PySem.W.keepIn K (.ref f_Role_side) = true)
    (at_Role_first : PySem.W.findIn K (.ref A_Role) "first" = some (some (.ref p_Role_first)))
    (sg_Role_first : PySem.W.specialIn K (.ref p_Role_first) "__get__" = some (some (.builtin "property.__get__")))
    (tk_Role_first : PySem.W.takesIn K (.ref p_Role_first) = some true)
    (re_Role_first : PySem.W.recIn K p_Role_first "property" = some (.ref f_Role_first :: r_Role_first))
    (l_Role_first : K.lookup f_Role_first = some ⟨oc_Role_first, od_Role_first, .func (PySem.W.fnOf "first" "Role.first" (defArgs s_Role_first) (defBody s_Role_first) (defScope s_Role_first) .none kV_Role_first dc_Role_first pm_Role_first an_Role_first cd_Role_first ct_Role_first), sl_Role_first⟩)
    (c_Role_first : PySem.W.codeIn K cd_Role_first "Role.first" = true)
    (k_Role_first : PySem.W.keepIn K (.ref f_Role_first) = true)
    (at_Role_rules : PySem.W.findIn K (.ref A_Role) "rules" = some (some (.ref p_Role_rules)))
    (sg_Role_rules : PySem.W.specialIn K (.ref p_Role_rules) "__get__" = some (some (.builtin "property.__get__")))
    (tk_Role_rules : PySem.W.takesIn K (.ref p_Role_rules) = some true)
    (re_Role_rules : PySem.W.recIn K p_Role_rules "property" = some (.ref f_Role_rules :: r_Role_rules))
    (l_Role_rules : K.lookup f_Role_rules = some ⟨oc_Role_rules, od_Role_rules, .func (PySem.W.fnOf "rules" "Role.rules" (defArgs s_Role_rules) (defBody s_Role_rules) (defScope s_Role_rules) .none kV_Role_rules dc_Role_rules pm_Role_rules an_Role_rules cd_Role_rules ct_Role_rules), sl_Role_rules⟩)
    (c_Role_rules : PySem.W.codeIn K cd_Role_rules "Role.rules" = true)
    (k_Role_rules : PySem.W.keepIn K (.ref f_Role_rules) = true)
    (at_Role_settled : PySem.W.findIn K (.ref A_Role) "settled" = some (some (.ref p_Role_settled)))
    (sg_Role_settled : PySem.W.specialIn K (.ref p_Role_settled) "__get__" = some (some (.builtin "property.__get__")))
    (tk_Role_settled : PySem.W.takesIn K (.ref p_Role_settled) = some true)
    (re_Role_settled : PySem.W.recIn K p_Role_settled "property" = some (.ref f_Role_settled :: r_Role_settled))
    (l_Role_settled : K.lookup f_Role_settled = some ⟨oc_Role_settled, od_Role_settled, .func (PySem.W.fnOf "settled" "Role.settled" (defArgs s_Role_settled) (defBody s_Role_settled) (defScope s_Role_settled) .none kV_Role_settled dc_Role_settled pm_Role_settled an_Role_settled cd_Role_settled ct_Role_settled), sl_Role_settled⟩)
    (c_Role_settled : PySem.W.codeIn K cd_Role_settled "Role.settled" = true)
    (k_Role_settled : PySem.W.keepIn K (.ref f_Role_settled) = true)
    (at_Design_caller : PySem.W.findIn K (.ref A_Design) "caller" = some (some (.ref p_Design_caller)))
    (sg_Design_caller : PySem.W.specialIn K (.ref p_Design_caller) "__get__" = some (some (.builtin "property.__get__")))
    (tk_Design_caller : PySem.W.takesIn K (.ref p_Design_caller) = some true)
    (re_Design_caller : PySem.W.recIn K p_Design_caller "property" = some (.ref f_Design_caller :: r_Design_caller))
    (l_Design_caller : K.lookup f_Design_caller = some ⟨oc_Design_caller, od_Design_caller, .func (PySem.W.fnOf "caller" "Design.caller" (defArgs s_Design_caller) (defBody s_Design_caller) (defScope s_Design_caller) .none kV_Design_caller dc_Design_caller pm_Design_caller an_Design_caller cd_Design_caller ct_Design_caller), sl_Design_caller⟩)
    (c_Design_caller : PySem.W.codeIn K cd_Design_caller "Design.caller" = true)
    (k_Design_caller : PySem.W.keepIn K (.ref f_Design_caller) = true)
    (at_Design_host : PySem.W.findIn K (.ref A_Design) "host" = some (some (.ref p_Design_host)))
    (sg_Design_host : PySem.W.specialIn K (.ref p_Design_host) "__get__" = some (some (.builtin "property.__get__")))
    (tk_Design_host : PySem.W.takesIn K (.ref p_Design_host) = some true)
    (re_Design_host : PySem.W.recIn K p_Design_host "property" = some (.ref f_Design_host :: r_Design_host))
    (l_Design_host : K.lookup f_Design_host = some ⟨oc_Design_host, od_Design_host, .func (PySem.W.fnOf "host" "Design.host" (defArgs s_Design_host) (defBody s_Design_host) (defScope s_Design_host) .none kV_Design_host dc_Design_host pm_Design_host an_Design_host cd_Design_host ct_Design_host), sl_Design_host⟩)
    (c_Design_host : PySem.W.codeIn K cd_Design_host "Design.host" = true)
    (k_Design_host : PySem.W.keepIn K (.ref f_Design_host) = true)
    (at_Design_hello : PySem.W.findIn K (.ref A_Design) "hello" = some (some (.ref p_Design_hello)))
    (sg_Design_hello : PySem.W.specialIn K (.ref p_Design_hello) "__get__" = some (some (.builtin "property.__get__")))
    (tk_Design_hello : PySem.W.takesIn K (.ref p_Design_hello) = some true)
    (re_Design_hello : PySem.W.recIn K p_Design_hello "property" = some (.ref f_Design_hello :: r_Design_hello))
    (l_Design_hello : K.lookup f_Design_hello = some ⟨oc_Design_hello, od_Design_hello, .func (PySem.W.fnOf "hello" "Design.hello" (defArgs s_Design_hello) (defBody s_Design_hello) (defScope s_Design_hello) .none kV_Design_hello dc_Design_hello pm_Design_hello an_Design_hello cd_Design_hello ct_Design_hello), sl_Design_hello⟩)
    (c_Design_hello : PySem.W.codeIn K cd_Design_hello "Design.hello" = true)
    (k_Design_hello : PySem.W.keepIn K (.ref f_Design_hello) = true)
    (at_Rule___eq__ : PySem.W.findIn K (.ref A_Rule) "__eq__" = some (some (.ref f_Rule___eq__)))
    (fn_Rule___eq__ : PySem.W.isFn K (.ref f_Rule___eq__) = true)
    (l_Rule___eq__ : K.lookup f_Rule___eq__ = some ⟨oc_Rule___eq__, od_Rule___eq__, .func (PySem.W.fnOf "__eq__" "Rule.__eq__" (defArgs s_Rule___eq__) (defBody s_Rule___eq__) (defScope s_Rule___eq__) .none kV_Rule___eq__ dc_Rule___eq__ pm_Rule___eq__ an_Rule___eq__ cd_Rule___eq__ ct_Rule___eq__), sl_Rule___eq__⟩)
    (c_Rule___eq__ : PySem.W.codeIn K cd_Rule___eq__ "Rule.__eq__" = true)
    (k_Rule___eq__ : PySem.W.keepIn K (.ref f_Rule___eq__) = true)
    (at_Role___eq__ : PySem.W.findIn K (.ref A_Role) "__eq__" = some (some (.ref f_Role___eq__)))
    (fn_Role___eq__ : PySem.W.isFn K (.ref f_Role___eq__) = true)
    (l_Role___eq__ : K.lookup f_Role___eq__ = some ⟨oc_Role___eq__, od_Role___eq__, .func (PySem.W.fnOf "__eq__" "Role.__eq__" (defArgs s_Role___eq__) (defBody s_Role___eq__) (defScope s_Role___eq__) .none kV_Role___eq__ dc_Role___eq__ pm_Role___eq__ an_Role___eq__ cd_Role___eq__ ct_Role___eq__), sl_Role___eq__⟩)
    (c_Role___eq__ : PySem.W.codeIn K cd_Role___eq__ "Role.__eq__" = true)
    (k_Role___eq__ : PySem.W.keepIn K (.ref f_Role___eq__) = true)
    (at_Design___eq__ : PySem.W.findIn K (.ref A_Design) "__eq__" = some (some (.ref f_Design___eq__)))
    (fn_Design___eq__ : PySem.W.isFn K (.ref f_Design___eq__) = true)
    (l_Design___eq__ : K.lookup f_Design___eq__ = some ⟨oc_Design___eq__, od_Design___eq__, .func (PySem.W.fnOf "__eq__" "Design.__eq__" (defArgs s_Design___eq__) (defBody s_Design___eq__) (defScope s_Design___eq__) .none kV_Design___eq__ dc_Design___eq__ pm_Design___eq__ an_Design___eq__ cd_Design___eq__ ct_Design___eq__), sl_Design___eq__⟩)
    (c_Design___eq__ : PySem.W.codeIn K cd_Design___eq__ "Design.__eq__" = true)
    (k_Design___eq__ : PySem.W.keepIn K (.ref f_Design___eq__) = true)
    (mk_Rule : PySem.W.makesIn K A_Rule = true)
    (in_Rule : PySem.W.findIn K (.ref A_Rule) "__init__" = some (some (.ref f_Rule___init__)))
    (fn_Rule___init__ : PySem.W.isFn K (.ref f_Rule___init__) = true)
    (kc_Rule : PySem.W.keepIn K (.ref A_Rule) = true)
    (l_Rule___init__ : K.lookup f_Rule___init__ = some ⟨oc_Rule___init__, od_Rule___init__, .func (PySem.W.fnOf "__init__" "Rule.__init__" (defArgs s_Rule___init__) (defBody s_Rule___init__) (defScope s_Rule___init__) dV_Rule___init__ kV_Rule___init__ dc_Rule___init__ pm_Rule___init__ an_Rule___init__ cd_Rule___init__ ct_Rule___init__), sl_Rule___init__⟩)
    (c_Rule___init__ : PySem.W.codeIn K cd_Rule___init__ "Rule.__init__" = true)
    (k_Rule___init__ : PySem.W.keepIn K (.ref f_Rule___init__) = true)
    (T0_Rule___init__ : dV_Rule___init__ = .ref T_Rule___init__)
    (T1_Rule___init__ : K.lookup T_Rule___init__ = some ⟨To_Rule___init__, Td_Rule___init__, .seq [.str "any" tt0_Rule___init__].toArray Tn_Rule___init__, Ts_Rule___init__⟩)
    (K0_Rule___init__ : kV_Rule___init__ = .ref Kd_Rule___init__)
    (K1_Rule___init__ : PySem.W.nsIn K Kd_Rule___init__ "then" = some (some (.none)))
    (K2_Rule___init__ : PySem.W.nsIn K Kd_Rule___init__ "move" = some (some (.str "stay" tk1_Rule___init__)))
    (K3_Rule___init__ : PySem.W.nsIn K Kd_Rule___init__ "send" = some (some (.none)))
    (mk_Role : PySem.W.makesIn K A_Role = true)
    (in_Role : PySem.W.findIn K (.ref A_Role) "__init__" = some (some (.ref f_Role___init__)))
    (fn_Role___init__ : PySem.W.isFn K (.ref f_Role___init__) = true)
    (kc_Role : PySem.W.keepIn K (.ref A_Role) = true)
    (l_Role___init__ : K.lookup f_Role___init__ = some ⟨oc_Role___init__, od_Role___init__, .func (PySem.W.fnOf "__init__" "Role.__init__" (defArgs s_Role___init__) (defBody s_Role___init__) (defScope s_Role___init__) dV_Role___init__ kV_Role___init__ dc_Role___init__ pm_Role___init__ an_Role___init__ cd_Role___init__ ct_Role___init__), sl_Role___init__⟩)
    (c_Role___init__ : PySem.W.codeIn K cd_Role___init__ "Role.__init__" = true)
    (k_Role___init__ : PySem.W.keepIn K (.ref f_Role___init__) = true)
    (T0_Role___init__ : dV_Role___init__ = .ref T_Role___init__)
    (T1_Role___init__ : K.lookup T_Role___init__ = some ⟨To_Role___init__, Td_Role___init__, .seq [.ref E_Role].toArray Tn_Role___init__, Ts_Role___init__⟩)
    (mk_Design : PySem.W.makesIn K A_Design = true)
    (in_Design : PySem.W.findIn K (.ref A_Design) "__init__" = some (some (.ref f_Design___init__)))
    (fn_Design___init__ : PySem.W.isFn K (.ref f_Design___init__) = true)
    (kc_Design : PySem.W.keepIn K (.ref A_Design) = true)
    (l_Design___init__ : K.lookup f_Design___init__ = some ⟨oc_Design___init__, od_Design___init__, .func (PySem.W.fnOf "__init__" "Design.__init__" (defArgs s_Design___init__) (defBody s_Design___init__) (defScope s_Design___init__) dV_Design___init__ kV_Design___init__ dc_Design___init__ pm_Design___init__ an_Design___init__ cd_Design___init__ ct_Design___init__), sl_Design___init__⟩)
    (c_Design___init__ : PySem.W.codeIn K cd_Design___init__ "Design.__init__" = true)
    (k_Design___init__ : PySem.W.keepIn K (.ref f_Design___init__) = true)
    (T0_Design___init__ : dV_Design___init__ = .none)
    (kx : PySem.W.exmOne K (.ref A_InvalidNumber) (.ref A_EveryPairError) = some true)
    (base : Heap) : Cal PySem.Challenge.pw_everypair_k70_stepping_tables w K mg base "law" 14 ["_law_script"] spd_law := by
  have hsy : ∃ o, K.lookup sysModules = some o := ⟨_, zsys⟩
  have d_is_whole : DefAt K mg "is_whole" s_is_whole := defAt_of X G a_is_whole l_is_whole c_is_whole k_is_whole
  have d_is_name : DefAt K mg "is_name" s_is_name := defAt_of X G a_is_name l_is_name c_is_name k_is_name
  have d_is_word : DefAt K mg "is_word" s_is_word := defAt_of X G a_is_word l_is_word c_is_word k_is_word
  have d_is_name_or_none : DefAt K mg "is_name_or_none" s_is_name_or_none := defAt_of X G a_is_name_or_none l_is_name_or_none c_is_name_or_none k_is_name_or_none
  have d_are_fields : DefAt K mg "are_fields" s_are_fields := defAt_of X G a_are_fields l_are_fields c_are_fields k_are_fields
  have d_fits_caller : DefAt K mg "fits_caller" s_fits_caller := defAt_of X G a_fits_caller l_fits_caller c_fits_caller k_fits_caller
  have d_fits_host : DefAt K mg "fits_host" s_fits_host := defAt_of X G a_fits_host l_fits_host c_fits_host k_fits_host
  have d_fits_side : DefAt K mg "fits_side" s_fits_side := defAt_of X G a_fits_side l_fits_side c_fits_side k_fits_side
  have d_are_settled : DefAt K mg "are_settled" s_are_settled := defAt_of X G a_are_settled l_are_settled c_are_settled k_are_settled
  have d_are_parts : DefAt K mg "are_parts" s_are_parts := defAt_of X G a_are_parts l_are_parts c_are_parts k_are_parts
  have d_is_role : DefAt K mg "is_role" s_is_role := defAt_of X G a_is_role l_is_role c_is_role k_is_role
  have d_check_tries : DefAt K mg "check_tries" s_check_tries := defAt_of X G a_check_tries l_check_tries c_check_tries k_check_tries
  have d_stepping_rules : DefAt K mg "stepping_rules" s_stepping_rules := defAt_of X G a_stepping_rules l_stepping_rules c_stepping_rules k_stepping_rules
  have d__law_purse : DefAt K mg "_law_purse" s__law_purse := defAt_of X G a__law_purse l__law_purse c__law_purse k__law_purse
  have d__law_draw : DefAt K mg "_law_draw" s__law_draw := defAt_of X G a__law_draw l__law_draw c__law_draw k__law_draw
  have d__law_rule : DefAt K mg "_law_rule" s__law_rule := defAt_of X G a__law_rule l__law_rule c__law_rule k__law_rule
  have d__law_role : DefAt K mg "_law_role" s__law_role := defAt_of X G a__law_role l__law_role c__law_role k__law_role
  have d__law_made : DefAt K mg "_law_made" s__law_made := defAt_of X G a__law_made l__law_made c__law_made k__law_made
  have d__law_due : DefAt K mg "_law_due" s__law_due := defAt_of X G a__law_due l__law_due c__law_due k__law_due
  have d__law_parts : DefAt K mg "_law_parts" s__law_parts := defAt_of X G a__law_parts l__law_parts c__law_parts k__law_parts
  have d__law_right : DefAt K mg "_law_right" s__law_right := defAt_of X G a__law_right l__law_right c__law_right k__law_right
  have d__law_refused : DefAt K mg "_law_refused" s__law_refused := defAt_of X G a__law_refused l__law_refused c__law_refused k__law_refused
  have d_law : DefAt K mg "law" s_law := defAt_of X G a_law l_law c_law k_law
  have d_stepping : FunAt K mg "stepping" s_stepping [] [("refuse", V.bl true)] := ⟨_, _, ⟨⟨_, _, _, _, _, _, _, _, _, _, rfl, l_stepping, c_stepping, .inl ⟨rfl, T0_stepping⟩, .inr ⟨Kd_stepping, K0_stepping, fun q hq => by
    rw [List.mem_singleton.mp hq]
    exact ⟨_, K1_stepping, rfl⟩⟩⟩, k_stepping⟩, PySem.W.mg_of X G a_stepping⟩
  have m_int := PySem.W.mg_none_of X G z_int
  have m_bool := PySem.W.mg_none_of X G z_bool
  have m_isinstance := PySem.W.mg_none_of X G z_isinstance
  have m_list := PySem.W.mg_none_of X G z_list
  have m_len := PySem.W.mg_none_of X G z_len
  have m_range := PySem.W.mg_none_of X G z_range
  have m_str := PySem.W.mg_none_of X G z_str
  have m_max := PySem.W.mg_none_of X G z_max
  have m_repr := PySem.W.mg_none_of X G z_repr
  have m_tuple := PySem.W.mg_none_of X G z_tuple
  have m_set := PySem.W.mg_none_of X G z_set
  have m_sorted := PySem.W.mg_none_of X G z_sorted
  have m_InvalidRule := PySem.W.mg_of X G a_InvalidRule
  have o_InvalidRule : OwnX PySem.Challenge.pw_everypair_k70_stepping_tables K A_InvalidRule I_InvalidRule := ⟨⟨⟨_, _, _, _, _, _, _, _, _, _, _, _, _, _, _, xL_InvalidRule, rf_InvalidRule⟩, sa_InvalidRule, ex_InvalidRule, ty_InvalidRule, kp_InvalidRule⟩, iC_InvalidRule, tI_InvalidRule, no_InvalidRule, zsup, zopq, hm_InvalidRule, hB_InvalidRule, hD_InvalidRule, by decide +kernel, _, _, _, _, _, _, _, _, _, _, _, _, _, _, _, _, _, _, _, _, _, _, _, _, _, l1_InvalidRule, c1_InvalidRule, l2_InvalidRule, v2_InvalidRule, fi_InvalidRule, l3_InvalidRule, rfl, rfl, own_binds lT_InvalidRule rfl (fun _ _ => ⟨_, rfl, rfl⟩), fun _ => rfl⟩
  have m_InvalidRole := PySem.W.mg_of X G a_InvalidRole
  have o_InvalidRole : OwnX PySem.Challenge.pw_everypair_k70_stepping_tables K A_InvalidRole I_InvalidRole := ⟨⟨⟨_, _, _, _, _, _, _, _, _, _, _, _, _, _, _, xL_InvalidRole, rf_InvalidRole⟩, sa_InvalidRole, ex_InvalidRole, ty_InvalidRole, kp_InvalidRole⟩, iC_InvalidRole, tI_InvalidRole, no_InvalidRole, zsup, zopq, hm_InvalidRole, hB_InvalidRole, hD_InvalidRole, by decide +kernel, _, _, _, _, _, _, _, _, _, _, _, _, _, _, _, _, _, _, _, _, _, _, _, _, _, l1_InvalidRole, c1_InvalidRole, l2_InvalidRole, v2_InvalidRole, fi_InvalidRole, l3_InvalidRole, rfl, rfl, own_binds lT_InvalidRole rfl (fun _ _ => ⟨_, rfl, rfl⟩), fun _ => rfl⟩
  have m_InvalidDesign := PySem.W.mg_of X G a_InvalidDesign
  have o_InvalidDesign : OwnX PySem.Challenge.pw_everypair_k70_stepping_tables K A_InvalidDesign I_InvalidDesign := ⟨⟨⟨_, _, _, _, _, _, _, _, _, _, _, _, _, _, _, xL_InvalidDesign, rf_InvalidDesign⟩, sa_InvalidDesign, ex_InvalidDesign, ty_InvalidDesign, kp_InvalidDesign⟩, iC_InvalidDesign, tI_InvalidDesign, no_InvalidDesign, zsup, zopq, hm_InvalidDesign, hB_InvalidDesign, hD_InvalidDesign, by decide +kernel, _, _, _, _, _, _, _, _, _, _, _, _, _, _, _, _, _, _, _, _, _, _, _, _, _, l1_InvalidDesign, c1_InvalidDesign, l2_InvalidDesign, v2_InvalidDesign, fi_InvalidDesign, l3_InvalidDesign, rfl, rfl, own_binds lT_InvalidDesign rfl (fun _ _ => ⟨_, rfl, rfl⟩), fun _ => rfl⟩
  have m_InvalidNumber := PySem.W.mg_of X G a_InvalidNumber
  have o_InvalidNumber : OwnX PySem.Challenge.pw_everypair_k70_stepping_tables K A_InvalidNumber I_InvalidNumber := ⟨⟨⟨_, _, _, _, _, _, _, _, _, _, _, _, _, _, _, xL_InvalidNumber, rf_InvalidNumber⟩, sa_InvalidNumber, ex_InvalidNumber, ty_InvalidNumber, kp_InvalidNumber⟩, iC_InvalidNumber, tI_InvalidNumber, no_InvalidNumber, zsup, zopq, hm_InvalidNumber, hB_InvalidNumber, hD_InvalidNumber, by decide +kernel, _, _, _, _, _, _, _, _, _, _, _, _, _, _, _, _, _, _, _, _, _, _, _, _, _, l1_InvalidNumber, c1_InvalidNumber, l2_InvalidNumber, v2_InvalidNumber, fi_InvalidNumber, l3_InvalidNumber, rfl, rfl, own_binds lT_InvalidNumber rfl (fun _ _ => ⟨_, rfl, rfl⟩), fun _ => rfl⟩
  have x_InvalidNumber : XfE K A_InvalidNumber := ⟨⟨ga_InvalidNumber, gg_InvalidNumber, ex_InvalidNumber, hd_InvalidNumber⟩, no_InvalidNumber, ic_InvalidNumber, ac_InvalidNumber, zsp, ztk, ob_InvalidNumber⟩
  have m_EveryPairError := PySem.W.mg_of X G a_EveryPairError
  have c_LETTERS : ConAt K mg "LETTERS" (.str "abcdefghijklmnopqrstuvwxyz") := con_str (PySem.W.mg_of X G a_LETTERS)
  have c_TIMEOUT : ConAt K mg "TIMEOUT" (.str "timeout") := con_str (PySem.W.mg_of X G a_TIMEOUT)
  have c_LONGEST_NAME : ConAt K mg "LONGEST_NAME" (.int 8) := con_int (PySem.W.mg_of X G a_LONGEST_NAME)
  have c_CALLER_TESTS : ConAt K mg "CALLER_TESTS" (.tup ((["any", "same", "older", "below"] : List Str).map D.str)) := con_strs (PySem.W.mg_of X G a_CALLER_TESTS) l_CALLER_TESTS rfl rfl (by show 4 ≤ sizeLine; decide) (.cons ⟨_, rfl⟩ (.cons ⟨_, rfl⟩ (.cons ⟨_, rfl⟩ (.cons ⟨_, rfl⟩ .nil))))
  have c_HOST_TESTS : ConAt K mg "HOST_TESTS" (.tup ((["any", "have", "lack", "held", "better", "meet", "none"] : List Str).map D.str)) := con_strs (PySem.W.mg_of X G a_HOST_TESTS) l_HOST_TESTS rfl rfl (by show 7 ≤ sizeLine; decide) (.cons ⟨_, rfl⟩ (.cons ⟨_, rfl⟩ (.cons ⟨_, rfl⟩ (.cons ⟨_, rfl⟩ (.cons ⟨_, rfl⟩ (.cons ⟨_, rfl⟩ (.cons ⟨_, rfl⟩ .nil)))))))
  have c_CALLER_MOVES : ConAt K mg "CALLER_MOVES" (.tup ((["stay", "down", "there"] : List Str).map D.str)) := con_strs (PySem.W.mg_of X G a_CALLER_MOVES) l_CALLER_MOVES rfl rfl (by show 3 ≤ sizeLine; decide) (.cons ⟨_, rfl⟩ (.cons ⟨_, rfl⟩ (.cons ⟨_, rfl⟩ .nil)))
  have c_HOST_MOVES : ConAt K mg "HOST_MOVES" (.tup ((["stay", "take", "pick", "drop"] : List Str).map D.str)) := con_strs (PySem.W.mg_of X G a_HOST_MOVES) l_HOST_MOVES rfl rfl (by show 4 ≤ sizeLine; decide) (.cons ⟨_, rfl⟩ (.cons ⟨_, rfl⟩ (.cons ⟨_, rfl⟩ (.cons ⟨_, rfl⟩ .nil))))
  have c_SIDES : ConAt K mg "SIDES" (.tup ((["caller", "host"] : List Str).map D.str)) := con_strs (PySem.W.mg_of X G a_SIDES) l_SIDES rfl rfl (by show 2 ≤ sizeLine; decide) (.cons ⟨_, rfl⟩ (.cons ⟨_, rfl⟩ .nil))
  have c_MODES : ConAt K mg "MODES" (.tup ((["a", "b", "c", "d"] : List Str).map D.str)) := con_strs (PySem.W.mg_of X G a_MODES) l_MODES rfl rfl (by show 4 ≤ sizeLine; decide) (.cons ⟨_, rfl⟩ (.cons ⟨_, rfl⟩ (.cons ⟨_, rfl⟩ (.cons ⟨_, rfl⟩ .nil))))
  have m_Rule := PySem.W.mg_of X G a_Rule
  have cl_Rule : Cls K A_Rule := ⟨pg_Rule, hd_Rule, po_Rule, sa_Rule⟩
  have fo_Rule_fields : FldOk K A_Rule "fields" := ⟨cl_Rule, na_Rule_fields⟩
  have io_Rule : InsOk K A_Rule := ⟨cl_Rule, ha_Rule, zsp, ztk, mo_Rule⟩
  have m_Role := PySem.W.mg_of X G a_Role
  have cl_Role : Cls K A_Role := ⟨pg_Role, hd_Role, po_Role, sa_Role⟩
  have fo_Role_ends : FldOk K A_Role "ends" := ⟨cl_Role, na_Role_ends⟩
  have fo_Role_table : FldOk K A_Role "table" := ⟨cl_Role, na_Role_table⟩
  have fo_Role_calm : FldOk K A_Role "calm" := ⟨cl_Role, na_Role_calm⟩
  have io_Role : InsOk K A_Role := ⟨cl_Role, ha_Role, zsp, ztk, mo_Role⟩
  have m_Design := PySem.W.mg_of X G a_Design
  have cl_Design : Cls K A_Design := ⟨pg_Design, hd_Design, po_Design, sa_Design⟩
  have fo_Design_roles : FldOk K A_Design "roles" := ⟨cl_Design, na_Design_roles⟩
  have fo_Design_word : FldOk K A_Design "word" := ⟨cl_Design, na_Design_word⟩
  have io_Design : InsOk K A_Design := ⟨cl_Design, ha_Design, zsp, ztk, mo_Design⟩
  have ne_Design_ : NeC K A_Design := ⟨_, N_Design, _, _, _, _, _, _, _, _, _, _, _, _, _, _, nl_Design, nn_Design, ne_Design, nx_Design, nf1_Design, _, nf2_Design, nf3_Design⟩
  have d_Rule_mode : PropAt K A_Rule "mode" "Rule.mode" s_Rule_mode := ⟨cl_Rule, _, _, _, ⟨at_Rule_mode, sg_Rule_mode, tk_Rule_mode, _, re_Rule_mode⟩, ⟨_, _, _, _, _, _, _, _, _, rfl, l_Rule_mode, c_Rule_mode⟩, k_Rule_mode⟩
  have d_Rule_heard : PropAt K A_Rule "heard" "Rule.heard" s_Rule_heard := ⟨cl_Rule, _, _, _, ⟨at_Rule_heard, sg_Rule_heard, tk_Rule_heard, _, re_Rule_heard⟩, ⟨_, _, _, _, _, _, _, _, _, rfl, l_Rule_heard, c_Rule_heard⟩, k_Rule_heard⟩
  have d_Rule_which : PropAt K A_Rule "which" "Rule.which" s_Rule_which := ⟨cl_Rule, _, _, _, ⟨at_Rule_which, sg_Rule_which, tk_Rule_which, _, re_Rule_which⟩, ⟨_, _, _, _, _, _, _, _, _, rfl, l_Rule_which, c_Rule_which⟩, k_Rule_which⟩
  have d_Rule_then : PropAt K A_Rule "then" "Rule.then" s_Rule_then := ⟨cl_Rule, _, _, _, ⟨at_Rule_then, sg_Rule_then, tk_Rule_then, _, re_Rule_then⟩, ⟨_, _, _, _, _, _, _, _, _, rfl, l_Rule_then, c_Rule_then⟩, k_Rule_then⟩
  have d_Rule_move : PropAt K A_Rule "move" "Rule.move" s_Rule_move := ⟨cl_Rule, _, _, _, ⟨at_Rule_move, sg_Rule_move, tk_Rule_move, _, re_Rule_move⟩, ⟨_, _, _, _, _, _, _, _, _, rfl, l_Rule_move, c_Rule_move⟩, k_Rule_move⟩
  have d_Rule_send : PropAt K A_Rule "send" "Rule.send" s_Rule_send := ⟨cl_Rule, _, _, _, ⟨at_Rule_send, sg_Rule_send, tk_Rule_send, _, re_Rule_send⟩, ⟨_, _, _, _, _, _, _, _, _, rfl, l_Rule_send, c_Rule_send⟩, k_Rule_send⟩
  have d_Role_side : PropAt K A_Role "side" "Role.side" s_Role_side := ⟨cl_Role, _, _, _, ⟨at_Role_side, sg_Role_side, tk_Role_side, _, re_Role_side⟩, ⟨_, _, _, _, _, _, _, _, _, rfl, l_Role_side, c_Role_side⟩, k_Role_side⟩
  have d_Role_first : PropAt K A_Role "first" "Role.first" s_Role_first := ⟨cl_Role, _, _, _, ⟨at_Role_first, sg_Role_first, tk_Role_first, _, re_Role_first⟩, ⟨_, _, _, _, _, _, _, _, _, rfl, l_Role_first, c_Role_first⟩, k_Role_first⟩
  have d_Role_rules : PropAt K A_Role "rules" "Role.rules" s_Role_rules := ⟨cl_Role, _, _, _, ⟨at_Role_rules, sg_Role_rules, tk_Role_rules, _, re_Role_rules⟩, ⟨_, _, _, _, _, _, _, _, _, rfl, l_Role_rules, c_Role_rules⟩, k_Role_rules⟩
  have d_Role_settled : PropAt K A_Role "settled" "Role.settled" s_Role_settled := ⟨cl_Role, _, _, _, ⟨at_Role_settled, sg_Role_settled, tk_Role_settled, _, re_Role_settled⟩, ⟨_, _, _, _, _, _, _, _, _, rfl, l_Role_settled, c_Role_settled⟩, k_Role_settled⟩
  have d_Design_caller : PropAt K A_Design "caller" "Design.caller" s_Design_caller := ⟨cl_Design, _, _, _, ⟨at_Design_caller, sg_Design_caller, tk_Design_caller, _, re_Design_caller⟩, ⟨_, _, _, _, _, _, _, _, _, rfl, l_Design_caller, c_Design_caller⟩, k_Design_caller⟩
  have d_Design_host : PropAt K A_Design "host" "Design.host" s_Design_host := ⟨cl_Design, _, _, _, ⟨at_Design_host, sg_Design_host, tk_Design_host, _, re_Design_host⟩, ⟨_, _, _, _, _, _, _, _, _, rfl, l_Design_host, c_Design_host⟩, k_Design_host⟩
  have d_Design_hello : PropAt K A_Design "hello" "Design.hello" s_Design_hello := ⟨cl_Design, _, _, _, ⟨at_Design_hello, sg_Design_hello, tk_Design_hello, _, re_Design_hello⟩, ⟨_, _, _, _, _, _, _, _, _, rfl, l_Design_hello, c_Design_hello⟩, k_Design_hello⟩
  have d_Rule___eq__ : MethAt K A_Rule "__eq__" "Rule.__eq__" s_Rule___eq__ := ⟨cl_Rule, _, _, ⟨at_Rule___eq__, fn_Rule___eq__, k_Rule___eq__⟩, ⟨_, _, _, _, _, _, _, _, _, rfl, l_Rule___eq__, c_Rule___eq__⟩, k_Rule___eq__⟩
  have d_Role___eq__ : MethAt K A_Role "__eq__" "Role.__eq__" s_Role___eq__ := ⟨cl_Role, _, _, ⟨at_Role___eq__, fn_Role___eq__, k_Role___eq__⟩, ⟨_, _, _, _, _, _, _, _, _, rfl, l_Role___eq__, c_Role___eq__⟩, k_Role___eq__⟩
  have d_Design___eq__ : MethAt K A_Design "__eq__" "Design.__eq__" s_Design___eq__ := ⟨cl_Design, _, _, ⟨at_Design___eq__, fn_Design___eq__, k_Design___eq__⟩, ⟨_, _, _, _, _, _, _, _, _, rfl, l_Design___eq__, c_Design___eq__⟩, k_Design___eq__⟩
  have d_Rule___init__ : InitAt K mg "Rule" A_Rule "Rule.__init__" s_Rule___init__ [.str "any"] [("then", .non), ("move", .str "stay"), ("send", .non)] := ⟨_, _, ⟨mk_Rule, in_Rule, fn_Rule___init__, kc_Rule⟩, m_Rule, ⟨_, _, _, _, _, _, _, _, _, _, rfl, l_Rule___init__, c_Rule___init__, .inr ⟨by simp, T_Rule___init__, _, _, _, T0_Rule___init__, T1_Rule___init__, rfl, (.cons ⟨_, rfl⟩ .nil)⟩, .inr ⟨Kd_Rule___init__, K0_Rule___init__, fun q hq => by
    simp only [List.mem_cons, List.not_mem_nil, or_false] at hq
    rcases hq with rfl | rfl | rfl
    · exact ⟨_, K1_Rule___init__, rfl⟩
    · exact ⟨_, K2_Rule___init__, ⟨_, rfl⟩⟩
    · exact ⟨_, K3_Rule___init__, rfl⟩⟩⟩, k_Rule___init__⟩
  have d_Role___init__ : InitAt K mg "Role" A_Role "Role.__init__" s_Role___init__ [.ref E_Role] [] := ⟨_, _, ⟨mk_Role, in_Role, fn_Role___init__, kc_Role⟩, m_Role, ⟨_, _, _, _, _, _, _, _, _, _, rfl, l_Role___init__, c_Role___init__, .inr ⟨by simp, T_Role___init__, _, _, _, T0_Role___init__, T1_Role___init__, rfl, (.cons rfl .nil)⟩, .inl rfl⟩, k_Role___init__⟩
  have d_Design___init__ : InitAt K mg "Design" A_Design "Design.__init__" s_Design___init__ [] [] := ⟨_, _, ⟨mk_Design, in_Design, fn_Design___init__, kc_Design⟩, m_Design, ⟨_, _, _, _, _, _, _, _, _, _, rfl, l_Design___init__, c_Design___init__, .inl ⟨rfl, T0_Design___init__⟩, .inl rfl⟩, k_Design___init__⟩
  have w_is_whole : Cal PySem.Challenge.pw_everypair_k70_stepping_tables w K mg base _ _ _ _ := cal_is_whole d_is_whole m_isinstance m_int m_bool
  have w_is_name : Cal PySem.Challenge.pw_everypair_k70_stepping_tables w K mg base _ _ _ _ := cal_is_name d_is_name c_LETTERS c_TIMEOUT c_LONGEST_NAME m_isinstance m_str m_len
  have w_is_word : Cal PySem.Challenge.pw_everypair_k70_stepping_tables w K mg base _ _ _ _ := cal_is_word d_is_word m_isinstance m_str
  have w_is_name_or_none : Cal PySem.Challenge.pw_everypair_k70_stepping_tables w K mg base _ _ _ _ := cal_is_name_or_none d_is_name_or_none w_is_name
  have w_are_fields : Cal PySem.Challenge.pw_everypair_k70_stepping_tables w K mg base _ _ _ _ := cal_are_fields d_are_fields w_is_name_or_none w_is_word c_TIMEOUT c_CALLER_TESTS c_HOST_TESTS c_CALLER_MOVES c_HOST_MOVES
  have g_Rule := cal_Rule (P := PySem.Challenge.pw_everypair_k70_stepping_tables) (w := w) (base := base) d_Rule___init__ w_are_fields fo_Rule_fields o_InvalidRule m_InvalidRule
  have p_mode : PropC PySem.Challenge.pw_everypair_k70_stepping_tables w K mg base _ _ _ _ := cal_Rule_mode d_Rule_mode fo_Rule_fields
  have p_heard : PropC PySem.Challenge.pw_everypair_k70_stepping_tables w K mg base _ _ _ _ := cal_Rule_heard d_Rule_heard fo_Rule_fields
  have p_which : PropC PySem.Challenge.pw_everypair_k70_stepping_tables w K mg base _ _ _ _ := cal_Rule_which d_Rule_which fo_Rule_fields
  have p_then : PropC PySem.Challenge.pw_everypair_k70_stepping_tables w K mg base _ _ _ _ := cal_Rule_then d_Rule_then fo_Rule_fields
  have p_move : PropC PySem.Challenge.pw_everypair_k70_stepping_tables w K mg base _ _ _ _ := cal_Rule_move d_Rule_move fo_Rule_fields
  have p_send : PropC PySem.Challenge.pw_everypair_k70_stepping_tables w K mg base _ _ _ _ := cal_Rule_send d_Rule_send fo_Rule_fields
  have q_Rule := cmp_of (cal_Rule___eq__ (P := PySem.Challenge.pw_everypair_k70_stepping_tables) (w := w) (base := base) d_Rule___eq__ fo_Rule_fields io_Rule nk_Rule (con_ref m_Rule) m_isinstance)
  have w_fits_caller : Cal PySem.Challenge.pw_everypair_k70_stepping_tables w K mg base _ _ _ _ := cal_fits_caller d_fits_caller p_which p_move p_send c_CALLER_TESTS c_CALLER_MOVES
  have w_fits_host : Cal PySem.Challenge.pw_everypair_k70_stepping_tables w K mg base _ _ _ _ := cal_fits_host d_fits_host p_which p_move c_HOST_TESTS c_HOST_MOVES
  have w_fits_side : Cal PySem.Challenge.pw_everypair_k70_stepping_tables w K mg base _ _ _ _ := cal_fits_side d_fits_side p_heard p_which c_TIMEOUT w_fits_caller w_fits_host
  have w_are_settled : Cal PySem.Challenge.pw_everypair_k70_stepping_tables w K mg base _ _ _ _ := cal_are_settled d_are_settled w_is_name m_isinstance m_list m_tuple m_len m_set
  have w_are_parts : Cal PySem.Challenge.pw_everypair_k70_stepping_tables w K mg base _ _ _ _ := cal_are_parts d_are_parts w_is_word w_is_name w_fits_side w_are_settled c_SIDES (con_ref m_Rule) m_isinstance m_list io_Rule
  have g_Role := cal_Role (P := PySem.Challenge.pw_everypair_k70_stepping_tables) (w := w) (base := base) d_Role___init__ w_are_parts fo_Role_ends fo_Role_table fo_Role_calm o_InvalidRole m_InvalidRole m_tuple m_sorted m_str
  have p_side : PropC PySem.Challenge.pw_everypair_k70_stepping_tables w K mg base _ _ _ _ := cal_Role_side d_Role_side fo_Role_ends fo_Role_table fo_Role_calm
  have p_first : PropC PySem.Challenge.pw_everypair_k70_stepping_tables w K mg base _ _ _ _ := cal_Role_first d_Role_first fo_Role_ends fo_Role_table fo_Role_calm
  have p_rules : PropC PySem.Challenge.pw_everypair_k70_stepping_tables w K mg base _ _ _ _ := cal_Role_rules d_Role_rules fo_Role_ends fo_Role_table fo_Role_calm m_list
  have p_settled : PropC PySem.Challenge.pw_everypair_k70_stepping_tables w K mg base _ _ _ _ := cal_Role_settled d_Role_settled fo_Role_ends fo_Role_table fo_Role_calm m_list
  have q_Role := cmp_of (cal_Role___eq__ (P := PySem.Challenge.pw_everypair_k70_stepping_tables) (w := w) (base := base) d_Role___eq__ fo_Role_ends fo_Role_table fo_Role_calm q_Rule io_Role nk_Role (con_ref m_Role) m_isinstance)
  have w_is_role : Cal PySem.Challenge.pw_everypair_k70_stepping_tables w K mg base _ _ _ _ := cal_is_role d_is_role p_side m_isinstance (con_ref m_Role) io_Role
  have g_Design := cal_Design (P := PySem.Challenge.pw_everypair_k70_stepping_tables) (w := w) (base := base) d_Design___init__ w_is_role w_is_name fo_Design_roles fo_Design_word o_InvalidDesign m_InvalidDesign
  have p_caller : PropC PySem.Challenge.pw_everypair_k70_stepping_tables w K mg base _ _ _ _ := cal_Design_caller (a_Role := A_Role) d_Design_caller fo_Design_roles fo_Design_word
  have p_host : PropC PySem.Challenge.pw_everypair_k70_stepping_tables w K mg base _ _ _ _ := cal_Design_host (a_Role := A_Role) d_Design_host fo_Design_roles fo_Design_word
  have p_hello : PropC PySem.Challenge.pw_everypair_k70_stepping_tables w K mg base _ _ _ _ := cal_Design_hello (a_Role := A_Role) d_Design_hello fo_Design_roles fo_Design_word
  have q_Design := cmp_of (cal_Design___eq__ (P := PySem.Challenge.pw_everypair_k70_stepping_tables) (w := w) (base := base) d_Design___eq__ fo_Design_roles fo_Design_word q_Role io_Design (con_ref m_Design) m_isinstance)
  have w_check_tries : Cal PySem.Challenge.pw_everypair_k70_stepping_tables w K mg base _ _ _ _ := cal_check_tries d_check_tries w_is_whole c_MODES m_len o_InvalidNumber m_InvalidNumber
  have w_stepping_rules : Cal PySem.Challenge.pw_everypair_k70_stepping_tables w K mg base _ _ _ _ := cal_stepping_rules d_stepping_rules (mkr_2_then g_Rule) (mkr_2_then_send g_Rule) (mkr_2_then_move_send g_Rule) (mkr_3_then g_Rule) (mkr_3_then_move_send g_Rule) (mkr_2 g_Rule) c_MODES c_TIMEOUT m_range
  have g_step := cal_stepping (P := PySem.Challenge.pw_everypair_k70_stepping_tables) (w := w) (base := base) d_stepping (mkr_3_then_move_send g_Rule) (mkr_3_send g_Rule) (mkr_2 g_Rule) (mko_4 g_Role) (mkd_3 g_Design) w_check_tries w_stepping_rules
  have w__law_purse : Cal PySem.Challenge.pw_everypair_k70_stepping_tables w K mg base _ _ _ _ := cal_purse d__law_purse m_int m_len m_max
  have w__law_draw : Cal PySem.Challenge.pw_everypair_k70_stepping_tables w K mg base _ _ _ _ := cal_draw d__law_draw m_int
  have w__law_rule : Cal PySem.Challenge.pw_everypair_k70_stepping_tables w K mg base _ _ _ _ := cal__law_rule d__law_rule (mkr_3_then_move_send g_Rule)
  have w__law_role : Cal PySem.Challenge.pw_everypair_k70_stepping_tables w K mg base _ _ _ _ := cal__law_role d__law_role w__law_rule (mko_4 g_Role) m_list
  have w__law_made : Cal PySem.Challenge.pw_everypair_k70_stepping_tables w K mg base _ _ _ _ := cal__law_made d__law_made w__law_role (mkd_3 g_Design)
  have w__law_due : Cal PySem.Challenge.pw_everypair_k70_stepping_tables w K mg base _ _ _ _ := cal__law_due d__law_due m_int
  have w__law_parts : Cal PySem.Challenge.pw_everypair_k70_stepping_tables w K mg base _ _ _ _ := cal__law_parts d__law_parts p_mode p_heard p_which p_then p_move p_send p_rules p_first p_settled
  have w__law_right : Cal PySem.Challenge.pw_everypair_k70_stepping_tables w K mg base _ _ _ _ := cal__law_right d__law_right w__law_made w__law_parts p_hello p_caller p_host p_side p_rules p_settled q_Design ne_Design_ io_Design (con_ref m_Design) m_isinstance
  have w__law_refused : Cal PySem.Challenge.pw_everypair_k70_stepping_tables w K mg base _ _ _ _ := cal__law_refused d__law_refused (step_D g_step) (step_K g_step) m_EveryPairError (con_ref m_InvalidNumber) m_isinstance m_repr hsy kx x_InvalidNumber
  exact cal_law d_law w__law_purse w__law_draw (step_D g_step) (step_K g_step) w__law_due w__law_right w__law_made w__law_refused q_Design ne_Design_ io_Design m_range m_int
end K
open PySem PySem.W PyProof.Rows
set_option maxRecDepth 100000 in
set_option maxHeartbeats 0 in
theorem PySem.Challenge.cw_everypair_k70_stepping_tables_holds : PySem.Challenge.rw_everypair_k70_stepping_tables.Holds := by
  w_on; o_law; x_head; (case hw => w_witness2)
  k_fill
  refine DD.walk_c (l := PySem.Challenge.rw_everypair_k70_stepping_tables) (n := 63) (k := 14) (x := "_law_script") (y := "law") (spd := K.spd_law) rfl (by decide) rfl ⟨rfl, by decide, by decide⟩ (fun w h Y => PySem.W.kIn_of Y) rfl ?F ?S
  case F =>
    intro w mg h KX G
    refine' K.all_mk KX G ?zsup ?zopq ?zsp ?ztk ?zsys ?a_is_whole ?l_is_whole ?c_is_whole ?k_is_whole ?a_is_name ?l_is_name ?c_is_name ?k_is_name ?a_is_word ?l_is_word ?c_is_word ?k_is_word ?a_is_name_or_none ?l_is_name_or_none ?c_is_name_or_none ?k_is_name_or_none ?a_are_fields ?l_are_fields ?c_are_fields ?k_are_fields ?a_fits_caller ?l_fits_caller ?c_fits_caller ?k_fits_caller ?a_fits_host ?l_fits_host ?c_fits_host ?k_fits_host ?a_fits_side ?l_fits_side ?c_fits_side ?k_fits_side ?a_are_settled ?l_are_settled ?c_are_settled ?k_are_settled ?a_are_parts ?l_are_parts ?c_are_parts ?k_are_parts ?a_is_role ?l_is_role ?c_is_role ?k_is_role ?a_check_tries ?l_check_tries ?c_check_tries ?k_check_tries ?a_stepping_rules ?l_stepping_rules ?c_stepping_rules ?k_stepping_rules ?a__law_purse ?l__law_purse ?c__law_purse ?k__law_purse ?a__law_draw ?l__law_draw ?c__law_draw ?k__law_draw ?a__law_rule ?l__law_rule ?c__law_rule ?k__law_rule ?a__law_role ?l__law_role ?c__law_role ?k__law_role ?a__law_made ?l__law_made ?c__law_made ?k__law_made ?a__law_due ?l__law_due ?c__law_due ?k__law_due ?a__law_parts ?l__law_parts ?c__law_parts ?k__law_parts ?a__law_right ?l__law_right ?c__law_right ?k__law_right ?a__law_refused ?l__law_refused ?c__law_refused ?k__law_refused ?a_law ?l_law ?c_law ?k_law ?a_stepping ?l_stepping ?c_stepping ?k_stepping ?T0_stepping ?K0_stepping ?K1_stepping ?z_int ?z_bool ?z_isinstance ?z_list ?z_len ?z_range ?z_str ?z_max ?z_repr ?z_tuple ?z_set ?z_sorted ?a_InvalidRule ?xL_InvalidRule ?rf_InvalidRule ?sa_InvalidRule ?ex_InvalidRule ?no_InvalidRule ?ty_InvalidRule ?kp_InvalidRule ?iC_InvalidRule ?tI_InvalidRule ?hm_InvalidRule ?hB_InvalidRule ?hD_InvalidRule ?l1_InvalidRule ?lT_InvalidRule ?c1_InvalidRule ?l2_InvalidRule ?v2_InvalidRule ?fi_InvalidRule ?l3_InvalidRule ?a_InvalidRole ?xL_InvalidRole ?rf_InvalidRole ?sa_InvalidRole ?ex_InvalidRole ?no_InvalidRole ?ty_InvalidRole ?kp_InvalidRole ?iC_InvalidRole ?tI_InvalidRole ?hm_InvalidRole ?hB_InvalidRole ?hD_InvalidRole ?l1_InvalidRole ?lT_InvalidRole ?c1_InvalidRole ?l2_InvalidRole ?v2_InvalidRole ?fi_InvalidRole ?l3_InvalidRole ?a_InvalidDesign ?xL_InvalidDesign ?rf_InvalidDesign ?sa_InvalidDesign ?ex_InvalidDesign ?no_InvalidDesign ?ty_InvalidDesign ?kp_InvalidDesign ?iC_InvalidDesign ?tI_InvalidDesign ?hm_InvalidDesign ?hB_InvalidDesign ?hD_InvalidDesign ?l1_InvalidDesign ?lT_InvalidDesign ?c1_InvalidDesign ?l2_InvalidDesign ?v2_InvalidDesign ?fi_InvalidDesign ?l3_InvalidDesign ?a_InvalidNumber ?xL_InvalidNumber ?rf_InvalidNumber ?sa_InvalidNumber ?ex_InvalidNumber ?no_InvalidNumber ?ty_InvalidNumber ?kp_InvalidNumber ?iC_InvalidNumber ?tI_InvalidNumber ?hm_InvalidNumber ?hB_InvalidNumber ?hD_InvalidNumber ?l1_InvalidNumber ?lT_InvalidNumber ?c1_InvalidNumber ?l2_InvalidNumber ?v2_InvalidNumber ?fi_InvalidNumber ?l3_InvalidNumber ?ga_InvalidNumber ?gg_InvalidNumber ?hd_InvalidNumber ?ic_InvalidNumber ?ac_InvalidNumber ?ob_InvalidNumber ?a_EveryPairError ?a_LETTERS ?a_TIMEOUT ?a_LONGEST_NAME ?a_CALLER_TESTS ?l_CALLER_TESTS ?a_HOST_TESTS ?l_HOST_TESTS ?a_CALLER_MOVES ?l_CALLER_MOVES ?a_HOST_MOVES ?l_HOST_MOVES ?a_SIDES ?l_SIDES ?a_MODES ?l_MODES ?a_Rule ?pg_Rule ?hd_Rule ?po_Rule ?sa_Rule ?na_Rule_fields ?ha_Rule ?mo_Rule ?nk_Rule ?a_Role ?pg_Role ?hd_Role ?po_Role ?sa_Role ?na_Role_ends ?na_Role_table ?na_Role_calm ?ha_Role ?mo_Role ?nk_Role ?a_Design ?pg_Design ?hd_Design ?po_Design ?sa_Design ?na_Design_roles ?na_Design_word ?ha_Design ?mo_Design ?nl_Design ?nn_Design ?ne_Design ?nx_Design ?nf1_Design ?nf2_Design ?nf3_Design ?at_Rule_mode ?sg_Rule_mode ?tk_Rule_mode ?re_Rule_mode ?l_Rule_mode ?c_Rule_mode ?k_Rule_mode ?at_Rule_heard ?sg_Rule_heard ?tk_Rule_heard ?re_Rule_heard ?l_Rule_heard ?c_Rule_heard ?k_Rule_heard ?at_Rule_which ?sg_Rule_which ?tk_Rule_which ?re_Rule_which ?l_Rule_which ?c_Rule_which ?k_Rule_which ?at_Rule_then ?sg_Rule_then ?tk_Rule_then ?re_Rule_then ?l_Rule_then ?c_Rule_then ?k_Rule_then ?at_Rule_move ?sg_Rule_move ?tk_Rule_move ?re_Rule_move ?l_Rule_move ?c_Rule_move ?k_Rule_move ?at_Rule_send ?sg_Rule_send ?tk_Rule_send ?re_Rule_send ?l_Rule_send ?c_Rule_send ?k_Rule_send ?at_Role_side ?sg_Role_side ?tk_Role_side ?re_Role_side ?l_Role_side ?c_Role_side ?k_Role_side ?at_Role_first ?sg_Role_first ?tk_Role_first ?re_Role_first ?l_Role_first ?c_Role_first ?k_Role_first ?at_Role_rules ?sg_Role_rules ?tk_Role_rules ?re_Role_rules ?l_Role_rules ?c_Role_rules ?k_Role_rules ?at_Role_settled ?sg_Role_settled ?tk_Role_settled ?re_Role_settled ?l_Role_settled ?c_Role_settled ?k_Role_settled ?at_Design_caller ?sg_Design_caller ?tk_Design_caller ?re_Design_caller ?l_Design_caller ?c_Design_caller ?k_Design_caller ?at_Design_host ?sg_Design_host ?tk_Design_host ?re_Design_host ?l_Design_host ?c_Design_host ?k_Design_host ?at_Design_hello ?sg_Design_hello ?tk_Design_hello ?re_Design_hello ?l_Design_hello ?c_Design_hello ?k_Design_hello ?at_Rule___eq__ ?fn_Rule___eq__ ?l_Rule___eq__ ?c_Rule___eq__ ?k_Rule___eq__ ?at_Role___eq__ ?fn_Role___eq__ ?l_Role___eq__ ?c_Role___eq__ ?k_Role___eq__ ?at_Design___eq__ ?fn_Design___eq__ ?l_Design___eq__ ?c_Design___eq__ ?k_Design___eq__ ?mk_Rule ?in_Rule ?fn_Rule___init__ ?kc_Rule ?l_Rule___init__ ?c_Rule___init__ ?k_Rule___init__ ?T0_Rule___init__ ?T1_Rule___init__ ?K0_Rule___init__ ?K1_Rule___init__ ?K2_Rule___init__ ?K3_Rule___init__ ?mk_Role ?in_Role ?fn_Role___init__ ?kc_Role ?l_Role___init__ ?c_Role___init__ ?k_Role___init__ ?T0_Role___init__ ?T1_Role___init__ ?mk_Design ?in_Design ?fn_Design___init__ ?kc_Design ?l_Design___init__ ?c_Design___init__ ?k_Design___init__ ?T0_Design___init__ ?kx
    (case zsup => k_is)
    (case zopq => k_is)
    (case zsp => k_is)
    (case ztk => k_is)
    (case zsys => k_is)
    (case a_is_whole => k_is)
    (case l_is_whole => k_is)
    (case c_is_whole => k_is)
    (case k_is_whole => k_is)
    (case a_is_name => k_is)
    (case l_is_name => k_is)
    (case c_is_name => k_is)
    (case k_is_name => k_is)
    (case a_is_word => k_is)
    (case l_is_word => k_is)
    (case c_is_word => k_is)
    (case k_is_word => k_is)
    (case a_is_name_or_none => k_is)
    (case l_is_name_or_none => k_is)
    (case c_is_name_or_none => k_is)
    (case k_is_name_or_none => k_is)
    (case a_are_fields => k_is)
    (case l_are_fields => k_is)
    (case c_are_fields => k_is)
    (case k_are_fields => k_is)
    (case a_fits_caller => k_is)
    (case l_fits_caller => k_is)
    (case c_fits_caller => k_is)
    (case k_fits_caller => k_is)
    (case a_fits_host => k_is)
    (case l_fits_host => k_is)
    (case c_fits_host => k_is)
    (case k_fits_host => k_is)
    (case a_fits_side => k_is)
    (case l_fits_side => k_is)
    (case c_fits_side => k_is)
    (case k_fits_side => k_is)
    (case a_are_settled => k_is)
    (case l_are_settled => k_is)
    (case c_are_settled => k_is)
    (case k_are_settled => k_is)
    (case a_are_parts => k_is)
    (case l_are_parts => k_is)
    (case c_are_parts => k_is)
    (case k_are_parts => k_is)
    (case a_is_role => k_is)
    (case l_is_role => k_is)
    (case c_is_role => k_is)
    (case k_is_role => k_is)
    (case a_check_tries => k_is)
    (case l_check_tries => k_is)
    (case c_check_tries => k_is)
    (case k_check_tries => k_is)
    (case a_stepping_rules => k_is)
    (case l_stepping_rules => k_is)
    (case c_stepping_rules => k_is)
    (case k_stepping_rules => k_is)
    (case a__law_purse => k_is)
    (case l__law_purse => k_is)
    (case c__law_purse => k_is)
    (case k__law_purse => k_is)
    (case a__law_draw => k_is)
    (case l__law_draw => k_is)
    (case c__law_draw => k_is)
    (case k__law_draw => k_is)
    (case a__law_rule => k_is)
    (case l__law_rule => k_is)
    (case c__law_rule => k_is)
    (case k__law_rule => k_is)
    (case a__law_role => k_is)
    (case l__law_role => k_is)
    (case c__law_role => k_is)
    (case k__law_role => k_is)
    (case a__law_made => k_is)
    (case l__law_made => k_is)
    (case c__law_made => k_is)
    (case k__law_made => k_is)
    (case a__law_due => k_is)
    (case l__law_due => k_is)
    (case c__law_due => k_is)
    (case k__law_due => k_is)
    (case a__law_parts => k_is)
    (case l__law_parts => k_is)
    (case c__law_parts => k_is)
    (case k__law_parts => k_is)
    (case a__law_right => k_is)
    (case l__law_right => k_is)
    (case c__law_right => k_is)
    (case k__law_right => k_is)
    (case a__law_refused => k_is)
    (case l__law_refused => k_is)
    (case c__law_refused => k_is)
    (case k__law_refused => k_is)
    (case a_law => k_is)
    (case l_law => k_is)
    (case c_law => k_is)
    (case k_law => k_is)
    (case a_stepping => k_is)
    (case l_stepping => k_is)
    (case c_stepping => k_is)
    (case k_stepping => k_is)
    (case T0_stepping => rfl)
    (case K0_stepping => rfl)
    (case K1_stepping => k_is)
    (case z_int => k_is)
    (case z_bool => k_is)
    (case z_isinstance => k_is)
    (case z_list => k_is)
    (case z_len => k_is)
    (case z_range => k_is)
    (case z_str => k_is)
    (case z_max => k_is)
    (case z_repr => k_is)
    (case z_tuple => k_is)
    (case z_set => k_is)
    (case z_sorted => k_is)
    (case a_InvalidRule => k_is)
    (case xL_InvalidRule => k_is)
    (case rf_InvalidRule => decide +kernel)
    (case sa_InvalidRule => k_is)
    (case ex_InvalidRule => k_is)
    (case no_InvalidRule => k_is)
    (case ty_InvalidRule => k_is)
    (case kp_InvalidRule => k_is)
    (case iC_InvalidRule => k_is)
    (case tI_InvalidRule => k_is)
    (case hm_InvalidRule => kernel_rfl)
    (case hB_InvalidRule => k_is)
    (case hD_InvalidRule => k_is)
    (case l1_InvalidRule => k_is)
    (case lT_InvalidRule => k_is)
    (case c1_InvalidRule => k_is)
    (case l2_InvalidRule => k_is)
    (case v2_InvalidRule => rfl)
    (case fi_InvalidRule => decide +kernel)
    (case l3_InvalidRule => k_is)
    (case a_InvalidRole => k_is)
    (case xL_InvalidRole => k_is)
    (case rf_InvalidRole => decide +kernel)
    (case sa_InvalidRole => k_is)
    (case ex_InvalidRole => k_is)
    (case no_InvalidRole => k_is)
    (case ty_InvalidRole => k_is)
    (case kp_InvalidRole => k_is)
    (case iC_InvalidRole => k_is)
    (case tI_InvalidRole => k_is)
    (case hm_InvalidRole => kernel_rfl)
    (case hB_InvalidRole => k_is)
    (case hD_InvalidRole => k_is)
    (case l1_InvalidRole => k_is)
    (case lT_InvalidRole => k_is)
    (case c1_InvalidRole => k_is)
    (case l2_InvalidRole => k_is)
    (case v2_InvalidRole => rfl)
    (case fi_InvalidRole => decide +kernel)
    (case l3_InvalidRole => k_is)
    (case a_InvalidDesign => k_is)
    (case xL_InvalidDesign => k_is)
    (case rf_InvalidDesign => decide +kernel)
    (case sa_InvalidDesign => k_is)
    (case ex_InvalidDesign => k_is)
    (case no_InvalidDesign => k_is)
    (case ty_InvalidDesign => k_is)
    (case kp_InvalidDesign => k_is)
    (case iC_InvalidDesign => k_is)
    (case tI_InvalidDesign => k_is)
    (case hm_InvalidDesign => kernel_rfl)
    (case hB_InvalidDesign => k_is)
    (case hD_InvalidDesign => k_is)
    (case l1_InvalidDesign => k_is)
    (case lT_InvalidDesign => k_is)
    (case c1_InvalidDesign => k_is)
    (case l2_InvalidDesign => k_is)
    (case v2_InvalidDesign => rfl)
    (case fi_InvalidDesign => decide +kernel)
    (case l3_InvalidDesign => k_is)
    (case a_InvalidNumber => k_is)
    (case xL_InvalidNumber => k_is)
    (case rf_InvalidNumber => decide +kernel)
    (case sa_InvalidNumber => k_is)
    (case ex_InvalidNumber => k_is)
    (case no_InvalidNumber => k_is)
    (case ty_InvalidNumber => k_is)
    (case kp_InvalidNumber => k_is)
    (case iC_InvalidNumber => k_is)
    (case tI_InvalidNumber => k_is)
    (case hm_InvalidNumber => kernel_rfl)
    (case hB_InvalidNumber => k_is)
    (case hD_InvalidNumber => k_is)
    (case l1_InvalidNumber => k_is)
    (case lT_InvalidNumber => k_is)
    (case c1_InvalidNumber => k_is)
    (case l2_InvalidNumber => k_is)
    (case v2_InvalidNumber => rfl)
    (case fi_InvalidNumber => decide +kernel)
    (case l3_InvalidNumber => k_is)
    (case ga_InvalidNumber => k_is)
    (case gg_InvalidNumber => k_is)
    (case hd_InvalidNumber => k_is)
    (case ic_InvalidNumber => k_is)
    (case ac_InvalidNumber => k_is)
    (case ob_InvalidNumber => k_is)
    (case a_EveryPairError => k_is)
    (case a_LETTERS => k_is)
    (case a_TIMEOUT => k_is)
    (case a_LONGEST_NAME => k_is)
    (case a_CALLER_TESTS => k_is)
    (case l_CALLER_TESTS => k_is)
    (case a_HOST_TESTS => k_is)
    (case l_HOST_TESTS => k_is)
    (case a_CALLER_MOVES => k_is)
    (case l_CALLER_MOVES => k_is)
    (case a_HOST_MOVES => k_is)
    (case l_HOST_MOVES => k_is)
    (case a_SIDES => k_is)
    (case l_SIDES => k_is)
    (case a_MODES => k_is)
    (case l_MODES => k_is)
    (case a_Rule => k_is)
    (case pg_Rule => k_is)
    (case hd_Rule => k_is)
    (case po_Rule => k_is)
    (case sa_Rule => k_is)
    (case na_Rule_fields => k_is)
    (case ha_Rule => k_is)
    (case mo_Rule => k_is)
    (case nk_Rule => show _ = true; kernel_rfl)
    (case a_Role => k_is)
    (case pg_Role => k_is)
    (case hd_Role => k_is)
    (case po_Role => k_is)
    (case sa_Role => k_is)
    (case na_Role_ends => k_is)
    (case na_Role_table => k_is)
    (case na_Role_calm => k_is)
    (case ha_Role => k_is)
    (case mo_Role => k_is)
    (case nk_Role => show _ = true; kernel_rfl)
    (case a_Design => k_is)
    (case pg_Design => k_is)
    (case hd_Design => k_is)
    (case po_Design => k_is)
    (case sa_Design => k_is)
    (case na_Design_roles => k_is)
    (case na_Design_word => k_is)
    (case ha_Design => k_is)
    (case mo_Design => k_is)
    (case nl_Design => k_is)
    (case nn_Design => kernel_rfl)
    (case ne_Design => k_is)
    (case nx_Design => k_is)
    (case nf1_Design => k_is)
    (case nf2_Design => k_is)
    (case nf3_Design => rfl)
    (case at_Rule_mode => k_is)
    (case sg_Rule_mode => k_is)
    (case tk_Rule_mode => k_is)
    (case re_Rule_mode => k_is)
    (case l_Rule_mode => k_is)
    (case c_Rule_mode => k_is)
    (case k_Rule_mode => k_is)
    (case at_Rule_heard => k_is)
    (case sg_Rule_heard => k_is)
    (case tk_Rule_heard => k_is)
    (case re_Rule_heard => k_is)
    (case l_Rule_heard => k_is)
    (case c_Rule_heard => k_is)
    (case k_Rule_heard => k_is)
    (case at_Rule_which => k_is)
    (case sg_Rule_which => k_is)
    (case tk_Rule_which => k_is)
    (case re_Rule_which => k_is)
    (case l_Rule_which => k_is)
    (case c_Rule_which => k_is)
    (case k_Rule_which => k_is)
    (case at_Rule_then => k_is)
    (case sg_Rule_then => k_is)
    (case tk_Rule_then => k_is)
    (case re_Rule_then => k_is)
    (case l_Rule_then => k_is)
    (case c_Rule_then => k_is)
    (case k_Rule_then => k_is)
    (case at_Rule_move => k_is)
    (case sg_Rule_move => k_is)
    (case tk_Rule_move => k_is)
    (case re_Rule_move => k_is)
    (case l_Rule_move => k_is)
    (case c_Rule_move => k_is)
    (case k_Rule_move => k_is)
    (case at_Rule_send => k_is)
    (case sg_Rule_send => k_is)
    (case tk_Rule_send => k_is)
    (case re_Rule_send => k_is)
    (case l_Rule_send => k_is)
    (case c_Rule_send => k_is)
    (case k_Rule_send => k_is)
    (case at_Role_side => k_is)
    (case sg_Role_side => k_is)
    (case tk_Role_side => k_is)
    (case re_Role_side => k_is)
    (case l_Role_side => k_is)
    (case c_Role_side => k_is)
    (case k_Role_side => k_is)
    (case at_Role_first => k_is)
    (case sg_Role_first => k_is)
    (case tk_Role_first => k_is)
    (case re_Role_first => k_is)
    (case l_Role_first => k_is)
    (case c_Role_first => k_is)
    (case k_Role_first => k_is)
    (case at_Role_rules => k_is)
    (case sg_Role_rules => k_is)
    (case tk_Role_rules => k_is)
    (case re_Role_rules => k_is)
    (case l_Role_rules => k_is)
    (case c_Role_rules => k_is)
    (case k_Role_rules => k_is)
    (case at_Role_settled => k_is)
    (case sg_Role_settled => k_is)
    (case tk_Role_settled => k_is)
    (case re_Role_settled => k_is)
    (case l_Role_settled => k_is)
    (case c_Role_settled => k_is)
    (case k_Role_settled => k_is)
    (case at_Design_caller => k_is)
    (case sg_Design_caller => k_is)
    (case tk_Design_caller => k_is)
    (case re_Design_caller => k_is)
    (case l_Design_caller => k_is)
    (case c_Design_caller => k_is)
    (case k_Design_caller => k_is)
    (case at_Design_host => k_is)
    (case sg_Design_host => k_is)
    (case tk_Design_host => k_is)
    (case re_Design_host => k_is)
    (case l_Design_host => k_is)
    (case c_Design_host => k_is)
    (case k_Design_host => k_is)
    (case at_Design_hello => k_is)
    (case sg_Design_hello => k_is)
    (case tk_Design_hello => k_is)
    (case re_Design_hello => k_is)
    (case l_Design_hello => k_is)
    (case c_Design_hello => k_is)
    (case k_Design_hello => k_is)
    (case at_Rule___eq__ => k_is)
    (case fn_Rule___eq__ => k_is)
    (case l_Rule___eq__ => k_is)
    (case c_Rule___eq__ => k_is)
    (case k_Rule___eq__ => k_is)
    (case at_Role___eq__ => k_is)
    (case fn_Role___eq__ => k_is)
    (case l_Role___eq__ => k_is)
    (case c_Role___eq__ => k_is)
    (case k_Role___eq__ => k_is)
    (case at_Design___eq__ => k_is)
    (case fn_Design___eq__ => k_is)
    (case l_Design___eq__ => k_is)
    (case c_Design___eq__ => k_is)
    (case k_Design___eq__ => k_is)
    (case mk_Rule => k_is)
    (case in_Rule => k_is)
    (case fn_Rule___init__ => k_is)
    (case kc_Rule => k_is)
    (case l_Rule___init__ => k_is)
    (case c_Rule___init__ => k_is)
    (case k_Rule___init__ => k_is)
    (case T0_Rule___init__ => rfl)
    (case T1_Rule___init__ => k_is)
    (case K0_Rule___init__ => rfl)
    (case K1_Rule___init__ => k_is)
    (case K2_Rule___init__ => k_is)
    (case K3_Rule___init__ => k_is)
    (case mk_Role => k_is)
    (case in_Role => k_is)
    (case fn_Role___init__ => k_is)
    (case kc_Role => k_is)
    (case l_Role___init__ => k_is)
    (case c_Role___init__ => k_is)
    (case k_Role___init__ => k_is)
    (case T0_Role___init__ => rfl)
    (case T1_Role___init__ => k_is)
    (case mk_Design => k_is)
    (case in_Design => k_is)
    (case fn_Design___init__ => k_is)
    (case kc_Design => k_is)
    (case l_Design___init__ => k_is)
    (case c_Design___init__ => k_is)
    (case k_Design___init__ => k_is)
    (case T0_Design___init__ => rfl)
    (case kx => kernel_rfl)
  case S =>
    exact fun ns _ => ⟨ns, rfl, rfl⟩
#print axioms PySem.Challenge.cw_everypair_k70_stepping_tables_holds
