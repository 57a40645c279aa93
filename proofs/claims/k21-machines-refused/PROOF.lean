import PyProof.Rows.All
import Wide.All
import OpenK.AllK
import Wide.FinOn
import HandS.ForMost
import HandS.ForExc
import HandS.Wide
import HandS.IsInst
import HandS.Text
import HandS.SortKw
import HandS.RaiseMore
import KE.GoesMore
import HandS.ExcSuper
import HandS.ExcInit
import HandS.ExcIs
import HandS.ExcField
import HandS.ExcValue
import HandS.Defaults
import KE.KExcSuper
import KE.KSuper
import KE.KExcIs
import PyProof.ReprRoads
import PyProof.ReprLen
import PyProof.CallFns
import HandS.Iter
import PyProof.Draws
import PyProof.EnumMake
import HandS.Dict
import HandS.Style
import HandS.Ends
import HandS.Property
import HandS.MakeKwOnly
import PyProof.InstNe
import KE.DataCmp
import HandS.OwnEq
import HandS.Strs
import HandS.TupLen
import KE.KDictDisplayH
import HandS.WordsDict
import HandS.Small
import HandS.DictComp
import HandS.Zip
import PySem.Challenge.RW_everypair_k21_machines_refused
import KE.RegKSuper
import OpenK.XHead
set_option Elab.async false
set_option linter.all false
set_option maxRecDepth 100000
set_option maxHeartbeats 4000000
/-! DD1: values as data, without a heap: what a value is worth (Rp), what the slots are worth (SD), expressions and statements read over data. -/
namespace DD
open PySem PySem.Spec PyProof.Rows L2

inductive D where
  | non | bl (b : Bool) | int (i : Int) | str (s : Str) | ty (n : String) | ref (a : Addr)
  | lst (ds : List D) | tup (ds : List D)
  | dct (ks : List Key) (ds : List D)
  | ins (C : Addr) (ns : List Str) (ds : List D)
  | iset (S : Int → Bool) (n : Nat)
  | exc (C : Addr) (ds : List D)
  | scr (ns : List Int)
  /-- a tuple that may be written in the text -/
  | cst (ds : List D)
  /-- a dict whose keys are tuples -/
  | dcT (ks : List (List Key)) (ds : List D)

/-- an exception object that is kept as a value: its class, its own dict -/
def ExcAt (a C : Addr) (dx : Option Addr) : HO := .ext fun h => ∃ (oe : Obj) (vs : Array Value), h.get? a = some oe ∧ oe.cls = .ref C ∧ oe.dict = dx ∧ oe.data = .fields vs

/-- the script's list: a frozen one, or a constant of the text -/
def SqZ (K : PySem.W.Frag) (F : Hp) (a : Addr) (xs : List V) : Prop := (∃ o, F a = some (.frz o (.lst xs))) ∨
  ∃ (o : Obj) (its : Array Value) (n : Nat), K.lookup a = some o ∧ o.cls = .type "list" ∧ o.dict = none ∧ o.data = .seq its n ∧ its.size ≤ sizeLine ∧ Vals xs its.toList
theorem SqZ.mono {K : PySem.W.Frag} {F F' : Hp} {a : Addr} {xs : List V} (h : SqZ K F a xs) (e : ∀ o, F a = some (.frz o (.lst xs)) → F' a = some (.frz o (.lst xs))) : SqZ K F' a xs := by
  rcases h with ⟨o, h⟩ | h
  · exact .inl ⟨o, e o h⟩
  · exact .inr h
theorem SqZ.seq {K : PySem.W.Frag} {F : Hp} {a : Addr} {xs : List V} (h : SqZ K F a xs) : SqL K F a xs := by
  rcases h with ⟨o, h⟩ | h
  · exact .inl (.inr ⟨o, h⟩)
  · exact .inr h
mutual
def Rp (K : PySem.W.Frag) (F : Hp) : D → V → Prop
  | .non, v => v = .non
  | .bl b, v => v = .bl b
  | .int i, v => v = .int i
  | .str s, v => v = .str s
  | .ty n, v => v = .ty n
  | .ref a, v => v = .ref a
  | .lst ds, v => ∃ a xs, v = .ref a ∧ F a = some (.lst xs) ∧ RpL K F ds xs
  | .tup ds, v => ∃ a xs, v = .ref a ∧ F a = some (.tup xs) ∧ RpL K F ds xs
  | .dct ks ds, v => ∃ a xs, v = .ref a ∧ F a = some (.dK (ks.zip xs)) ∧ RpL K F ds xs ∧ ks.length = xs.length
  | .ins C ns ds, v => ∃ a dx xs, v = .ref a ∧ F a = some (.ins C dx (ns.zip xs)) ∧ RpL K F ds xs ∧ ns.length = xs.length
  | .iset S n, v => ∃ a, v = .ref a ∧ F a = some (.set S n)
  | .exc C ds, v => ∃ a dx x xs, v = .ref a ∧ F a = some (ExcAt a C (some dx)) ∧ F dx = some (.xd [("value", x)]) ∧ xs = [x] ∧ RpL K F ds xs
  | .scr ns, v => ∃ a, v = .ref a ∧ SqZ K F a (ns.map V.int)
  | .cst ds, v => ∃ a xs, v = .ref a ∧ SqT K F a xs ∧ RpL K F ds xs
  | .dcT ks ds, v => ∃ a xs, v = .ref a ∧ F a = some (.dT (ks.zip xs)) ∧ RpL K F ds xs ∧ ks.length = xs.length
def RpL (K : PySem.W.Frag) (F : Hp) : List D → List V → Prop
  | [], xs => xs = []
  | d :: ds, xs => ∃ x r, xs = x :: r ∧ Rp K F d x ∧ RpL K F ds r
end

theorem sqT_mono {K : PySem.W.Frag} {F F' : Hp} {a : Addr} {xs : List V} (e : Same F F') (h : SqT K F a xs) : SqT K F' a xs := by
  rcases h with (h | ⟨o, h⟩) | h
  · exact .inl (.inl (e _ _ h))
  · exact .inl (.inr ⟨o, e _ _ h⟩)
  · exact .inr h

mutual
theorem Rp.mono {K : PySem.W.Frag} {F F' : Hp} (e : Same F F') : ∀ (d : D) (v : V), Rp K F d v → Rp K F' d v
  | .non, _, h => h
  | .bl _, _, h => h
  | .int _, _, h => h
  | .str _, _, h => h
  | .ty _, _, h => h
  | .ref _, _, h => h
  | .lst ds, v, h => by
    unfold Rp at h ⊢
    obtain ⟨a, xs, rfl, h1, h2⟩ := h
    exact ⟨a, xs, rfl, e _ _ h1, RpL.mono e ds xs h2⟩
  | .tup ds, v, h => by
    unfold Rp at h ⊢
    obtain ⟨a, xs, rfl, h1, h2⟩ := h
    exact ⟨a, xs, rfl, e _ _ h1, RpL.mono e ds xs h2⟩
  | .dct ks ds, v, h => by
    unfold Rp at h ⊢
    obtain ⟨a, xs, rfl, h1, h2, h3⟩ := h
    exact ⟨a, xs, rfl, e _ _ h1, RpL.mono e ds xs h2, h3⟩
  | .ins C ns ds, v, h => by
    unfold Rp at h ⊢
    obtain ⟨a, dx, xs, rfl, h1, h2, h3⟩ := h
    exact ⟨a, dx, xs, rfl, e _ _ h1, RpL.mono e ds xs h2, h3⟩
  | .iset S n, v, h => by
    unfold Rp at h ⊢
    obtain ⟨a, rfl, h1⟩ := h
    exact ⟨a, rfl, e _ _ h1⟩
  | .scr ns, v, h => by
    unfold Rp at h ⊢
    obtain ⟨a, rfl, h1⟩ := h
    exact ⟨a, rfl, h1.mono fun o q => e _ _ q⟩
  | .cst ds, v, h => by
    unfold Rp at h ⊢
    obtain ⟨a, xs, rfl, h1, h2⟩ := h
    exact ⟨a, xs, rfl, sqT_mono e h1, RpL.mono e ds xs h2⟩
  | .dcT ks ds, v, h => by
    unfold Rp at h ⊢
    obtain ⟨a, xs, rfl, h1, h2, h3⟩ := h
    exact ⟨a, xs, rfl, e _ _ h1, RpL.mono e ds xs h2, h3⟩
  | .exc C ds, v, h => by
    unfold Rp at h ⊢
    obtain ⟨a, dx, x, xs, rfl, h1, h2, h3, h4⟩ := h
    exact ⟨a, dx, x, xs, rfl, e _ _ h1, e _ _ h2, h3, RpL.mono e ds xs h4⟩
theorem RpL.mono {K : PySem.W.Frag} {F F' : Hp} (e : Same F F') : ∀ (ds : List D) (xs : List V), RpL K F ds xs → RpL K F' ds xs
  | [], _, h => h
  | d :: ds, xs, h => by
    unfold RpL at h ⊢
    obtain ⟨x, r, rfl, h1, h2⟩ := h
    exact ⟨x, r, rfl, Rp.mono e d x h1, RpL.mono e ds r h2⟩
end
theorem RpL.length {K : PySem.W.Frag} {F : Hp} : ∀ {ds : List D} {xs : List V}, RpL K F ds xs → xs.length = ds.length
  | [], _, h => by
    unfold RpL at h
    rw [h] <;> rfl
  | d :: ds, xs, h => by
    unfold RpL at h
    obtain ⟨x, r, rfl, _, h2⟩ := h
    rw [List.length_cons, List.length_cons, RpL.length h2]
theorem RpL.get {K : PySem.W.Frag} {F : Hp} : ∀ {ds : List D} {xs : List V} {i : Nat} {d : D}, RpL K F ds xs → ds[i]? = some d → ∃ x, xs[i]? = some x ∧ Rp K F d x
  | [], _, _, _, _, e => by simp at e
  | d :: ds, xs, 0, d', h, e => by
    unfold RpL at h
    obtain ⟨x, r, rfl, h1, _⟩ := h
    simp at e
    subst e
    exact ⟨x, rfl, h1⟩
  | d :: ds, xs, i + 1, d', h, e => by
    unfold RpL at h
    obtain ⟨x, r, rfl, _, h2⟩ := h
    obtain ⟨y, e1, e2⟩ := RpL.get (i := i) h2 (by simpa using e)
    exact ⟨y, by simpa using e1, e2⟩
theorem RpL.nil {K : PySem.W.Frag} {F : Hp} : RpL K F [] [] := by
  unfold RpL
  rfl
theorem RpL.cons {K : PySem.W.Frag} {F : Hp} {d : D} {ds : List D} {x : V} {xs : List V} (h : Rp K F d x) (t : RpL K F ds xs) : RpL K F (d :: ds) (x :: xs) := by
  unfold RpL
  exact ⟨x, xs, rfl, h, t⟩
theorem RpL.append {K : PySem.W.Frag} {F : Hp} : ∀ {ds es : List D} {xs ys : List V}, RpL K F ds xs → RpL K F es ys → RpL K F (ds ++ es) (xs ++ ys)
  | [], _, _, _, h, g => by
    unfold RpL at h
    rw [h]
    exact g
  | d :: ds, es, xs, ys, h, g => by
    unfold RpL at h
    obtain ⟨x, r, rfl, h1, h2⟩ := h
    exact .cons h1 (RpL.append h2 g)
theorem RpL.take {K : PySem.W.Frag} {F : Hp} : ∀ {ds : List D} {xs : List V} (n : Nat), RpL K F ds xs → RpL K F (ds.take n) (xs.take n)
  | _, _, 0, _ => by
    rw [List.take_zero, List.take_zero]
    exact .nil
  | [], _, n + 1, h => by
    unfold RpL at h
    rw [h]
    exact .nil
  | d :: ds, xs, n + 1, h => by
    unfold RpL at h
    obtain ⟨x, r, rfl, h1, h2⟩ := h
    exact .cons h1 (RpL.take n h2)
theorem RpL.drop {K : PySem.W.Frag} {F : Hp} : ∀ {ds : List D} {xs : List V} (n : Nat), RpL K F ds xs → RpL K F (ds.drop n) (xs.drop n)
  | _, _, 0, h => h
  | [], _, n + 1, h => by
    unfold RpL at h
    rw [h]
    exact .nil
  | d :: ds, xs, n + 1, h => by
    unfold RpL at h
    obtain ⟨x, r, rfl, h1, h2⟩ := h
    exact RpL.drop n h2
theorem RpL.set {K : PySem.W.Frag} {F : Hp} {d : D} {x : V} (hx : Rp K F d x) : ∀ {ds : List D} {xs : List V} (n : Nat), RpL K F ds xs → RpL K F (ds.set n d) (xs.set n x)
  | [], _, _, h => by
    unfold RpL at h
    rw [h]
    exact .nil
  | d' :: ds, xs, 0, h => by
    unfold RpL at h
    obtain ⟨x', r, rfl, h1, h2⟩ := h
    exact .cons hx h2
  | d' :: ds, xs, n + 1, h => by
    unfold RpL at h
    obtain ⟨x', r, rfl, h1, h2⟩ := h
    exact .cons h1 (RpL.set hx n h2)
theorem RpL.int {K : PySem.W.Frag} {F : Hp} : ∀ {ns : List Int} {xs : List V}, RpL K F (ns.map D.int) xs → xs = ns.map V.int
  | [], _, h => by
    unfold RpL at h
    rw [h]
    rfl
  | n :: ns, xs, h => by
    unfold RpL at h
    obtain ⟨x, r, rfl, h1, h2⟩ := h
    unfold Rp at h1
    rw [h1, RpL.int h2]
    rfl
theorem RpL.ofInt {K : PySem.W.Frag} {F : Hp} : ∀ (ns : List Int), RpL K F (ns.map D.int) (ns.map V.int)
  | [] => .nil
  | n :: ns => .cons (by unfold Rp; rfl) (RpL.ofInt ns)
theorem RpL.str {K : PySem.W.Frag} {F : Hp} : ∀ {ns : List Str} {xs : List V}, RpL K F (ns.map D.str) xs → xs = ns.map V.str
  | [], _, h => by
    unfold RpL at h
    rw [h]
    rfl
  | n :: ns, xs, h => by
    unfold RpL at h
    obtain ⟨x, r, rfl, h1, h2⟩ := h
    unfold Rp at h1
    rw [h1, RpL.str h2]
    rfl
theorem RpL.ofStr {K : PySem.W.Frag} {F : Hp} : ∀ (ns : List Str), RpL K F (ns.map D.str) (ns.map V.str)
  | [] => .nil
  | n :: ns => .cons (by unfold Rp; rfl) (RpL.ofStr ns)

/-! ### what a slot holds: plain data, data of its own (a list, a dict that nobody else knows), a purse of draws -/
inductive B where
  | p (d : D) | o (d : D) | u (w : Bool) (n : Nat) | n (ds : List D) | s (d : D)
abbrev Env' := List (Option B)
def B.d : B → D
  | .p d => d
  | .o d => d
  | .u _ _ => .non
  | .n ds => .tup ds
  | .s _ => .non
def B.own : B → Bool
  | .p _ => false
  | .n _ => false
  | _ => true
def B.isU : B → Bool
  | .u _ _ => true
  | .s _ => true
  | _ => false
/-- a purse: its digits, its seed, at most n turns so far -/
def PWF (n : Nat) (x y z : Int) : Prop := 0 ≤ x ∧ x < 10 ^ 400 ∧ 0 ≤ y ∧ y < 2147483629 ∧ 0 ≤ z ∧ z ≤ n

structure Fix where
  F0 : Hp
  H0 : Hp
  P : Option Addr
  /-- what is wanted of an exception: its class, what its field holds, the slots -/
  E : Addr → List D → Env' → Prop

def Own (K : PySem.W.Frag) (F H : Hp) : D → Addr → Prop
  | .lst ds, a => ∃ xs, H a = some (.lst xs) ∧ RpL K F ds xs
  | .dct ks ds, a => ∃ xs, H a = some (.dK (ks.zip xs)) ∧ RpL K F ds xs ∧ ks.length = xs.length
  | .dcT ks ds, a => ∃ xs, H a = some (.dT (ks.zip xs)) ∧ RpL K F ds xs ∧ ks.length = xs.length
  | .iset S n, a => H a = some (.set S n)
  | .ins C ns ds, a => ∃ dx xs, H a = some (.ins C dx (ns.zip xs)) ∧ RpL K F ds xs ∧ ns.length = xs.length
  | _, _ => False
def RB (K : PySem.W.Frag) (W : Fix) (F H : Hp) : B → V → Prop
  | .p d, v => Rp K F d v
  | .o d, v => ∃ a, v = .ref a ∧ F a = none ∧ W.H0 a = none ∧ Own K F H d a
  | .u w n, v => ∃ p x y z, v = .ref p ∧ F p = none ∧ (if w = true then W.P = some p else W.H0 p = none) ∧ H p = some (.lst [.int x, .int y, .int z]) ∧ PWF n x y z
  | .n ds, v => ∃ t xs, v = .ref t ∧ F t = some (.tup xs) ∧ RpL K F ds xs ∧ ∀ a, V.ref a ∈ xs → (∃ ys, F a = some (.lst ys)) ∧ W.H0 a = none
  | .s d, v => ∃ a, v = .ref a ∧ F a = none ∧ W.P = some a ∧ Own K F H d a

structure SD (K : PySem.W.Frag) (W : Fix) (F H : Hp) (σ : L2.St) (δ : Env') : Prop where
  f0 : Same W.F0 F
  h0 : ∀ a o, W.H0 a = some o → W.P ≠ some a → H a = some o
  fh : Same F H
  fr : ∀ a o, F a = some o → W.F0 a = some o ∨ W.H0 a = none
  fp : ∀ a, W.P = some a → F a = none ∧ (∃ o, H a = some o) ∧ ∃ o, W.H0 a = some o
  len : σ.length = δ.length
  get : ∀ (i : Nat) (b : B), δ[i]? = some (some b) → ∃ v, σ[i]? = some (some v) ∧ RB K W F H b v
  sep : ∀ (i j : Nat) (b c : B) (v : V), i ≠ j → δ[i]? = some (some b) → b.own = true → δ[j]? = some (some c) → c.own = true → σ[i]? = some (some v) → σ[j]? ≠ some (some v)

/-- what comes of an expression -/
def DQ (K : PySem.W.Frag) (W : Fix) (F : Hp) (σ : L2.St) (Q : B → Env' → Prop) : VK := fun v H' =>
  ∃ (F' : Hp) (b : B) (δ' : Env'), Same F F' ∧ SD K W F' H' σ δ' ∧ RB K W F' H' b v ∧ (b.own = true → ∀ (j : Nat) (c : B), δ'[j]? = some (some c) → c.own = true → σ[j]? ≠ some (some v)) ∧ Q b δ'

section
variable {K : PySem.W.Frag} {W : Fix} {F H : Hp} {σ : L2.St} {δ : Env'}
theorem Own.some {d : D} {a : Addr} (h : Own K F H d a) : ∃ o, H a = some o := by
  cases d <;> first | exact h.elim | skip
  · obtain ⟨xs, h, _⟩ := h
    exact ⟨_, h⟩
  · obtain ⟨xs, h, _⟩ := h
    exact ⟨_, h⟩
  · obtain ⟨dx, xs, h, _⟩ := h
    exact ⟨_, h⟩
  · exact ⟨_, h⟩
  · obtain ⟨xs, h, _⟩ := h
    exact ⟨_, h⟩
theorem own_keep {F' H' : Hp} {d : D} {a : Addr} (h : Own K F H d a) (e : Same F F') (k : ∀ o, H a = some o → H' a = some o) : Own K F' H' d a := by
  cases d <;> first | exact h.elim | skip
  · obtain ⟨xs, h4, h5⟩ := h
    exact ⟨xs, k _ h4, RpL.mono e _ _ h5⟩
  · obtain ⟨xs, h4, h5, h6⟩ := h
    exact ⟨xs, k _ h4, RpL.mono e _ _ h5, h6⟩
  · obtain ⟨dx, xs, h4, h5, h6⟩ := h
    exact ⟨dx, xs, k _ h4, RpL.mono e _ _ h5, h6⟩
  · exact k _ h
  · obtain ⟨xs, h4, h5, h6⟩ := h
    exact ⟨xs, k _ h4, RpL.mono e _ _ h5, h6⟩
theorem RB.there {b : B} {v : V} (h : RB K W F H b v) (hb : b.own = true) : ∃ a o, v = .ref a ∧ H a = some o ∧ F a = none := by
  cases b with
  | p d => cases hb
  | n ds => cases hb
  | o d =>
    obtain ⟨a, rfl, h1, _, h2⟩ := h
    obtain ⟨o, ho⟩ := h2.some
    exact ⟨a, o, rfl, ho, h1⟩
  | u w n =>
    obtain ⟨p, x, y, z, rfl, h1, _, h2, _⟩ := h
    exact ⟨p, _, rfl, h2, h1⟩
  | s d =>
    obtain ⟨a, rfl, h1, _, h2⟩ := h
    obtain ⟨o, ho⟩ := h2.some
    exact ⟨a, o, rfl, ho, h1⟩
theorem SD.fresh0 (S : SD K W F H σ δ) {p : Addr} (hp : H p = none) : W.H0 p = none := by
  cases e : W.H0 p with
  | none => rfl
  | some o =>
    by_cases hP : W.P = some p
    · obtain ⟨_, ⟨o', ho⟩, _⟩ := S.fp p hP
      rw [hp] at ho
      cases ho
    · have := S.h0 p o e hP
      rw [hp] at this
      cases this
theorem SD.freshF (S : SD K W F H σ δ) {p : Addr} (hp : H p = none) : F p = none := S.fh.free hp
/-- data stay where what is frozen grows and what is owned stays -/
theorem RB.keep {F' H' : Hp} {b : B} {v : V} (h : RB K W F H b v) (e : Same F F') (k : ∀ a o, v = .ref a → b.own = true → H a = some o → H' a = some o) (n : ∀ a, v = .ref a → b.own = true → F a = none → F' a = none) : RB K W F' H' b v := by
  cases b with
  | p d => exact Rp.mono e d v h
  | n ds =>
    obtain ⟨t, xs, rfl, h1, h2, h3⟩ := h
    refine ⟨t, xs, rfl, e _ _ h1, RpL.mono e _ _ h2, fun a ha => ?_⟩
    obtain ⟨⟨ys, h4⟩, h5⟩ := h3 a ha
    exact ⟨⟨ys, e _ _ h4⟩, h5⟩
  | o d =>
    obtain ⟨a, rfl, h1, h2, h3⟩ := h
    refine ⟨a, rfl, n a rfl rfl h1, h2, ?_⟩
    exact own_keep (d := d) h3 e fun o q => k a o rfl rfl q
  | u w m =>
    obtain ⟨p, x, y, z, rfl, h1, h2, h3, h4⟩ := h
    exact ⟨p, x, y, z, rfl, n p rfl rfl h1, h2, k p _ rfl rfl h3, h4⟩
  | s d =>
    obtain ⟨a, rfl, h1, h2, h3⟩ := h
    exact ⟨a, rfl, n a rfl rfl h1, h2, own_keep (d := d) h3 e fun o q => k a o rfl rfl q⟩
theorem same_upd {H : Hp} {p : Addr} {o : HO} (h : H p = none) : Same H (upd H p o) := fun b x e => by
  rw [upd_ne (ne_of_none e h)]
  exact e
/-- a new object, frozen at once -/
theorem SD.new (S : SD K W F H σ δ) {p : Addr} {o : HO} (hp : H p = none) : SD K W (upd F p o) (upd H p o) σ δ where
  f0 := S.f0.trans (same_upd (S.freshF hp))
  h0 := fun a o' h1 h2 => by
    have := S.h0 a o' h1 h2
    rw [upd_ne (ne_of_none this hp)]
    exact this
  fh := fun a o' h => by
    by_cases e : a = p
    · subst e
      rw [upd_same] at h ⊢
      exact h
    · rw [upd_ne e] at h ⊢
      exact S.fh a o' h
  fr := fun a o' h => by
    by_cases e : a = p
    · subst e
      exact .inr (S.fresh0 hp)
    · rw [upd_ne e] at h
      exact S.fr a o' h
  fp := fun a h => by
    obtain ⟨h1, ⟨o', h2⟩, h3⟩ := S.fp a h
    have e := ne_of_none h2 hp
    rw [upd_ne e, upd_ne e]
    exact ⟨h1, ⟨o', h2⟩, h3⟩
  len := S.len
  get := fun i b h => by
    obtain ⟨v, h1, h2⟩ := S.get i b h
    refine ⟨v, h1, h2.keep (same_upd (S.freshF hp)) (fun a o' _ _ h3 => ?_) (fun a hv hb h3 => ?_)⟩
    · rw [upd_ne (ne_of_none h3 hp)]
      exact h3
    · obtain ⟨a', o', e1, h4, _⟩ := h2.there hb
      rw [hv] at e1
      cases e1
      rw [upd_ne (ne_of_none h4 hp)]
      exact h3
  sep := S.sep
/-- a new object of one's own: not frozen -/
theorem SD.newO (S : SD K W F H σ δ) {p : Addr} {o : HO} (hp : H p = none) : SD K W F (upd H p o) σ δ where
  f0 := S.f0
  h0 := fun a o' h1 h2 => by
    have := S.h0 a o' h1 h2
    rw [upd_ne (ne_of_none this hp)]
    exact this
  fh := S.fh.trans (same_upd hp)
  fr := S.fr
  fp := fun a h => by
    obtain ⟨h1, ⟨o', h2⟩, h3⟩ := S.fp a h
    rw [upd_ne (ne_of_none h2 hp)]
    exact ⟨h1, ⟨o', h2⟩, h3⟩
  len := S.len
  get := fun i b h => by
    obtain ⟨v, h1, h2⟩ := S.get i b h
    refine ⟨v, h1, h2.keep (Same.refl F) (fun a o' _ _ h3 => ?_) (fun a hv hb h3 => h3)⟩
    rw [upd_ne (ne_of_none h3 hp)]
    exact h3
  sep := S.sep
/-- an object that stands already, and that no slot owns, is frozen -/
theorem SD.freeze (S : SD K W F H σ δ) {a : Addr} {o : HO} (ha : H a = some o) (h0 : W.H0 a = none) (hF : F a = none) (hno : ∀ (j : Nat) (c : B), δ[j]? = some (some c) → c.own = true → σ[j]? ≠ some (some (.ref a))) : SD K W (upd F a o) H σ δ where
  f0 := S.f0.trans (same_upd hF)
  h0 := S.h0
  fh := fun b o' h => by
    by_cases e : b = a
    · subst e
      rw [upd_same] at h
      rw [ha]
      exact h
    · rw [upd_ne e] at h
      exact S.fh b o' h
  fr := fun b o' h => by
    by_cases e : b = a
    · subst e
      exact .inr h0
    · rw [upd_ne e] at h
      exact S.fr b o' h
  fp := fun b h => by
    obtain ⟨h1, h2, o', h3⟩ := S.fp b h
    refine ⟨?_, h2, o', h3⟩
    have e : b ≠ a := fun z => by
      rw [z, h0] at h3
      cases h3
    rw [upd_ne e]
    exact h1
  len := S.len
  get := fun i b h => by
    obtain ⟨v, h1, h2⟩ := S.get i b h
    refine ⟨v, h1, h2.keep (same_upd hF) (fun _ _ _ _ h3 => h3) (fun b' hv hb h3 => ?_)⟩
    by_cases e : b' = a
    · subst e
      subst hv
      exact absurd h1 (hno i b h hb)
    · rw [upd_ne e]
      exact h3
  sep := S.sep
end
end DD

set_option Elab.async false
set_option linter.all false
set_option maxRecDepth 100000
set_option maxHeartbeats 4000000
/-! DD2: defs that know that no repr is under way; expressions over data. -/
namespace DD
open PySem PySem.Spec PyProof.Rows L2

/-! ### defs, where no repr is under way around -/
structure GnOk (P : Program) (w : World) (K : PySem.W.Frag) (mg : Str → Option Value) (base : Heap) (k : Nat) (f : Addr) (fd : FuncData) (ps : List Str) (sp : Sp) : Prop where
  len : ∀ vs H Q E, sp vs H Q E → vs.length = ps.length
  run : ∀ (A : Around) (outer : List Env) (s : Shared) (H : Hp) (args : Args) (us : List Value) (vs : List V) (Q : VK) (E : XK),
    A.guards = some [] → Room k A → Env0 P w K mg base A outer s H → BindsTo s fd args (ps.zip us) → Vals vs us → sp vs H Q E →
    codeAny (model P w) A (.call (.ref f) args) (CR (L2.CX P w) outer P w H s Q E) s
theorem GnOk.mono {P : Program} {w : World} {K : PySem.W.Frag} {mg : Str → Option Value} {base : Heap} {j k : Nat} {f : Addr} {fd : FuncData} {ps : List Str} {sp : Sp}
    (G : GnOk P w K mg base j f fd ps sp) (h : j ≤ k) : GnOk P w K mg base k f fd ps sp :=
  ⟨G.len, fun A outer s H args us vs Q E hg hr => G.run A outer s H args us vs Q E hg (hr.mono h)⟩
theorem GnOk.of {P : Program} {w : World} {K : PySem.W.Frag} {mg : Str → Option Value} {base : Heap} {k : Nat} {f : Addr} {fd : FuncData} {ps : List Str} {sp : Sp}
    (G : FnOk P w K mg base (L2.CX P w) k f fd ps sp) : GnOk P w K mg base k f fd ps sp :=
  ⟨G.len, fun A outer s H args us vs Q E _ hr => G.run A outer s H args us vs Q E hr⟩
/-- a def of the text, by its body; what is known of A besides: no repr is under way -/
theorem gn_of {P : Program} {w : World} {K : PySem.W.Frag} {mg : Str → Option Value} {base : Heap} {x qual : Str} {st : Stmt} {f : Addr} {fd : FuncData} {N ps : List Str} {k : Nat} {sp : Sp}
    (F : Fun K x qual st f fd) (S : FnScope N ps (defScope st)) (len : ∀ vs H Q E, sp vs H Q E → vs.length = ps.length)
    (hbody : ∀ (cdv : Value) (A : Around) (outer : List Env) (s : Shared) (H : Hp) (vs : List V) (Q : VK) (E : XK), A.guards = some [] →
      Room k (A.deeper (envOfC qual (defScope st) s.heap.objs.size f cdv)) → sp vs H Q E →
      ∃ t, PSs (cxOf (L2.CX P w) P w K mg base N qual (defScope st) f cdv A outer s H E) (defBody st) t ∧ t { nx := fun _ H' => Q .non H', rt := Q } (start N vs) H) :
    GnOk P w K mg base (k + 1) f fd ps sp := by
  refine ⟨len, ?_⟩
  intro A outer s H args us vs Q E hg hr e0 hb r hsp
  obtain ⟨oc, od, kV, doc, pm, an, cdv, ct, osl, rfl, lk, hcd⟩ := F.ex
  have kin : K.In s.heap := e0.mod.kin.keeps fun b o e => (e0.bs b o e).1
  refine codeAny_call_function hr.depth (kin _ _ lk) rfl S.co S.gen rfl (PySem.W.codeRec_of kin hcd) (hb _ _ _ _ ?_)
  have hk : ∀ y ∈ ps.zip us, (defScope st).names.lookup y.1 = some .local ∨
      ((defScope st).names.lookup y.1 = some .cell ∧ ((cellsFrom (s.heap.objs.size + 1) (defScope st).names []).lookup y.1).isSome = true) := by
    rintro ⟨n, v⟩ hy
    rcases S.par n (List.of_mem_zip hy).1 with q | q
    · exact Or.inl q
    · exact Or.inr ⟨q, PySem.W.cellsFrom_some _ _ _ (Or.inl q)⟩
  refine wpAny_newFunctionEnv_cells S.kind hk ?_
  intro env he s1 x
  subst he
  refine ⟨(e0.mod.nolimit.keeps fun b o e => (e0.bs b o e).1).keeps x.toInCall.keep, codeAny_func ?_⟩
  obtain ⟨t, ht, hq⟩ := hbody cdv A outer s H vs Q E hg (hr.deeper _) hsp
  have I := inv_start (CX := L2.CX P w) (P := P) (w := w) (mg := mg) (base := base) (E := E) S hr.hd e0 (len _ _ _ _ hsp) r x
  refine wpAny_mono (ht.run [] s1 (start N vs) H _ I hq) ?_ (fun e s' hs => hs)
  intro fl s' hs
  cases fl with
  | ret u =>
    obtain ⟨v, σ', H', J, rv, q⟩ := hs
    exact ⟨v, H', J.os, J.bare, J.base, J.hok, rv, q⟩
  | next =>
    obtain ⟨σ', H', J, q⟩ := hs
    exact ⟨V.non, H', J.os, J.bare, J.base, J.hok, rfl, q⟩
  | brk =>
    obtain ⟨_, _, _, q⟩ := hs
    exact q.elim
  | cont =>
    obtain ⟨_, _, _, q⟩ := hs
    exact q.elim

/-! ### canonical readings -/
section
variable {X : Cx} {e : Expr}
def cE (X : Cx) (e : Expr) : TE := fun σ H Q => ∀ (pins : List (Addr × Obj)) (s : Shared), Inv X pins σ H s → wpAny (model X.prog X.w) X.A (eval e X.env) (EP X pins σ Q) X.xe s
def cT (X : Cx) (e : Expr) : TT := fun σ H Q => ∀ (pins : List (Addr × Obj)) (s : Shared), Inv X pins σ H s → wpAny (model X.prog X.w) X.A (isTrue e X.env (eval e X.env)) (TP X pins σ Q) X.xe s
def cW (X : Cx) (e : Expr) : TT := fun σ H Q => ∀ (whole : Sem Value) (pins : List (Addr × Obj)) (s : Shared), Inv X pins σ H s → wpAny (model X.prog X.w) X.A (isTrue e X.env whole) (TP X pins σ Q) X.xe s
def cA (X : Cx) (es : List Expr) : TA := fun σ H Q => ∀ (pos : Pos) (pins : List (Addr × Obj)) (s : Shared), Inv X pins σ H s → wpAny (model X.prog X.w) X.A (spliced (backTo pos (starEach es X.env))) (AP X pins σ Q) X.xe s
def cS (X : Cx) (st : Stmt) : TS := fun D σ H => ∀ (pins : List (Addr × Obj)) (s : Shared), Inv X pins σ H s → wpAny (model X.prog X.w) X.A (exec st X.env) (SP X pins D) X.xe s
def cSs (X : Cx) (st : List Stmt) : TS := fun D σ H => ∀ (pins : List (Addr × Obj)) (s : Shared), Inv X pins σ H s → wpAny (model X.prog X.w) X.A (execs st X.env) (SP X pins D) X.xe s
theorem cE_pe : PE X e (cE X e) := ⟨fun pins s _ _ _ I h => h pins s I⟩
theorem cT_pt : PT X e (cT X e) := ⟨fun pins s _ _ _ I h => h pins s I⟩
theorem cW_pw : PW X e (cW X e) := ⟨fun wh pins s _ _ _ I h => h wh pins s I⟩
theorem cA_pa {es : List Expr} : PA X es (cA X es) := ⟨fun pos pins s _ _ _ I h => h pos pins s I⟩
theorem cS_ps {st : Stmt} : PS X st (cS X st) := ⟨fun pins s _ _ _ I h => h pins s I⟩
theorem cSs_pss {st : List Stmt} : PSs X st (cSs X st) := ⟨fun pins s _ _ _ I h => h pins s I⟩
theorem cE_of {t : TE} {σ : L2.St} {H : Hp} {Q : VK} (h : PE X e t) (q : t σ H Q) : cE X e σ H Q := fun pins s I => h.run pins s σ H Q I q
theorem cT_of {t : TT} {σ : L2.St} {H : Hp} {Q : Bool → Hp → Prop} (h : PT X e t) (q : t σ H Q) : cT X e σ H Q := fun pins s I => h.run pins s σ H Q I q
theorem cE.imp {σ : L2.St} {H : Hp} {Q Q' : VK} (h : cE X e σ H Q) (i : ∀ v H', Q v H' → Q' v H') : cE X e σ H Q' := fun pins s I => thn (h pins s I) fun u s' q => by
  obtain ⟨v, H', I', r, q⟩ := q
  exact ⟨v, H', I', r, i v H' q⟩
theorem cT.imp {σ : L2.St} {H : Hp} {Q Q' : Bool → Hp → Prop} (h : cT X e σ H Q) (i : ∀ v H', Q v H' → Q' v H') : cT X e σ H Q' := fun pins s I => thn (h pins s I) fun u s' q => by
  obtain ⟨H', I', q⟩ := q
  exact ⟨H', I', i u H' q⟩
theorem cW.imp {σ : L2.St} {H : Hp} {Q Q' : Bool → Hp → Prop} (h : cW X e σ H Q) (i : ∀ v H', Q v H' → Q' v H') : cW X e σ H Q' := fun wh pins s I => thn (h wh pins s I) fun u s' q => by
  obtain ⟨H', I', q⟩ := q
  exact ⟨H', I', i u H' q⟩
theorem cA.imp {es : List Expr} {σ : L2.St} {H : Hp} {Q Q' : List V → Hp → Prop} (h : cA X es σ H Q) (i : ∀ v H', Q v H' → Q' v H') : cA X es σ H Q' := fun pos pins s I => thn (h pos pins s I) fun u s' q => by
  obtain ⟨v, H', I', r, q⟩ := q
  exact ⟨v, H', I', r, i v H' q⟩
theorem SP.imp {pins : List (Addr × Obj)} {D D' : Ends} {f : Flow} {s : Shared} (h : SP X pins D f s) (h1 : ∀ σ H, D.nx σ H → D'.nx σ H) (h2 : ∀ v H, D.rt v H → D'.rt v H) (h3 : ∀ σ H, D.bk σ H → D'.bk σ H) (h4 : ∀ σ H, D.ct σ H → D'.ct σ H) : SP X pins D' f s := by
  cases f with
  | next =>
    obtain ⟨σ', H', I, q⟩ := h
    exact ⟨σ', H', I, h1 _ _ q⟩
  | brk =>
    obtain ⟨σ', H', I, q⟩ := h
    exact ⟨σ', H', I, h3 _ _ q⟩
  | cont =>
    obtain ⟨σ', H', I, q⟩ := h
    exact ⟨σ', H', I, h4 _ _ q⟩
  | ret u =>
    obtain ⟨v, σ', H', I, r, q⟩ := h
    exact ⟨v, σ', H', I, r, h2 _ _ q⟩
end

/-! ### expressions over data -/
abbrev TD := Env' → (B → Env' → Prop) → Prop
abbrev TDT := Env' → (Bool → Env' → Prop) → Prop
abbrev TDA := Env' → (List D → Env' → Prop) → Prop
structure DE (X : Cx) (W : Fix) (e : Expr) (t : TD) : Prop where
  run : ∀ (F H : Hp) (σ : L2.St) (δ : Env') (Q : B → Env' → Prop), SD X.K W F H σ δ → t δ Q → cE X e σ H (DQ X.K W F σ Q)
def TQ (K : PySem.W.Frag) (W : Fix) (F : Hp) (σ : L2.St) (Q : Bool → Env' → Prop) : Bool → Hp → Prop := fun b H' =>
  ∃ (F' : Hp) (δ' : Env'), Same F F' ∧ SD K W F' H' σ δ' ∧ Q b δ'
def AQ (K : PySem.W.Frag) (W : Fix) (F : Hp) (σ : L2.St) (Q : List D → Env' → Prop) : List V → Hp → Prop := fun vs H' =>
  ∃ (F' : Hp) (ds : List D) (δ' : Env'), Same F F' ∧ SD K W F' H' σ δ' ∧ RpL K F' ds vs ∧ Q ds δ'
structure DT (X : Cx) (W : Fix) (e : Expr) (t : TDT) : Prop where
  run : ∀ (F H : Hp) (σ : L2.St) (δ : Env') (Q : Bool → Env' → Prop), SD X.K W F H σ δ → t δ Q → cT X e σ H (TQ X.K W F σ Q)
structure DW (X : Cx) (W : Fix) (e : Expr) (t : TDT) : Prop where
  run : ∀ (F H : Hp) (σ : L2.St) (δ : Env') (Q : Bool → Env' → Prop), SD X.K W F H σ δ → t δ Q → cW X e σ H (TQ X.K W F σ Q)
structure DA (X : Cx) (W : Fix) (es : List Expr) (t : TDA) : Prop where
  run : ∀ (F H : Hp) (σ : L2.St) (δ : Env') (Q : List D → Env' → Prop), SD X.K W F H σ δ → t δ Q → cA X es σ H (AQ X.K W F σ Q)
theorem DW.dt {X : Cx} {W : Fix} {e : Expr} {t : TDT} (h : DW X W e t) : DT X W e t := ⟨fun F H σ δ Q S q pins s I => h.run F H σ δ Q S q _ pins s I⟩

section
variable {K : PySem.W.Frag} {W : Fix} {F F1 H : Hp} {σ : L2.St} {δ : Env'}
theorem DQ.back {Q : B → Env' → Prop} {v : V} (e : Same F F1) (h : DQ K W F1 σ Q v H) : DQ K W F σ Q v H := by
  obtain ⟨F', b, δ', e1, h⟩ := h
  exact ⟨F', b, δ', e.trans e1, h⟩
theorem TQ.back {Q : Bool → Env' → Prop} {v : Bool} (e : Same F F1) (h : TQ K W F1 σ Q v H) : TQ K W F σ Q v H := by
  obtain ⟨F', δ', e1, h⟩ := h
  exact ⟨F', δ', e.trans e1, h⟩
theorem AQ.back {Q : List D → Env' → Prop} {v : List V} (e : Same F F1) (h : AQ K W F1 σ Q v H) : AQ K W F σ Q v H := by
  obtain ⟨F', b, δ', e1, h⟩ := h
  exact ⟨F', b, δ', e.trans e1, h⟩
theorem own_noU {b : B} (h : b.isU = false) (g : b.own = true) : ∃ d, b = .o d := by
  cases b with
  | p d => cases g
  | n ds => cases g
  | o d => exact ⟨d, rfl⟩
  | u w n => cases h
  | s d => cases h
/-- what is frozen where it stood owned -/
theorem own_frozen {o : HO} {d : D} {a : Addr} (h : Own K F H d a) (ho : H a = some o) (hF : F a = none) : Rp K (upd F a o) d (.ref a) := by
  have e : Same F (upd F a o) := same_upd hF
  cases d <;> first | exact h.elim | skip
  · obtain ⟨xs, h1, h2⟩ := h
    rw [h1] at ho
    cases ho
    unfold Rp
    exact ⟨a, xs, rfl, upd_same, RpL.mono e _ _ h2⟩
  · obtain ⟨xs, h1, h2, h3⟩ := h
    rw [h1] at ho
    cases ho
    unfold Rp
    exact ⟨a, xs, rfl, upd_same, RpL.mono e _ _ h2, h3⟩
  · obtain ⟨dx, xs, h1, h2, h3⟩ := h
    rw [h1] at ho
    cases ho
    unfold Rp
    exact ⟨a, dx, xs, rfl, upd_same, RpL.mono e _ _ h2, h3⟩
  · have h1 : H a = some (.set _ _) := h
    rw [h1] at ho
    cases ho
    unfold Rp
    exact ⟨a, rfl, upd_same⟩
  · obtain ⟨xs, h1, h2, h3⟩ := h
    rw [h1] at ho
    cases ho
    unfold Rp
    exact ⟨a, xs, rfl, upd_same, RpL.mono e _ _ h2, h3⟩
/-- data as plain data -/
theorem DQ.plain {Q : B → Env' → Prop} {v : V} (h : DQ K W F σ (fun b δ' => b.isU = false ∧ Q b δ') v H) :
    ∃ (F' : Hp) (b : B) (δ' : Env'), Same F F' ∧ SD K W F' H σ δ' ∧ Rp K F' b.d v ∧ Q b δ' := by
  obtain ⟨F', b, δ', e1, S, r, hs, hu, q⟩ := h
  cases b with
  | p d => exact ⟨F', .p d, δ', e1, S, r, q⟩
  | n ds =>
    obtain ⟨t, xs, rfl, h1, h2, _⟩ := r
    refine ⟨F', .n ds, δ', e1, S, ?_, q⟩
    show Rp K F' (.tup ds) (.ref t)
    unfold Rp
    exact ⟨t, xs, rfl, h1, h2⟩
  | u w n => cases hu
  | s d => cases hu
  | o d =>
    obtain ⟨a, rfl, h1, h2, h3⟩ := r
    obtain ⟨o, ho⟩ := h3.some
    exact ⟨upd F' a o, .o d, δ', e1.trans (same_upd h1), S.freeze ho h2 h1 (hs rfl), own_frozen h3 ho h1, q⟩
/-- plain data as a result -/
theorem DQ.mk {Q : B → Env' → Prop} {v : V} {d : D} (S : SD K W F H σ δ) (r : Rp K F d v) (q : Q (.p d) δ) : DQ K W F σ Q v H :=
  ⟨F, .p d, δ, Same.refl F, S, r, (fun h => by cases h), q⟩
theorem DQ.mkN {Q : B → Env' → Prop} {p : Addr} {o : HO} {d : D} (S : SD K W F H σ δ) (hp : H p = none) (r : Rp K (upd F p o) d (.ref p)) (q : Q (.p d) δ) : DQ K W F σ Q (.ref p) (upd H p o) :=
  ⟨upd F p o, .p d, δ, same_upd (S.freshF hp), S.new hp, r, (fun h => by cases h), q⟩
/-- a new object of one's own as a result -/
theorem DQ.mkO {Q : B → Env' → Prop} {p : Addr} {o : HO} {d : D} (S : SD K W F H σ δ) (hp : H p = none) (r : Own K F (upd H p o) d p) (q : Q (.o d) δ) : DQ K W F σ Q (.ref p) (upd H p o) := by
  refine ⟨F, .o d, δ, Same.refl F, S.newO hp, ⟨p, rfl, S.freshF hp, S.fresh0 hp, r⟩, fun _ j c h1 h2 h3 => ?_, q⟩
  obtain ⟨v, e1, r1⟩ := S.get j c h1
  rw [h3] at e1
  cases e1
  obtain ⟨a, o', e2, h4, _⟩ := r1.there h2
  cases e2
  rw [hp] at h4
  cases h4
end

/-- a part whose value is taken as plain data -/
def dp (t : TD) : Env' → (D → Env' → Prop) → Prop := fun δ Q => t δ fun b δ' => b.isU = false ∧ Q b.d δ'
section
variable {X : Cx} {W : Fix} {e a b : Expr} {t ta tb : TD}
theorem DE.plain {F H : Hp} {σ : L2.St} {δ : Env'} {Q : D → Env' → Prop} (h : DE X W e t) (S : SD X.K W F H σ δ) (q : dp t δ Q) :
    cE X e σ H fun v H' => ∃ (F' : Hp) (d : D) (δ' : Env'), Same F F' ∧ SD X.K W F' H' σ δ' ∧ Rp X.K F' d v ∧ Q d δ' :=
  (h.run F H σ δ _ S q).imp fun v H' z => by
    obtain ⟨F', b, δ', e, S', r, q⟩ := DQ.plain (Q := fun b δ' => Q b.d δ') z
    exact ⟨F', b.d, δ', e, S', r, q⟩
theorem DE.of {te : TE} (h : PE X e te) (hh : ∀ (F H : Hp) (σ : L2.St) (δ : Env') (Q : B → Env' → Prop), SD X.K W F H σ δ → t δ Q → te σ H (DQ X.K W F σ Q)) : DE X W e t :=
  ⟨fun F H σ δ Q S q => cE_of h (hh F H σ δ Q S q)⟩

/-! ### names, constants -/
def dC (d : D) : TD := fun δ Q => Q (.p d) δ
/-- what a name holds once it was read -/
def B.rd : B → B
  | .n ds => .n ds
  | b => .p b.d
/-- a name: what was one's own is shared from then on -/
def dV (i : Nat) : TD := fun δ Q => ∃ b, δ[i]? = some (some b) ∧ b.isU = false ∧ Q (.p b.d) (δ.set i (some b.rd))
/-- a name whose value leaves it (returned, handed on): what was its own stays so -/
def dM (i : Nat) : TD := fun δ Q => ∃ b, δ[i]? = some (some b) ∧ b.isU = false ∧ Q b (δ.set i none)
theorem SD.put {K : PySem.W.Frag} {F H : Hp} {σ : L2.St} {δ : Env'} {i : Nat} {v : V} {b : B} (S : SD K W F H σ δ) (r : RB K W F H b v)
    (hs : b.own = true → ∀ (j : Nat) (c : B), δ[j]? = some (some c) → c.own = true → j ≠ i → σ[j]? ≠ some (some v)) : SD K W F H (σ.set i (some v)) (δ.set i (some b)) where
  f0 := S.f0
  h0 := S.h0
  fh := S.fh
  fr := S.fr
  fp := S.fp
  len := by rw [List.length_set, List.length_set, S.len]
  get := fun j c h => by
    by_cases e : j = i
    · subst e
      have hl : j < δ.length := by
        have := (List.getElem?_eq_some_iff.mp h).1
        rw [List.length_set] at this
        exact this
      rw [List.getElem?_set_self hl] at h
      cases h
      exact ⟨v, by rw [List.getElem?_set_self (by rw [S.len]; exact hl)], r⟩
    · rw [List.getElem?_set_ne (Ne.symm e)] at h
      rw [List.getElem?_set_ne (Ne.symm e)]
      exact S.get j c h
  sep := fun j k c d x ne h1 h2 h3 h4 h5 => by
    by_cases ej : j = i
    · subst ej
      have ek : k ≠ j := Ne.symm ne
      have hl : j < δ.length := by
        have := (List.getElem?_eq_some_iff.mp h1).1
        rw [List.length_set] at this
        exact this
      rw [List.getElem?_set_self hl] at h1
      cases h1
      rw [List.getElem?_set_self (by rw [S.len]; exact hl)] at h5
      cases h5
      rw [List.getElem?_set_ne ne] at h3 ⊢
      exact hs h2 k d h3 h4 ek
    · rw [List.getElem?_set_ne (Ne.symm ej)] at h1 h5
      by_cases ek : k = i
      · subst ek
        have hl : k < δ.length := by
          have := (List.getElem?_eq_some_iff.mp h3).1
          rw [List.length_set] at this
          exact this
        rw [List.getElem?_set_self hl] at h3
        cases h3
        rw [List.getElem?_set_self (by rw [S.len]; exact hl)]
        intro z
        cases z
        exact hs h4 j c h1 h2 ej h5
      · rw [List.getElem?_set_ne (Ne.symm ek)] at h3 ⊢
        exact S.sep j k c d x ne h1 h2 h3 h4 h5
/-- what a slot is known to hold is forgotten -/
theorem SD.drop {K : PySem.W.Frag} {F H : Hp} {σ : L2.St} {δ : Env'} {i : Nat} (S : SD K W F H σ δ) : SD K W F H σ (δ.set i none) where
  f0 := S.f0
  h0 := S.h0
  fh := S.fh
  fr := S.fr
  fp := S.fp
  len := by rw [List.length_set, S.len]
  get := fun j c h => by
    by_cases e : j = i
    · subst e
      have hl : j < δ.length := by
        have := (List.getElem?_eq_some_iff.mp h).1
        rw [List.length_set] at this
        exact this
      rw [List.getElem?_set_self hl] at h
      cases h
    · rw [List.getElem?_set_ne (Ne.symm e)] at h
      exact S.get j c h
  sep := fun j k c d x ne h1 h2 h3 h4 h5 => by
    have aux : ∀ (m : Nat) (c : B), (δ.set i none)[m]? = some (some c) → δ[m]? = some (some c) := fun m c h => by
      by_cases e : m = i
      · subst e
        have hl : m < δ.length := by
          have := (List.getElem?_eq_some_iff.mp h).1
          rw [List.length_set] at this
          exact this
        rw [List.getElem?_set_self hl] at h
        cases h
      · rw [List.getElem?_set_ne (Ne.symm e)] at h
        exact h
    exact S.sep j k c d x ne (aux j c h1) h2 (aux k d h3) h4 h5
theorem set_noop {α : Type} {l : List α} {i : Nat} {x : α} (h : l[i]? = some x) : l.set i x = l := by
  obtain ⟨h1, h2⟩ := List.getElem?_eq_some_iff.mp h
  rw [← h2]
  exact List.set_getElem_self h1
theorem de_var {i : Nat} {x : Str} {pos : Pos} (hN : X.N[i]? = some x) (hv : Vis X.env.scope x) (hd : (x == ("__debug__" : Str)) = false := by decide) (hcd : (x == ("__classdict__" : Str)) = false := by decide) :
    DE X W (.Name x pos) (dV i) := .of (pe_var (X := X) hN hv hd hcd) fun F H σ δ Q S q => by
  obtain ⟨b, h1, h2, q⟩ := q
  obtain ⟨v, h3, r⟩ := S.get i b h1
  refine ⟨v, h3, ?_⟩
  cases b with
  | u w n => cases h2
  | s d => cases h2
  | n ds =>
    have e : δ.set i (some (B.n ds).rd) = δ := set_noop h1
    rw [e] at q
    obtain ⟨t, xs, rfl, h4, h5, _⟩ := r
    refine .mk S (?_ : Rp X.K F (.tup ds) (.ref t)) q
    unfold Rp
    exact ⟨t, xs, rfl, h4, h5⟩
  | p d =>
    have e : δ.set i (some (.p d)) = δ := set_noop h1
    have q : Q (.p d) (δ.set i (some (.p d))) := q
    rw [e] at q
    exact .mk S r q
  | o d =>
    obtain ⟨a, rfl, hF, h0, hO⟩ := r
    obtain ⟨o, ho⟩ := hO.some
    have S1 := SD.drop (i := i) S
    have S2 : SD X.K W (upd F a o) H σ (δ.set i none) := S1.freeze ho h0 hF fun j c e1 e2 e3 => by
      by_cases ej : j = i
      · subst ej
        have hl : j < δ.length := (List.getElem?_eq_some_iff.mp h1).1
        rw [List.getElem?_set_self hl] at e1
        cases e1
      · rw [List.getElem?_set_ne (Ne.symm ej)] at e1
        exact S.sep i j (.o d) c (.ref a) (Ne.symm ej) h1 rfl e1 e2 h3 e3
    have r2 : RB X.K W (upd F a o) H (.p d) (.ref a) := own_frozen hO ho hF
    have S3 := S2.put (i := i) r2 (fun z => by cases z)
    rw [set_noop h3, List.set_set] at S3
    exact ⟨upd F a o, .p d, _, same_upd hF, S3, r2, (fun z => by cases z), q⟩
theorem de_move {i : Nat} {x : Str} {pos : Pos} (hN : X.N[i]? = some x) (hv : Vis X.env.scope x) (hd : (x == ("__debug__" : Str)) = false := by decide) (hcd : (x == ("__classdict__" : Str)) = false := by decide) :
    DE X W (.Name x pos) (dM i) := .of (pe_var (X := X) hN hv hd hcd) fun F H σ δ Q S q => by
  obtain ⟨b, h1, h2, q⟩ := q
  obtain ⟨v, h3, r⟩ := S.get i b h1
  refine ⟨v, h3, F, b, _, Same.refl F, S.drop, r, fun hb j c e1 e2 e3 => ?_, q⟩
  by_cases ej : j = i
  · subst ej
    have hl : j < δ.length := (List.getElem?_eq_some_iff.mp h1).1
    rw [List.getElem?_set_self hl] at e1
    cases e1
  · rw [List.getElem?_set_ne (Ne.symm ej)] at e1
    exact S.sep i j b c v (Ne.symm ej) h1 hb e1 e2 h3 e3
theorem de_int {i : Int} {j : Nat} {pos : Pos} : DE X W (.Constant (.int i) j pos) (dC (.int i)) := .of pe_int fun F H σ δ Q S q => .mk S (by unfold Rp; rfl) q
theorem de_bl {i : Bool} {j : Nat} {pos : Pos} : DE X W (.Constant (.bool i) j pos) (dC (.bl i)) := .of pe_bl fun F H σ δ Q S q => .mk S (by unfold Rp; rfl) q
theorem de_non {j : Nat} {pos : Pos} : DE X W (.Constant .none j pos) (dC .non) := .of pe_non fun F H σ δ Q S q => .mk S (by unfold Rp; rfl) q
theorem de_str {i : Str} {j : Nat} {pos : Pos} : DE X W (.Constant (.str i) j pos) (dC (.str i)) := .of pe_str fun F H σ δ Q S q => .mk S (by unfold Rp; rfl) q
/-- a constant of the module -/
theorem de_glob {x : Str} {d : D} {v : V} {u : Value} {pos : Pos} (hg : Gl X x) (hm : X.mg x = some u) (r : RelV v u) (hr : ∀ F, Rp X.K F d v) (hd : (x == ("__debug__" : Str)) = false := by decide) :
    DE X W (.Name x pos) (dC d) := .of (pe_glob hg hm r hd) fun F H σ δ Q S q => .mk S (hr F) q
theorem de_bltn {x : Str} {d : D} {v : V} {u : Value} {pos : Pos} (hg : Gl X x) (hm : X.mg x = none) (hv : bootBuiltins x = some u) (r : RelV v u) (hr : ∀ F, Rp X.K F d v) (hn : x ≠ "__name__" := by decide) (hd : (x == ("__debug__" : Str)) = false := by decide) :
    DE X W (.Name x pos) (dC d) := .of (pe_bltn hg hm hv r hn hd) fun F H σ δ Q S q => .mk S (hr F) q

/-! ### two operands -/
/-- what an operation on two values does over data -/
def RD (K : PySem.W.Frag) (r : R2) (g : D → D → (B → Prop) → Prop) : Prop :=
  ∀ (W : Fix) (F H : Hp) (σ : L2.St) (δ : Env') (x y : V) (c d : D) (Q : B → Prop) (Z : VK), SD K W F H σ δ → Rp K F c x → Rp K F d y → g c d Q →
    (∀ v H', DQ K W F σ (fun b δ' => δ' = δ ∧ Q b) v H' → Z v H') → r x y H Z
def dOp (g : D → D → (B → Prop) → Prop) (ta tb : TD) : TD := fun δ Q => dp ta δ fun x δ1 => dp tb δ1 fun y δ2 => g x y fun z => Q z δ2
theorem DQ.fix {K : PySem.W.Frag} {F F0 H : Hp} {σ : L2.St} {δ : Env'} {Q : B → Env' → Prop} {v : V} (e : Same F0 F) (h : DQ K W F σ (fun b δ' => δ' = δ ∧ Q b δ) v H) : DQ K W F0 σ Q v H := by
  obtain ⟨F', b, δ', e1, S, r, hs, rfl, q⟩ := h
  exact ⟨F', b, δ', e.trans e1, S, r, hs, q⟩
theorem two {F H : Hp} {σ : L2.St} {δ : Env'} {r : R2} {g : D → D → (B → Prop) → Prop} {Q : B → Env' → Prop} (ha : DE X W a ta) (hb : DE X W b tb) (hr : RD X.K r g) (S : SD X.K W F H σ δ) (q : dOp g ta tb δ Q) :
    tOp r (cE X a) (cE X b) σ H (DQ X.K W F σ Q) := by
  refine (ha.plain S q).imp fun x H1 h1 => ?_
  obtain ⟨F1, c, δ1, e1, S1, r1, q1⟩ := h1
  refine (hb.plain S1 q1).imp fun y H2 h2 => ?_
  obtain ⟨F2, d, δ2, e2, S2, r2, q2⟩ := h2
  exact hr W F2 H2 σ δ2 x y c d _ _ S2 (Rp.mono e2 c x r1) r2 q2 fun v H' h => h.fix (e1.trans e2)
theorem de_op {op : Operator} {pos : Pos} {r : R2} {g : D → D → (B → Prop) → Prop} (ho : OpR X (binaryOp op) r) (hr : RD X.K r g) (ha : DE X W a ta) (hb : DE X W b tb) : DE X W (.BinOp a op b pos) (dOp g ta tb) :=
  .of (pe_op ho cE_pe cE_pe) fun _ _ _ _ _ S q => two ha hb hr S q
theorem de_cmp {op : CmpOp} {pos : Pos} {r : R2} {g : D → D → (B → Prop) → Prop} (ho : OpR X (compareOp op) r) (hr : RD X.K r g) (ha : DE X W a ta) (hb : DE X W b tb) (hm : behindInMarks op b = false) : DE X W (.Compare a [op] [b] pos) (dOp g ta tb) :=
  .of (pe_cmpR ho cE_pe cE_pe hm) fun _ _ _ _ _ S q => two ha hb hr S q
/-- a test by its value, a bool -/
def dT (t : TD) : TDT := fun δ Q => t δ fun b δ' => ∃ k, b = .p (.bl k) ∧ Q k δ'
theorem dt_cmp {op : CmpOp} {pos : Pos} {r : R2} {g : D → D → (B → Prop) → Prop} (ho : OpR X (compareOp op) r) (hr : RD X.K r g) (ha : DE X W a ta) (hb : DE X W b tb) (hm : behindInMarks op b = false) : DT X W (.Compare a [op] [b] pos) (dT (dOp g ta tb)) := by
  refine ⟨fun F H σ δ Q S q => cT_of (pt_cmpR ho cE_pe cE_pe hm) ?_⟩
  have q : dp ta δ fun x δ1 => dp tb δ1 fun y δ2 => g x y fun z => ∃ k, z = .p (.bl k) ∧ Q k δ2 := q
  refine (ha.plain S q).imp fun x H1 h1 => ?_
  obtain ⟨F1, c, δ1, e1, S1, r1, q1⟩ := h1
  refine (hb.plain S1 q1).imp fun y H2 h2 => ?_
  obtain ⟨F2, d, δ2, e2, S2, r2, q2⟩ := h2
  refine hr W F2 H2 σ δ2 x y c d _ _ S2 (Rp.mono e2 c x r1) r2 q2 fun v H' h => ?_
  obtain ⟨F3, b, δ3, e3, S3, r3, _, rfl, k, rfl, q3⟩ := h
  exact ⟨k, r3, F3, δ3, (e1.trans e2).trans e3, S3, q3⟩
theorem dt_val {he : ∀ whole, isTrue e X.env whole = (do let v ← whole; standAt e.pos; holding [v] (truthy v))} (h : DE X W e t) : DT X W e (dT t) := by
  refine ⟨fun F H σ δ Q S q => cT_of (pt_val (t := cE X e) cE_pe he) ?_⟩
  refine (h.run F H σ δ _ S q).imp fun x H1 h1 => ?_
  obtain ⟨F3, b, δ3, e3, S3, r3, _, k, rfl, q3⟩ := h1
  exact ⟨k, r3, F3, δ3, e3, S3, q3⟩
end

/-! ### and, or, not; a if t else b -/
section
variable {X : Cx} {W : Fix} {a b c : Expr} {rest : List Expr} {t u : TDT} {ta tb : TD} {pos : Pos}
def dAnd (t u : TDT) : TDT := fun δ Q => t δ fun k δ1 => if k = true then u δ1 Q else Q false δ1
def dOr (t u : TDT) : TDT := fun δ Q => t δ fun k δ1 => if k = true then Q true δ1 else u δ1 Q
def dNot (t : TDT) : TDT := fun δ Q => t δ fun k δ1 => Q (!k) δ1
theorem dw_and1 (h : DT X W a t) : DW X W (.BoolOp .And [a] pos) t := ⟨fun F H σ δ Q S q wh pins s I => (pw_and1 (X := X) cT_pt).run wh pins s σ H _ I (h.run F H σ δ Q S q)⟩
theorem dw_or1 (h : DT X W a t) : DW X W (.BoolOp .Or [a] pos) t := ⟨fun F H σ δ Q S q wh pins s I => (pw_or1 (X := X) cT_pt).run wh pins s σ H _ I (h.run F H σ δ Q S q)⟩
theorem dw_and (h : DT X W a t) (g : DW X W (.BoolOp .And (b :: rest) pos) u) : DW X W (.BoolOp .And (a :: b :: rest) pos) (dAnd t u) := by
  refine ⟨fun F H σ δ Q S q wh pins s I => (pw_and (X := X) cT_pt cW_pw).run wh pins s σ H _ I ?_⟩
  refine (h.run F H σ δ _ S q).imp fun k H1 h1 => ?_
  obtain ⟨F1, δ1, e1, S1, q1⟩ := h1
  cases k with
  | true =>
    rw [if_pos rfl] at q1 ⊢
    exact (g.run F1 H1 σ δ1 Q S1 q1).imp fun k2 H2 h2 => h2.back e1
  | false =>
    rw [if_neg Bool.false_ne_true] at q1 ⊢
    exact ⟨F1, δ1, e1, S1, q1⟩
theorem dw_or (h : DT X W a t) (g : DW X W (.BoolOp .Or (b :: rest) pos) u) : DW X W (.BoolOp .Or (a :: b :: rest) pos) (dOr t u) := by
  refine ⟨fun F H σ δ Q S q wh pins s I => (pw_or (X := X) cT_pt cW_pw).run wh pins s σ H _ I ?_⟩
  refine (h.run F H σ δ _ S q).imp fun k H1 h1 => ?_
  obtain ⟨F1, δ1, e1, S1, q1⟩ := h1
  cases k with
  | false =>
    rw [if_neg Bool.false_ne_true] at q1 ⊢
    exact (g.run F1 H1 σ δ1 Q S1 q1).imp fun k2 H2 h2 => h2.back e1
  | true =>
    rw [if_pos rfl] at q1 ⊢
    exact ⟨F1, δ1, e1, S1, q1⟩
theorem dt_not (h : DT X W a t) : DT X W (.UnaryOp .Not a pos) (dNot t) := by
  refine ⟨fun F H σ δ Q S q => cT_of (pt_not (X := X) cT_pt) ?_⟩
  exact (h.run F H σ δ _ S q).imp fun k H1 h1 => h1
/-- and, or, not as values: all are bools -/
def dAndV (ta tb : TD) : TD := fun δ Q => ta δ fun x δ1 => ∃ k, x = .p (.bl k) ∧ if k = true then tb δ1 Q else Q (.p (.bl false)) δ1
def dOrV (ta tb : TD) : TD := fun δ Q => ta δ fun x δ1 => ∃ k, x = .p (.bl k) ∧ if k = true then Q (.p (.bl true)) δ1 else tb δ1 Q
def dNotV (ta : TD) : TD := fun δ Q => ta δ fun x δ1 => ∃ k, x = .p (.bl k) ∧ Q (.p (.bl (!k))) δ1
theorem de_one {op : BoolOp} (h : DE X W a ta) : DE X W (.BoolOp op [a] pos) ta := .of (pe_one (X := X) (t := cE X a) cE_pe) fun F H σ δ Q S q => h.run F H σ δ Q S q
theorem de_and (h : DE X W a ta) (g : DE X W (.BoolOp .And (b :: rest) pos) tb) : DE X W (.BoolOp .And (a :: b :: rest) pos) (dAndV ta tb) := .of (pe_and (X := X) cE_pe cE_pe) fun F H σ δ Q S q => by
  refine (h.run F H σ δ _ S q).imp fun x H1 h1 => ?_
  obtain ⟨F1, b1, δ1, e1, S1, r1, _, k, rfl, q1⟩ := h1
  refine ⟨k, r1, ?_⟩
  cases k with
  | true =>
    rw [if_pos rfl] at q1 ⊢
    exact (g.run F1 H1 σ δ1 Q S1 q1).imp fun k2 H2 h2 => h2.back e1
  | false =>
    rw [if_neg Bool.false_ne_true] at q1 ⊢
    exact (DQ.mk (Q := Q) S1 (by unfold Rp; rfl) q1).back e1
theorem de_or (h : DE X W a ta) (g : DE X W (.BoolOp .Or (b :: rest) pos) tb) : DE X W (.BoolOp .Or (a :: b :: rest) pos) (dOrV ta tb) := .of (pe_or (X := X) cE_pe cE_pe) fun F H σ δ Q S q => by
  refine (h.run F H σ δ _ S q).imp fun x H1 h1 => ?_
  obtain ⟨F1, b1, δ1, e1, S1, r1, _, k, rfl, q1⟩ := h1
  refine ⟨k, r1, ?_⟩
  cases k with
  | false =>
    rw [if_neg Bool.false_ne_true] at q1 ⊢
    exact (g.run F1 H1 σ δ1 Q S1 q1).imp fun k2 H2 h2 => h2.back e1
  | true =>
    rw [if_pos rfl] at q1 ⊢
    exact (DQ.mk (Q := Q) S1 (by unfold Rp; rfl) q1).back e1
theorem de_not (h : DE X W a ta) : DE X W (.UnaryOp .Not a pos) (dNotV ta) := .of (pe_not (X := X) cE_pe) fun F H σ δ Q S q => by
  refine (h.run F H σ δ _ S q).imp fun x H1 h1 => ?_
  obtain ⟨F1, b1, δ1, e1, S1, r1, _, k, rfl, q1⟩ := h1
  exact ⟨k, r1, (DQ.mk (Q := Q) S1 (d := .bl (!k)) (by unfold Rp; rfl) q1).back e1⟩
def dIf (t : TDT) (ta tb : TD) : TD := fun δ Q => t δ fun k δ1 => if k = true then ta δ1 Q else tb δ1 Q
theorem de_ifExp (hc : DT X W c t) (ha : DE X W a ta) (hb : DE X W b tb) : DE X W (.IfExp c a b pos) (dIf t ta tb) := .of (pe_ifExp (X := X) cT_pt cE_pe cE_pe) fun F H σ δ Q S q => by
  refine (hc.run F H σ δ _ S q).imp fun k H1 h1 => ?_
  obtain ⟨F1, δ1, e1, S1, q1⟩ := h1
  cases k with
  | true =>
    rw [if_pos rfl] at q1 ⊢
    exact (ha.run F1 H1 σ δ1 Q S1 q1).imp fun k2 H2 h2 => h2.back e1
  | false =>
    rw [if_neg Bool.false_ne_true] at q1 ⊢
    exact (hb.run F1 H1 σ δ1 Q S1 q1).imp fun k2 H2 h2 => h2.back e1
end

/-! ### rows of expressions; displays -/
section
variable {X : Cx} {W : Fix} {e : Expr} {es : List Expr} {te : TD} {t : TDA} {pos : Pos}
def dNil : TDA := fun δ Q => Q [] δ
def dCons (te : TD) (t : TDA) : TDA := fun δ Q => dp te δ fun x δ1 => t δ1 fun xs δ2 => Q (x :: xs) δ2
theorem da_nil : DA X W [] dNil := ⟨fun F H σ δ Q S q pos pins s I => (pa_nil (X := X)).run pos pins s σ H _ I ⟨F, [], δ, Same.refl F, S, .nil, q⟩⟩
theorem da_cons (h : DE X W e te) (g : DA X W es t) (hs : starEach (e :: es) X.env = (false, eval e X.env) :: starEach es X.env := by rfl) : DA X W (e :: es) (dCons te t) := by
  refine ⟨fun F H σ δ Q S q pos pins s I => (pa_cons (X := X) cE_pe cA_pa hs).run pos pins s σ H _ I ?_⟩
  refine (h.plain S q).imp fun x H1 h1 => ?_
  obtain ⟨F1, d, δ1, e1, S1, r1, q1⟩ := h1
  refine (g.run F1 H1 σ δ1 _ S1 q1).imp fun xs H2 h2 => ?_
  obtain ⟨F2, ds, δ2, e2, S2, r2, q2⟩ := h2
  exact ⟨F2, d :: ds, δ2, e1.trans e2, S2, .cons (Rp.mono e2 d x r1) r2, q2⟩
def dTup (t : TDA) : TD := fun δ Q => t δ fun ds δ1 => ds.length ≤ sizeLine ∧ Q (.p (.tup ds)) δ1
def dLst (t : TDA) : TD := fun δ Q => t δ fun ds δ1 => ds.length ≤ sizeLine ∧ Q (.o (.lst ds)) δ1
theorem de_tup {x1 : Nat} (h : DA X W es t) : DE X W (.Tuple es x1 pos) (dTup t) := .of (pe_tup (X := X) cA_pa) fun F H σ δ Q S q => by
  refine (h.run F H σ δ _ S q).imp fun xs H1 h1 => ?_
  obtain ⟨F1, ds, δ1, e1, S1, r1, hz, q1⟩ := h1
  refine ⟨by rw [r1.length]; exact hz, fun p hp => ?_⟩
  refine (DQ.mkN S1 hp ?_ q1).back e1
  unfold Rp
  exact ⟨p, xs, rfl, upd_same, RpL.mono (same_upd (S1.freshF hp)) _ _ r1⟩
theorem de_lst (h : DA X W es t) : DE X W (.List es pos) (dLst t) := .of (pe_lst (X := X) cA_pa) fun F H σ δ Q S q => by
  refine (h.run F H σ δ _ S q).imp fun xs H1 h1 => ?_
  obtain ⟨F1, ds, δ1, e1, S1, r1, hz, q1⟩ := h1
  refine ⟨by rw [r1.length]; exact hz, fun p hp => ?_⟩
  exact (DQ.mkO (d := .lst ds) S1 hp ⟨xs, upd_same, r1⟩ q1).back e1
end
end DD

set_option Elab.async false
set_option linter.all false
set_option maxRecDepth 100000
set_option maxHeartbeats 4000000
/-! DD3: statements over data; loops by recursion on what they walk; comprehensions. -/
namespace DD
open PySem PySem.Spec PyProof.Rows L2

structure EndsD where
  nx : Env' → Prop
  rt : B → Env' → Prop
  bk : Env' → Prop := fun _ => False
  ct : Env' → Prop := fun _ => False
abbrev TSD := EndsD → Env' → Prop
def NQ (K : PySem.W.Frag) (W : Fix) (F : Hp) (N : Env' → Prop) : L2.St → Hp → Prop := fun σ' H' => ∃ (F' : Hp) (δ' : Env'), Same F F' ∧ SD K W F' H' σ' δ' ∧ N δ'
/-- behind a statement: what is frozen may have shrunk -/
def MQ (K : PySem.W.Frag) (W : Fix) (N : Env' → Prop) : L2.St → Hp → Prop := fun σ' H' => ∃ (F' : Hp) (δ' : Env'), SD K W F' H' σ' δ' ∧ N δ'
def UQ (K : PySem.W.Frag) (W : Fix) (R : B → Env' → Prop) : VK := fun v H' => ∃ F σ', DQ K W F σ' R v H'
def toE (K : PySem.W.Frag) (W : Fix) (D : EndsD) : Ends where
  nx := MQ K W D.nx
  rt := UQ K W D.rt
  bk := MQ K W D.bk
  ct := MQ K W D.ct
structure DS (X : Cx) (W : Fix) (st : Stmt) (t : TSD) : Prop where
  run : ∀ (F H : Hp) (σ : L2.St) (δ : Env') (D : EndsD), SD X.K W F H σ δ → t D δ → cS X st (toE X.K W D) σ H
structure DSs (X : Cx) (W : Fix) (st : List Stmt) (t : TSD) : Prop where
  run : ∀ (F H : Hp) (σ : L2.St) (δ : Env') (D : EndsD), SD X.K W F H σ δ → t D δ → cSs X st (toE X.K W D) σ H
theorem NQ.back {K : PySem.W.Frag} {W : Fix} {F F1 H : Hp} {σ : L2.St} {N : Env' → Prop} (e : Same F F1) (h : NQ K W F1 N σ H) : NQ K W F N σ H := by
  obtain ⟨F', δ', e1, h⟩ := h
  exact ⟨F', δ', e.trans e1, h⟩
theorem cS.imp {X : Cx} {st : Stmt} {D D' : Ends} {σ : L2.St} {H : Hp} (h : cS X st D σ H) (h1 : ∀ σ H, D.nx σ H → D'.nx σ H) (h2 : ∀ v H, D.rt v H → D'.rt v H) (h3 : ∀ σ H, D.bk σ H → D'.bk σ H) (h4 : ∀ σ H, D.ct σ H → D'.ct σ H) : cS X st D' σ H :=
  fun pins s I => thn (h pins s I) fun _ _ q => SP.imp q h1 h2 h3 h4
theorem cSs.imp {X : Cx} {st : List Stmt} {D D' : Ends} {σ : L2.St} {H : Hp} (h : cSs X st D σ H) (h1 : ∀ σ H, D.nx σ H → D'.nx σ H) (h2 : ∀ v H, D.rt v H → D'.rt v H) (h3 : ∀ σ H, D.bk σ H → D'.bk σ H) (h4 : ∀ σ H, D.ct σ H → D'.ct σ H) : cSs X st D' σ H :=
  fun pins s I => thn (h pins s I) fun _ _ q => SP.imp q h1 h2 h3 h4
section
variable {X : Cx} {W : Fix} {st : Stmt} {rest : List Stmt} {e c : Expr} {t u : TSD} {te : TD} {tc : TDT} {pos : Pos}
def dNext : TSD := fun D δ => D.nx δ
def dSeq (t u : TSD) : TSD := fun D δ => t { D with nx := u D } δ
theorem dss_nil : DSs X W [] dNext := ⟨fun F H σ δ D S q pins s I => (pss_nil (X := X)).run pins s σ H _ I ⟨F, δ, S, q⟩⟩
theorem dss_cons (h : DS X W st t) (g : DSs X W rest u) : DSs X W (st :: rest) (dSeq t u) := by
  refine ⟨fun F H σ δ D S q pins s I => (pss_cons (X := X) cS_ps cSs_pss).run pins s σ H _ I ?_⟩
  refine (h.run F H σ δ _ S q).imp (fun σ1 H1 h1 => ?_) (fun _ _ h => h) (fun _ _ h => h) (fun _ _ h => h)
  obtain ⟨F1, δ1, S1, q1⟩ := h1
  exact g.run F1 H1 σ1 δ1 D S1 q1
theorem dss_one (h : DS X W st t) : DSs X W [st] t := ⟨fun F H σ δ D S q pins s I => (pss_one (X := X) cS_ps).run pins s σ H _ I (h.run F H σ δ D S q)⟩
def dBreak : TSD := fun D δ => D.bk δ
def dCont : TSD := fun D δ => D.ct δ
theorem cS_of {t : TS} {D : Ends} {σ : L2.St} {H : Hp} (h : PS X st t) (q : t D σ H) : cS X st D σ H := fun pins s I => h.run pins s σ H D I q
theorem DS.of {ts : TS} (h : PS X st ts) (hh : ∀ (F H : Hp) (σ : L2.St) (δ : Env') (D : EndsD), SD X.K W F H σ δ → t D δ → ts (toE X.K W D) σ H) : DS X W st t :=
  ⟨fun F H σ δ D S q => cS_of h (hh F H σ δ D S q)⟩
theorem ds_pass : DS X W (.Pass pos) dNext := .of ps_pass fun F H σ δ D S q => ⟨F, δ, S, q⟩
theorem ds_break : DS X W (.Break pos) dBreak := .of ps_break fun F H σ δ D S q => ⟨F, δ, S, q⟩
theorem ds_continue : DS X W (.Continue pos) dCont := .of ps_continue fun F H σ δ D S q => ⟨F, δ, S, q⟩
def dDrop (te : TD) : TSD := fun D δ => te δ fun _ δ1 => D.nx δ1
theorem ds_expr (h : DE X W e te) (hs : swapsWith e none pos.line X.env = pure false := by rfl) : DS X W (.Expr e pos) (dDrop te) := .of (ps_expr (X := X) cE_pe hs) fun F H σ δ D S q => by
  refine (h.run F H σ δ _ S q).imp fun v H1 h1 => ?_
  obtain ⟨F1, b, δ1, e1, S1, _, _, q1⟩ := h1
  exact ⟨F1, δ1, S1, q1⟩
def dRet (te : TD) : TSD := fun D δ => te δ D.rt
theorem ds_ret (h : DE X W e te) : DS X W (.Return (some e) pos) (dRet te) := .of (ps_ret (X := X) cE_pe) fun F H σ δ D S q =>
  (h.run F H σ δ _ S q).imp fun v H1 h1 => ⟨F, σ, h1⟩
def dRetN : TSD := fun D δ => D.rt (.p .non) δ
theorem ds_retN : DS X W (.Return none pos) dRetN := .of ps_retN fun F H σ δ D S q => ⟨F, σ, .mk S (by unfold Rp; rfl) q⟩
def dIfS (tc : TDT) (t u : TSD) : TSD := fun D δ => tc δ fun k δ1 => if k = true then t D δ1 else u D δ1
theorem ds_if {a b : List Stmt} (hc : DT X W c tc) (ha : DSs X W a t) (hb : DSs X W b u) : DS X W (.If c a b pos) (dIfS tc t u) := .of (ps_if (X := X) cT_pt cSs_pss cSs_pss) fun F H σ δ D S q => by
  refine (hc.run F H σ δ _ S q).imp fun k H1 h1 => ?_
  obtain ⟨F1, δ1, e1, S1, q1⟩ := h1
  cases k with
  | true =>
    rw [if_pos rfl] at q1 ⊢
    exact ha.run F1 H1 σ δ1 D S1 q1
  | false =>
    rw [if_neg Bool.false_ne_true] at q1 ⊢
    exact hb.run F1 H1 σ δ1 D S1 q1
def dNever : TSD := fun _ _ => False
theorem ds_never : DS X W st dNever := ⟨fun _ _ _ _ _ _ h => h.elim⟩
theorem dss_never : DSs X W rest dNever := ⟨fun _ _ _ _ _ _ h => h.elim⟩
def dSet (i : Nat) (te : TD) : TSD := fun D δ => te δ fun b δ1 => D.nx (δ1.set i (some b))
theorem ds_set {i : Nat} {x : Str} {pos' : Pos} (hN : X.N.Nodup) (hi : X.N[i]? = some x) (hx : Loc X.env.scope x) (h : DE X W e te) (hs : swapsWith e (some (.Name x pos')) pos.line X.env = pure false := by rfl)
    (hf : X.fn x = true ∨ X.env.scope.names.lookup x = some .local := by first | exact .inl rfl | exact .inr rfl | assumption) : DS X W (.Assign [.Name x pos'] e pos) (dSet i te) := .of (ps_set (X := X) hN hi hx cE_pe hs hf) fun F H σ δ D S q => by
  refine (h.run F H σ δ _ S q).imp fun v H1 h1 => ?_
  obtain ⟨F1, b, δ1, e1, S1, r1, s1, q1⟩ := h1
  exact ⟨F1, δ1.set i (some b), S1.put r1 fun hb j c h1 h2 _ => s1 hb j c h1 h2, q1⟩

/-! ### targets -/
abbrev TGD := D → Env' → (Env' → Prop) → Prop
abbrev TGDs := List D → Env' → (Env' → Prop) → Prop
structure DG (X : Cx) (W : Fix) (tg : Expr) (g : TGD) : Prop where
  run : ∀ (F H : Hp) (σ : L2.St) (δ : Env') (d : D) (v : V) (Q : Env' → Prop), SD X.K W F H σ δ → Rp X.K F d v → g d δ Q →
    ∀ (pins : List (Addr × Obj)) (s : Shared) (u : Value), Inv X pins σ H s → RelV v u → wpAny (model X.prog X.w) X.A (assign tg X.env u) (fun _ s' => ∃ σ' H', Inv X pins σ' H' s' ∧ NQ X.K W F Q σ' H') X.xe s
structure DGs (X : Cx) (W : Fix) (tgs : List Expr) (g : TGDs) : Prop where
  run : ∀ (F H : Hp) (σ : L2.St) (δ : Env') (ds : List D) (vs : List V) (Q : Env' → Prop), SD X.K W F H σ δ → RpL X.K F ds vs → g ds δ Q →
    ∀ (pins : List (Addr × Obj)) (s : Shared) (us : List Value), Inv X pins σ H s → Vals vs us →
      wpAny (model X.prog X.w) X.A (assignInOrder ((assignEach tgs X.env).map (·.2)) us) (fun _ s' => ∃ σ' H', Inv X pins σ' H' s' ∧ NQ X.K W F Q σ' H') X.xe s
def cG (X : Cx) (tg : Expr) : TG := fun v σ H Q => ∀ (pins : List (Addr × Obj)) (s : Shared) (u : Value), Inv X pins σ H s → RelV v u → wpAny (model X.prog X.w) X.A (assign tg X.env u) (fun _ s' => ∃ σ' H', Inv X pins σ' H' s' ∧ Q σ' H') X.xe s
def cGs (X : Cx) (tgs : List Expr) : TGs := fun vs σ H Q => ∀ (pins : List (Addr × Obj)) (s : Shared) (us : List Value), Inv X pins σ H s → Vals vs us →
  wpAny (model X.prog X.w) X.A (assignInOrder ((assignEach tgs X.env).map (·.2)) us) (fun _ s' => ∃ σ' H', Inv X pins σ' H' s' ∧ Q σ' H') X.xe s
theorem cG_pg {tg : Expr} : PG X tg (cG X tg) := ⟨fun pins s _ _ _ u _ I r h => h pins s u I r⟩
theorem cGs_pgs {tgs : List Expr} : PGs X tgs (cGs X tgs) := ⟨fun pins s _ _ _ u _ I r h => h pins s u I r⟩
def gN (i : Nat) : TGD := fun d δ Q => Q (δ.set i (some (.p d)))
theorem dg_name {i : Nat} {x : Str} (hN : X.N.Nodup) (hi : X.N[i]? = some x) (hx : Loc X.env.scope x) (hf : X.fn x = true ∨ X.env.scope.names.lookup x = some .local := by first | exact .inl rfl | exact .inr rfl | assumption) : DG X W (.Name x pos) (gN i) :=
  ⟨fun F H σ δ d v Q S r q pins s u I ru => (pg_name (X := X) hN hi hx hf).run pins s σ H v u _ I ru ⟨F, δ.set i (some (.p d)), Same.refl F, S.put (b := .p d) r (fun z => by cases z), q⟩⟩
def gsNil : TGDs := fun ds δ Q => ds = [] ∧ Q δ
def gsCons (g : TGD) (gs : TGDs) : TGDs := fun ds δ Q => ∃ d r, ds = d :: r ∧ g d δ fun δ1 => gs r δ1 Q
theorem dgs_nil : DGs X W [] gsNil := ⟨fun F H σ δ ds vs Q S r q pins s us I ru => by
  obtain ⟨rfl, q⟩ := q
  unfold RpL at r
  exact (pgs_nil (X := X)).run pins s σ H vs us _ I ru ⟨r, F, δ, Same.refl F, S, q⟩⟩
theorem dgs_cons {tg : Expr} {tgs : List Expr} {g : TGD} {gs : TGDs} (h : DG X W tg g) (k : DGs X W tgs gs) (hs : (assignEach (tg :: tgs) X.env).map (·.2) = assign tg X.env :: (assignEach tgs X.env).map (·.2) := by rfl) : DGs X W (tg :: tgs) (gsCons g gs) :=
  ⟨fun F H σ δ ds vs Q S r q pins s us I ru => by
    obtain ⟨d, dr, rfl, q⟩ := q
    unfold RpL at r
    obtain ⟨x, xr, rfl, r1, r2⟩ := r
    refine (pgs_cons (X := X) cG_pg cGs_pgs hs).run pins s σ H _ us _ I ru ⟨x, xr, rfl, fun pins s u I ru => ?_⟩
    refine thn (h.run F H σ δ d x _ S r1 q pins s u I ru) fun _ s' h1 => ?_
    obtain ⟨σ', H', I', F1, δ1, e1, S1, q1⟩ := h1
    exact ⟨σ', H', I', fun pins s us I ru => thn (k.run F1 H' σ' δ1 dr xr Q S1 (RpL.mono e1 _ _ r2) q1 pins s us I ru) fun _ s2 ⟨σ2, H2, I2, h2⟩ => ⟨σ2, H2, I2, h2.back e1⟩⟩⟩
def gT (n : Nat) (gs : TGDs) : TGD := fun d δ Q => ∃ ds, d = .tup ds ∧ ds.length = n ∧ gs ds δ Q
theorem dg_tup {es : List Expr} {k n : Nat} {gs : TGDs} (hc : X.calm = true) (h : DGs X W es gs) (hn : (assignEach es X.env).length = n := by rfl) (hst : (assignEach es X.env).findIdx? (·.1) = none := by rfl) : DG X W (.Tuple es k pos) (gT n gs) :=
  ⟨fun F H σ δ d v Q S r q pins s u I ru => by
    obtain ⟨ds, rfl, hl, q⟩ := q
    unfold Rp at r
    obtain ⟨a, xs, rfl, h1, h2⟩ := r
    refine (pg_tup (X := X) hc cGs_pgs hn hst).run pins s σ H _ u _ I ru ⟨a, xs, rfl, SqT.of (S.fh _ _ h1), by rw [h2.length, hl], ?_⟩
    exact fun pins s us I ru => h.run F H σ δ ds xs Q S h2 q pins s us I ru⟩
/-- target = value; the value is shared -/
def dAsg (te : TD) (g : TGD) : TSD := fun D δ => dp te δ fun d δ1 => g d δ1 D.nx
theorem ds_asg {tg : Expr} {g : TGD} (h : DE X W e te) (hg : DG X W tg g) (hs : swapsWithSole [tg] e pos.line X.env = pure false := by rfl) (hw : swappedStores [tg] e X.env = pure none := by rfl)
    (h1 : (assignEach [tg] X.env).map (·.2) = [assign tg X.env] := by rfl) : DS X W (.Assign [tg] e pos) (dAsg te g) := .of (ps_asg (X := X) cE_pe cG_pg hs hw h1) fun F H σ δ D S q => by
  refine (h.plain S q).imp fun v H1 h1 => ?_
  obtain ⟨F1, d, δ1, e1, S1, r1, q1⟩ := h1
  exact fun pins s u I ru => thn (hg.run F1 H1 σ δ1 d v _ S1 r1 q1 pins s u I ru) fun _ s2 ⟨σ2, H2, I2, F2, δ2, _, S2, q2⟩ => ⟨σ2, H2, I2, F2, δ2, S2, q2⟩
end

/-! ### what a loop walks -/
/-- the iterator yields just these data, one after another, whatever new things come into being -/
def Yields (K : PySem.W.Frag) (F1 : Hp) (J : It) (ds : List D) : Prop :=
  ∀ (W : Fix) (F' H' : Hp) (σ : L2.St) (δ : Env') (i : Nat), SD K W F' H' σ δ → Same F1 F' →
    (∀ d, ds[i]? = some d → J.go i H' ∧ ∀ x H'', J.yld i H' x H'' → ∃ F'', Same F' F'' ∧ SD K W F'' H'' σ δ ∧ Rp K F'' d x ∧ ∀ b o, H' b = some o → H'' b = some o) ∧ (ds[i]? = none → J.stop i H')
abbrev TDI := Env' → (List D → Env' → Prop) → Prop
def cI (X : Cx) (tg iter : Expr) : TI := fun σ H R => ∀ (pins : List (Addr × Obj)) (s : Shared), Inv X pins σ H s →
  wpAny (model X.prog X.w) X.A (eval iter X.env) (fun v s1 => wpAny (model X.prog X.w) X.A (pyIter v) (PIE X pins σ tg R) X.xe s1) X.xe s
theorem cI_pi {X : Cx} {tg iter : Expr} : PI X tg iter (cI X tg iter) := ⟨fun pins s _ _ _ I h => h pins s I⟩
def IQ (K : PySem.W.Frag) (W : Fix) (F : Hp) (σ : L2.St) (Q : List D → Env' → Prop) : It → Hp → Prop := fun J H1 =>
  ∃ (F1 : Hp) (ds : List D) (δ1 : Env'), Same F F1 ∧ SD K W F1 H1 σ δ1 ∧ Yields K F1 J ds ∧ Q ds δ1
structure DI (X : Cx) (W : Fix) (tg iter : Expr) (wi : TDI) : Prop where
  run : ∀ (F H : Hp) (σ : L2.St) (δ : Env') (Q : List D → Env' → Prop), SD X.K W F H σ δ → wi δ Q → cI X tg iter σ H (IQ X.K W F σ Q)
/-- .. where it needs nothing frozen -/
def IQ0 (K : PySem.W.Frag) (W : Fix) (F : Hp) (σ : L2.St) (Q : List D → Env' → Prop) : It → Hp → Prop := fun J H1 =>
  ∃ (F1 : Hp) (ds : List D) (δ1 : Env'), Same F F1 ∧ SD K W F1 H1 σ δ1 ∧ Yields K (fun _ => none) J ds ∧ Q ds δ1
structure DI0 (X : Cx) (W : Fix) (tg iter : Expr) (wi : TDI) : Prop where
  run : ∀ (F H : Hp) (σ : L2.St) (δ : Env') (Q : List D → Env' → Prop), SD X.K W F H σ δ → wi δ Q → cI X tg iter σ H (IQ0 X.K W F σ Q)
theorem DI0.di {X : Cx} {W : Fix} {tg iter : Expr} {wi : TDI} (h : DI0 X W tg iter wi) : DI X W tg iter wi := by
  refine ⟨fun F H σ δ Q S q pins s I => thn (h.run F H σ δ Q S q pins s I) fun v s1 h1 => thn h1 fun itv s2 h2 => ?_⟩
  obtain ⟨it, fp, tn, J, H1, e1, I1, T1, n1, f1, F1, ds, δ1, eF, S1, Y, q1⟩ := h2
  exact ⟨it, fp, tn, J, H1, e1, I1, T1, n1, f1, F1, ds, δ1, eF, S1, fun W' F' H' σ' δ' i S' _ => Y W' F' H' σ' δ' i S' (fun _ _ z => by cases z), q1⟩
theorem PI.or {X : Cx} {tg iter : Expr} {w1 w2 : TI} (h1 : PI X tg iter w1) (h2 : PI X tg iter w2) : PI X tg iter (fun σ H R => w1 σ H R ∨ w2 σ H R) :=
  ⟨fun pins s σ H R I h => h.elim (h1.run pins s σ H R I) (h2.run pins s σ H R I)⟩
def signs (x : Str) : List D := x.cps.toList.map fun c => .str ⟨#[c]⟩
/-- what data are walked as -/
def walked : D → Option (List D)
  | .lst ds => some ds
  | .tup ds => some ds
  | .str x => some (signs x)
  | _ => none
def iAny (te : TD) : TDI := fun δ Q => dp te δ fun d δ1 => ∃ ds, walked d = some ds ∧ Q ds δ1
theorem yields_lst {K : PySem.W.Frag} {F : Hp} {a : Addr} {xs : List V} {ds : List D} (h : F a = some (.lst xs)) (r : RpL K F ds xs) : Yields K F (Itl K a) ds := by
  intro W F' H' σ δ i S e
  have h1 : SqL K H' a xs := SqL.of (S.fh _ _ (e _ _ h))
  refine ⟨fun d hd => ?_, fun hn => ?_⟩
  · obtain ⟨x, hx, rx⟩ := r.get hd
    refine ⟨⟨xs, x, h1, hx⟩, fun y H'' hy => ?_⟩
    obtain ⟨rfl, hy⟩ := hy
    have := hy xs h1
    rw [hx] at this
    cases this
    exact ⟨F', Same.refl F', S, Rp.mono e d x rx, fun _ _ h => h⟩
  · refine ⟨xs, h1, ?_⟩
    rw [r.length]
    exact List.getElem?_eq_none_iff.mp hn
theorem yields_tup {K : PySem.W.Frag} {F : Hp} {a : Addr} {xs : List V} {ds : List D} (h : SqT K F a xs) (r : RpL K F ds xs) : Yields K F (Itt K a) ds := by
  intro W F' H' σ δ i S e
  have h1 : SqT K H' a xs := sqT_mono (e.trans S.fh) h
  refine ⟨fun d hd => ?_, fun hn => ?_⟩
  · obtain ⟨x, hx, rx⟩ := r.get hd
    refine ⟨⟨xs, x, h1, hx⟩, fun y H'' hy => ?_⟩
    obtain ⟨rfl, hy⟩ := hy
    have := hy xs h1
    rw [hx] at this
    cases this
    exact ⟨F', Same.refl F', S, Rp.mono e d x rx, fun _ _ h => h⟩
  · refine ⟨xs, h1, ?_⟩
    rw [r.length]
    exact List.getElem?_eq_none_iff.mp hn
theorem yields_str {K : PySem.W.Frag} {F : Hp} {x : Str} : Yields K F (Its x) (signs x) := by
  intro W F' H' σ δ i S e
  refine ⟨fun d hd => ?_, fun hn => ?_⟩
  · unfold signs at hd
    rw [List.getElem?_map] at hd
    cases hc : x.cps.toList[i]? with
    | none =>
      rw [hc] at hd
      cases hd
    | some c =>
      rw [hc] at hd
      cases hd
      have hi : i < x.cps.size := by
        have := (List.getElem?_eq_some_iff.mp hc).1
        rw [Array.length_toList] at this
        exact this
      refine ⟨hi, fun y H'' hy => ?_⟩
      obtain ⟨rfl, c', hc', rfl⟩ := hy
      rw [← Array.getElem?_toList, hc] at hc'
      cases hc'
      exact ⟨F', Same.refl F', S, by unfold Rp; rfl, fun _ _ h => h⟩
  · unfold signs at hn
    have := List.getElem?_eq_none_iff.mp hn
    rw [List.length_map, Array.length_toList] at this
    exact this
/-- a fresh iterator is one's own -/
theorem fpNew {X : Cx} {pins : List (Addr × Obj)} {σ : L2.St} {H : Hp} {s : Shared} (I : Inv X pins σ H s) : ∀ b ∈ [s.heap.objs.size], FpOk X pins H b := fun b hb => by
  have e : b = s.heap.objs.size := by simpa using hb
  rw [e]
  exact I.fpOk (Nat.le_refl _) (I.hok.fresh (Nat.le_refl _))
theorem di_any {X : Cx} {W : Fix} {tg iter : Expr} {te : TD} (h : DE X W iter te) : DI X W tg iter (iAny te) := by
  refine ⟨fun F H σ δ Q S q pins s I => ?_⟩
  refine thn (h.plain S q pins s I) fun v s1 h1 => ?_
  obtain ⟨x, H1, I1, r1, F1, d, δ1, e1, S1, rp, ds, hw, q1⟩ := h1
  cases d <;> first | (cases hw; done) | skip
  all_goals cases hw
  · rename_i z
    unfold Rp at rp
    subst rp
    obtain ⟨t, rfl⟩ := r1
    have fin : IQ X.K W F σ Q (Its z) H1 := ⟨F1, _, δ1, e1, S1, yields_str, q1⟩
    by_cases ha : z.cps.all (· < 128) = true
    · exact wpAny_pyIter_ascii ha (pi_one (tk := s1.toks) I1 _ (turn_str _ z t "str_ascii_iterator" (.inl rfl)) ⟨_, Heap.get?_push_size _ rfl, rfl, rfl⟩ fin)
    · exact wpAny_pyIter_wide (Bool.eq_false_iff.mpr ha) (pi_one (tk := s1.toks) I1 _ (turn_str _ z t "str_iterator" (.inr rfl)) ⟨_, Heap.get?_push_size _ rfl, rfl, rfl⟩ fin)
  · unfold Rp at rp
    obtain ⟨a, xs, rfl, h2, h3⟩ := rp
    cases r1
    obtain ⟨its, rv, p, hz⟩ := I1.list (SqL.of (S1.fh _ _ h2))
    refine wpAny_pyIter_list p.isList ?_
    exact ⟨s1.heap.objs.size, [s1.heap.objs.size], _, _, H1, rfl, I1.kept (t' := s1.toks) (fun b o e => Heap.get?_push_of_some _ e), turn_list a _,
      ⟨_, Heap.get?_push_size _ rfl, rfl, rfl⟩, fpNew I1, F1, _, δ1, e1, S1, yields_lst h2 h3, q1⟩
  · unfold Rp at rp
    obtain ⟨a, xs, rfl, h2, h3⟩ := rp
    cases r1
    obtain ⟨its, rv, p, hz⟩ := I1.tuple (SqT.of (S1.fh _ _ h2))
    refine wpAny_pyIter_tuple (show s1.heap.IsTuple a its.toArray from p) ?_
    exact ⟨s1.heap.objs.size, [s1.heap.objs.size], _, _, H1, rfl, I1.kept (t' := s1.toks) (fun b o e => Heap.get?_push_of_some _ e), turn_tuple a _,
      ⟨_, Heap.get?_push_size _ rfl, rfl, rfl⟩, fpNew I1, F1, _, δ1, e1, S1, yields_tup (SqT.of h2) h3, q1⟩
/-- range(n) -/
def upto (lo : Int) (n : Nat) : List D := (List.range n).map fun i => .int (lo + (i : Nat))
theorem yields_rng {K : PySem.W.Frag} {F : Hp} {lo : Int} {n : Nat} : Yields K F (Itr lo n) (upto lo n) := by
  intro W F' H' σ δ i S e
  refine ⟨fun d hd => ?_, fun hn => ?_⟩
  · unfold upto at hd
    rw [List.getElem?_map] at hd
    by_cases hi : i < n
    · rw [List.getElem?_range hi] at hd
      cases hd
      refine ⟨hi, fun y H'' hy => ?_⟩
      obtain ⟨rfl, rfl⟩ := hy
      exact ⟨F', Same.refl F', S, by unfold Rp; rfl, fun _ _ h => h⟩
    · rw [List.getElem?_eq_none (by rw [List.length_range]; omega)] at hd
      cases hd
  · unfold upto at hn
    have := List.getElem?_eq_none_iff.mp hn
    rw [List.length_map, List.length_range] at this
    exact this
def iR1 (t : TDA) : TDI := fun δ Q => t δ fun ds δ1 => ∃ j : Int, ds = [.int j] ∧ -(2 ^ 62) ≤ j ∧ j < 2 ^ 62 ∧ Q (upto 0 j.toNat) δ1
def iR2 (t : TDA) : TDI := fun δ Q => t δ fun ds δ1 => ∃ i j : Int, ds = [.int i, .int j] ∧ (-(2 ^ 62) ≤ i ∧ i < 2 ^ 62 ∧ -(2 ^ 62) ≤ j ∧ j < 2 ^ 62) ∧ Q (upto i (j - i).toNat) δ1
theorem rpInt {K : PySem.W.Frag} {F : Hp} {i : Int} {v : V} (h : Rp K F (.int i) v) : v = .int i := by
  unfold Rp at h
  exact h
theorem rpL1 {K : PySem.W.Frag} {F : Hp} {d : D} {vs : List V} (h : RpL K F [d] vs) : ∃ v, vs = [v] ∧ Rp K F d v := by
  unfold RpL at h
  obtain ⟨x, r, rfl, h1, h2⟩ := h
  unfold RpL at h2
  rw [h2]
  exact ⟨x, rfl, h1⟩
theorem rpL2 {K : PySem.W.Frag} {F : Hp} {d e : D} {vs : List V} (h : RpL K F [d, e] vs) : ∃ v u, vs = [v, u] ∧ Rp K F d v ∧ Rp K F e u := by
  unfold RpL at h
  obtain ⟨x, r, rfl, h1, h2⟩ := h
  obtain ⟨u, rfl, h3⟩ := rpL1 h2
  exact ⟨x, u, rfl, h1, h3⟩
theorem di_range1 {X : Cx} {W : Fix} {tg a : Expr} {t : TDA} {p pos : Pos} (hg : Gl X "range") (hm : X.mg "range" = none) (h : DA X W [a] t) (hs : starEach [a] X.env = [(false, eval a X.env)] := by rfl) : DI0 X W tg (.Call (.Name "range" p) [a] [] pos) (iR1 t) := by
  refine ⟨fun F H σ δ Q S q pins s I => (pi_range1 (X := X) (ta := cA X [a]) hg hm cA_pa hs).run pins s σ H _ I ?_⟩
  refine (h.run F H σ δ _ S q).imp fun vs H1 h1 => ?_
  obtain ⟨F1, ds, δ1, e1, S1, r1, j, rfl, h2, h3, q1⟩ := h1
  obtain ⟨v, rfl, rv⟩ := rpL1 r1
  exact ⟨j, by rw [rpInt rv], h2, h3, F1, _, δ1, e1, S1, yields_rng, q1⟩
theorem di_range2 {X : Cx} {W : Fix} {tg a b : Expr} {t : TDA} {p pos : Pos} (hg : Gl X "range") (hm : X.mg "range" = none) (h : DA X W [a, b] t) (hs : starEach [a, b] X.env = [(false, eval a X.env), (false, eval b X.env)] := by rfl) (hs2 : starEach [b] X.env = [(false, eval b X.env)] := by rfl) :
    DI0 X W tg (.Call (.Name "range" p) [a, b] [] pos) (iR2 t) := by
  refine ⟨fun F H σ δ Q S q pins s I => (pi_range2 (X := X) (ta := cA X [a, b]) hg hm cA_pa hs hs2).run pins s σ H _ I ?_⟩
  refine (h.run F H σ δ _ S q).imp fun vs H1 h1 => ?_
  obtain ⟨F1, ds, δ1, e1, S1, r1, i, j, rfl, h2, q1⟩ := h1
  obtain ⟨v, u, rfl, rv, ru⟩ := rpL2 r1
  exact ⟨i, j, by rw [rpInt rv, rpInt ru], h2, F1, _, δ1, e1, S1, yields_rng, q1⟩

/-! ### another ground for the same state -/
section
variable {K : PySem.W.Frag} {W : Fix} {F F' H H' : Hp} {σ σ' : L2.St} {δ δ' : Env'}
theorem RB.re {W' : Fix} {b : B} {v : V} (h : RB K W F H b v) (e1 : W'.H0 = W.H0) (e2 : W'.P = W.P) : RB K W' F H b v := by
  cases b with
  | p d => exact h
  | n ds =>
    obtain ⟨t, xs, h1, h2, h3, h4⟩ := h
    exact ⟨t, xs, h1, h2, h3, fun a ha => ⟨(h4 a ha).1, by rw [e1]; exact (h4 a ha).2⟩⟩
  | o d =>
    obtain ⟨a, h1, h2, h3, h4⟩ := h
    exact ⟨a, h1, h2, by rw [e1]; exact h3, h4⟩
  | u w n =>
    obtain ⟨p, x, y, z, h1, h2, h3, h4⟩ := h
    refine ⟨p, x, y, z, h1, h2, ?_, h4⟩
    rw [e1, e2]
    exact h3
  | s d =>
    obtain ⟨a, h1, h2, h3, h4⟩ := h
    exact ⟨a, h1, h2, by rw [e2]; exact h3, h4⟩
def Fix.at (W : Fix) (F : Hp) (E : Addr → List D → Env' → Prop) : Fix := { F0 := F, H0 := W.H0, P := W.P, E := E }
theorem SD.into (S : SD K W F H σ δ) (E : Addr → List D → Env' → Prop) : SD K (W.at F E) F H σ δ where
  f0 := Same.refl F
  h0 := S.h0
  fh := S.fh
  fr := fun _ _ h => .inl h
  fp := S.fp
  len := S.len
  get := fun i b h => by
    obtain ⟨v, h1, h2⟩ := S.get i b h
    exact ⟨v, h1, h2.re rfl rfl⟩
  sep := S.sep
theorem SD.outof {E : Addr → List D → Env' → Prop} (S : SD K W F H σ δ) (T : SD K (W.at F E) F' H' σ' δ') : SD K W F' H' σ' δ' where
  f0 := S.f0.trans T.f0
  h0 := T.h0
  fh := T.fh
  fr := fun a o h => by
    rcases T.fr a o h with z | z
    · exact S.fr a o z
    · exact .inr z
  fp := T.fp
  len := T.len
  get := fun i b h => by
    obtain ⟨v, h1, h2⟩ := T.get i b h
    exact ⟨v, h1, h2.re rfl rfl⟩
  sep := T.sep
theorem MQ.outof {E : Addr → List D → Env' → Prop} {N : Env' → Prop} (S : SD K W F H σ δ) (h : MQ K (W.at F E) N σ' H') : MQ K W N σ' H' := by
  obtain ⟨F', δ', T, q⟩ := h
  exact ⟨F', δ', S.outof T, q⟩
theorem UQ.outof {E : Addr → List D → Env' → Prop} {R : B → Env' → Prop} {v : V} (S : SD K W F H σ δ) (h : UQ K (W.at F E) R v H') : UQ K W R v H' := by
  obtain ⟨F0, σ', F', b, δ', e, T, r, sp, q⟩ := h
  exact ⟨F0, σ', F', b, δ', e, S.outof T, r.re rfl rfl, sp, q⟩
end

/-- an exception's class and what it holds -/
def ExcRep (K : PySem.W.Frag) (F : Hp) (C : Addr) (ds : List D) (cls : Value) (d : Option Addr) : Prop :=
  cls = .ref C ∧ ((ds = [] ∧ d = none) ∨ ∃ dd x dv, ds = [dv] ∧ d = some dd ∧ F dd = some (.xd [("value", x)]) ∧ Rp K F dv x)
theorem ExcRep.mono {K : PySem.W.Frag} {F F' : Hp} {C : Addr} {ds : List D} {cls : Value} {d : Option Addr} (e : Same F F') (h : ExcRep K F C ds cls d) : ExcRep K F' C ds cls d := by
  obtain ⟨h1, h⟩ := h
  refine ⟨h1, ?_⟩
  rcases h with h | ⟨dd, x, dv, h2, h3, h4, h5⟩
  · exact .inl h
  · exact .inr ⟨dd, x, dv, h2, h3, e _ _ h4, Rp.mono e _ _ h5⟩
def WXd (K : PySem.W.Frag) (W : Fix) : WX := fun cls d σ H => ∃ (F : Hp) (δ : Env') (C : Addr) (ds : List D), SD K W F H σ δ ∧ ExcRep K F C ds cls d ∧ W.E C ds δ

/-- what is wished of an exception, and that it is kept -/
structure TkE (X : Cx) (W : Fix) (E : Addr → List D → Env' → Prop) : Prop where
  eq : W.E = E
  tk : Takes X (WXd X.K W)
theorem TkE.at {X : Cx} {W : Fix} {E : Addr → List D → Env' → Prop} {F H : Hp} {σ : L2.St} {δ : Env'} (h : TkE X W E) (S : SD X.K W F H σ δ) : TkE X (W.at F W.E) E :=
  ⟨h.eq, h.tk.imp fun _ _ _ _ z => by
    obtain ⟨F', δ', C, ds, T, er, q⟩ := z
    exact ⟨F', δ', C, ds, S.outof T, er, q⟩⟩

/-! ### for, while -/
section
variable {X : Cx} {W : Fix} {E0 : Addr → List D → Env' → Prop} {tg iter c : Expr} {body : List Stmt} {wi : TDI} {g : TGD} {tb : TSD} {tc : TDT} {pos : Pos}
def forL (g : TGD) (tb : TSD) (Z : EndsD) : List D → Env' → Prop
  | [], δ => Z.nx δ
  | d :: ds, δ => g d δ fun δ1 => tb { Z with nx := forL g tb Z ds, ct := forL g tb Z ds, bk := Z.nx } δ1
def dFor (wi : TDI) (g : TGD) (tb : TSD) : TSD := fun Z δ => wi δ fun ds δ1 => forL g tb Z ds δ1
theorem ds_for (te : TkE X W E0) (hp : PassesOwn (model X.prog X.w) X.A X.env X.xe) (hc : X.calm = true) (hi : DI X W tg iter wi) (hg : ∀ W', DG X W' tg g) (hb : ∀ W', TkE X W' E0 → DSs X W' body tb)
    (hs : ∀ x, foldedSetIterable iter X.env x = pure x := by intro _; rfl) : DS X W (.For tg iter body [] pos) (dFor wi g tb) := by
  refine .of (ps_for (X := X) hp hc cI_pi cG_pg cSs_pss hs) fun F H σ δ D S q pins s I => ?_
  refine thn (hi.run F H σ δ _ S q pins s I) fun v s1 h1 => thn h1 fun itv s2 h2 => ?_
  obtain ⟨it, fp, tn, J, H1, e1, I1, T1, n1, f1, F1, ds, δ1, eF, S1, Y, q1⟩ := h2
  have te1 := te.at S1
  have St := S1.into W.E
  generalize hW : W.at F1 W.E = W1 at te1 St
  have hF : W1.F0 = F1 := by rw [← hW] <;> rfl
  have out : ∀ {F2 H2 : Hp} {σ2 : L2.St} {δ2 : Env'}, SD X.K W1 F2 H2 σ2 δ2 → SD X.K W F2 H2 σ2 δ2 := fun {F2 H2 σ2 δ2} T => S1.outof (E := W.E) (by rw [hW]; exact T)
  refine ⟨it, fp, tn, J, H1, e1, I1, T1, n1, f1, ?_⟩
  refine ⟨fun i m σ' H' => m = ds.length - i ∧ i ≤ ds.length ∧ ∃ F' δ', SD X.K W1 F' H' σ' δ' ∧ forL g tb D (ds.drop i) δ', ⟨_, rfl, Nat.zero_le _, F1, δ1, St, q1⟩, ?_⟩
  rintro i m σ' H' ⟨rfl, hi, F', δ', S', q'⟩
  have e' : Same F1 F' := by
    have := S'.f0
    rw [hF] at this
    exact this
  obtain ⟨y1, y2⟩ := Y W1 F' H' σ' δ' i S' e'
  by_cases hl : i < ds.length
  · have hd : ds[i]? = some ds[i] := List.getElem?_eq_getElem hl
    rw [List.drop_eq_getElem_cons hl] at q'
    obtain ⟨hgo, hy⟩ := y1 _ hd
    refine .inr ⟨hgo, MQ X.K W1 (forL g tb D (ds.drop (i + 1))), fun σ2 H2 h2 => ?_, fun x H2 hyl => ?_⟩
    · obtain ⟨F2, δ2, S2, q2⟩ := h2
      exact ⟨ds.length - (i + 1), by omega, rfl, hl, F2, δ2, S2, q2⟩
    · obtain ⟨F2, e2, S2, rx, _⟩ := hy x H2 hyl
      intro pins s u I ru
      refine thn ((hg W1).run F2 H2 σ' δ' _ x _ S2 rx q' pins s u I ru) fun _ s' h3 => ?_
      obtain ⟨σ3, H3, I3, F3, δ3, e3, S3, q3⟩ := h3
      refine ⟨σ3, H3, I3, ((hb W1 te1).run F3 H3 σ3 δ3 _ S3 q3).imp (fun _ _ h => h) (fun _ _ h => ?_) (fun _ _ h => ?_) fun _ _ h => h⟩
      · exact UQ.outof (E := W.E) S1 (by rw [hW]; exact h)
      · exact MQ.outof (E := W.E) S1 (by rw [hW]; exact h)
  · have e0 : i = ds.length := by omega
    subst e0
    rw [List.drop_length] at q'
    exact .inl ⟨y2 (List.getElem?_eq_none (Nat.le_refl _)), F', δ', out S', q'⟩
/-- for over a range: nothing frozen need stay -/
theorem ds_forR (hp : PassesOwn (model X.prog X.w) X.A X.env X.xe) (hc : X.calm = true) (hi : DI0 X W tg iter wi) (hg : DG X W tg g) (hb : DSs X W body tb)
    (hs : ∀ x, foldedSetIterable iter X.env x = pure x := by intro _; rfl) : DS X W (.For tg iter body [] pos) (dFor wi g tb) := by
  refine .of (ps_for (X := X) hp hc cI_pi cG_pg cSs_pss hs) fun F H σ δ D S q pins s I => ?_
  refine thn (hi.run F H σ δ _ S q pins s I) fun v s1 h1 => thn h1 fun itv s2 h2 => ?_
  obtain ⟨it, fp, tn, J, H1, e1, I1, T1, n1, f1, F1, ds, δ1, eF, S1, Y, q1⟩ := h2
  refine ⟨it, fp, tn, J, H1, e1, I1, T1, n1, f1, ?_⟩
  refine ⟨fun i m σ' H' => m = ds.length - i ∧ i ≤ ds.length ∧ ∃ F' δ', SD X.K W F' H' σ' δ' ∧ forL g tb D (ds.drop i) δ', ⟨_, rfl, Nat.zero_le _, F1, δ1, S1, q1⟩, ?_⟩
  rintro i m σ' H' ⟨rfl, hi, F', δ', S', q'⟩
  obtain ⟨y1, y2⟩ := Y W F' H' σ' δ' i S' (fun _ _ z => by cases z)
  by_cases hl : i < ds.length
  · have hd : ds[i]? = some ds[i] := List.getElem?_eq_getElem hl
    rw [List.drop_eq_getElem_cons hl] at q'
    obtain ⟨hgo, hy⟩ := y1 _ hd
    refine .inr ⟨hgo, MQ X.K W (forL g tb D (ds.drop (i + 1))), fun σ2 H2 h2 => ?_, fun x H2 hyl => ?_⟩
    · obtain ⟨F2, δ2, S2, q2⟩ := h2
      exact ⟨ds.length - (i + 1), by omega, rfl, hl, F2, δ2, S2, q2⟩
    · obtain ⟨F2, e2, S2, rx, _⟩ := hy x H2 hyl
      intro pins s u I ru
      refine thn (hg.run F2 H2 σ' δ' _ x _ S2 rx q' pins s u I ru) fun _ s' h3 => ?_
      obtain ⟨σ3, H3, I3, F3, δ3, e3, S3, q3⟩ := h3
      exact ⟨σ3, H3, I3, hb.run F3 H3 σ3 δ3 _ S3 q3⟩
  · have e0 : i = ds.length := by omega
    subst e0
    rw [List.drop_length] at q'
    exact .inl ⟨y2 (List.getElem?_eq_none (Nat.le_refl _)), F', δ', S', q'⟩
def whileN (tc : TDT) (tb : TSD) (Z : EndsD) : Nat → Env' → Prop
  | 0, _ => False
  | n + 1, δ => tc δ fun k δ1 => if k = true then tb { Z with nx := whileN tc tb Z n, ct := whileN tc tb Z n, bk := Z.nx } δ1 else Z.nx δ1
def dWhile (tc : TDT) (tb : TSD) : TSD := fun Z δ => ∃ n, whileN tc tb Z n δ
theorem ds_while (hp : PassesOwn (model X.prog X.w) X.A X.env X.xe) (hc : DT X W c tc) (hb : DSs X W body tb) : DS X W (.While c body [] pos) (dWhile tc tb) := by
  refine .of (ps_while (X := X) hp cT_pt cSs_pss) fun F H σ δ D S q => ?_
  obtain ⟨n, q⟩ := q
  refine ⟨fun m σ' H' => ∃ F' δ', SD X.K W F' H' σ' δ' ∧ whileN tc tb D m δ', ⟨n, F, δ, S, q⟩, ?_⟩
  rintro m σ' H' ⟨F', δ', S', q'⟩
  cases m with
  | zero => exact q'.elim
  | succ m =>
    refine (hc.run F' H' σ' δ' _ S' q').imp fun k H1 h1 => ?_
    obtain ⟨F1, δ1, e1, S1, q1⟩ := h1
    cases k with
    | true =>
      rw [if_pos rfl] at q1 ⊢
      refine ⟨MQ X.K W (whileN tc tb D m), fun σ2 H2 h2 => ?_, ?_⟩
      · obtain ⟨F2, δ2, S2, q2⟩ := h2
        exact ⟨m, Nat.lt_succ_self m, F2, δ2, S2, q2⟩
      · exact hb.run F1 H1 σ' δ1 _ S1 q1
    | false =>
      rw [if_neg Bool.false_ne_true] at q1 ⊢
      exact ⟨F1, δ1, S1, q1⟩
end
end DD

set_option Elab.async false
set_option linter.all false
set_option maxRecDepth 100000
set_option maxHeartbeats 4000000
/-! DD4: list comprehensions over data. -/
namespace DD
open PySem PySem.Spec PyProof.Rows L2

def wipeE (δ : Env') : List Nat → Env'
  | [] => δ
  | v :: vs => (wipeE δ vs).set v none
theorem wipeE_length (δ : Env') : ∀ vs : List Nat, (wipeE δ vs).length = δ.length
  | [] => rfl
  | v :: vs => by
    unfold wipeE
    rw [List.length_set, wipeE_length δ vs]
theorem wipeE_some {δ : Env'} {i : Nat} {b : B} : ∀ {vs : List Nat}, (wipeE δ vs)[i]? = some (some b) → δ[i]? = some (some b) ∧ i ∉ vs
  | [], h => ⟨h, by simp⟩
  | v :: vs, h => by
    unfold wipeE at h
    by_cases hi : v = i
    · subst hi
      by_cases hv : v < (wipeE δ vs).length
      · rw [List.getElem?_set_self hv] at h
        cases h
      · rw [List.getElem?_eq_none (by simpa using hv)] at h
        cases h
    · rw [List.getElem?_set_ne hi] at h
      obtain ⟨h1, h2⟩ := wipeE_some h
      refine ⟨h1, fun z => ?_⟩
      rcases List.mem_cons.mp z with z | z
      · exact hi z.symm
      · exact h2 z
theorem wipe_off {σ : L2.St} {i : Nat} : ∀ {vs : List Nat}, i ∉ vs → (wipe σ vs)[i]? = σ[i]?
  | [], _ => rfl
  | v :: vs, h => by
    unfold wipe
    have h1 : v ≠ i := fun z => h (by rw [z]; exact List.mem_cons_self)
    rw [List.getElem?_set_ne h1]
    exact wipe_off fun z => h (List.mem_cons_of_mem _ z)
theorem wipe_set {x : V} {i : Nat} : ∀ {vs : List Nat} {σ : L2.St}, i ∈ vs → wipe (σ.set i (some x)) vs = wipe σ vs
  | v :: vs, σ, h => by
    unfold wipe
    by_cases e : i ∈ vs
    · rw [wipe_set e]
    · rcases List.mem_cons.mp h with rfl | h
      · apply List.ext_getElem?
        intro j
        by_cases ej : j = i
        · subst ej
          by_cases hl : j < σ.length
          · rw [List.getElem?_set_self (by rw [wipe_length, List.length_set]; exact hl), List.getElem?_set_self (by rw [wipe_length]; exact hl)]
          · rw [List.getElem?_eq_none (by rw [List.length_set, wipe_length, List.length_set]; omega), List.getElem?_eq_none (by rw [List.length_set, wipe_length]; omega)]
        · rw [List.getElem?_set_ne (Ne.symm ej), List.getElem?_set_ne (Ne.symm ej)]
          by_cases em : j ∈ vs
          · -- both none or out of range
            have aux : ∀ τ : L2.St, τ.length = σ.length → (wipe τ vs)[j]? = (wipe σ vs)[j]? := fun τ ht => by
              have n1 : ∀ (ρ : L2.St) (x : V), (wipe ρ vs)[j]? ≠ some (some x) := fun ρ x z => (wipe_some z).2 em
              by_cases hl : j < σ.length
              · have h1 : j < (wipe τ vs).length := by rw [wipe_length, ht]; exact hl
                have h2 : j < (wipe σ vs).length := by rw [wipe_length]; exact hl
                rw [List.getElem?_eq_getElem h1, List.getElem?_eq_getElem h2]
                cases q1 : (wipe τ vs)[j] with
                | some x => exact absurd (by rw [List.getElem?_eq_getElem h1, q1]) (n1 τ x)
                | none =>
                  cases q2 : (wipe σ vs)[j] with
                  | some x => exact absurd (by rw [List.getElem?_eq_getElem h2, q2]) (n1 σ x)
                  | none => rfl
              · rw [List.getElem?_eq_none (by rw [wipe_length, ht]; omega), List.getElem?_eq_none (by rw [wipe_length]; omega)]
            exact aux _ (List.length_set)
          · rw [wipe_off em, wipe_off em, List.getElem?_set_ne (Ne.symm ej)]
      · exact absurd h e
section
variable {K : PySem.W.Frag} {W : Fix} {F H : Hp} {σ τ : L2.St} {δ : Env'} {vs : List Nat}
/-- the slots may be others where nothing is told of them -/
theorem SD.slots (S : SD K W F H σ δ) (hl : τ.length = σ.length) (h : ∀ (i : Nat) (b : B), δ[i]? = some (some b) → τ[i]? = σ[i]?) : SD K W F H τ δ where
  f0 := S.f0
  h0 := S.h0
  fh := S.fh
  fr := S.fr
  fp := S.fp
  len := by rw [hl, S.len]
  get := fun i b e => by
    rw [h i b e]
    exact S.get i b e
  sep := fun i j b c v ne h1 h2 h3 h4 h5 => by
    rw [h i b h1] at h5
    rw [h j c h3]
    exact S.sep i j b c v ne h1 h2 h3 h4 h5
theorem SD.wipeE (S : SD K W F H σ δ) : ∀ vs : List Nat, SD K W F H σ (wipeE δ vs)
  | [] => S
  | v :: vs => by
    unfold DD.wipeE
    exact (SD.wipeE S vs).drop
theorem SD.wiped (S : SD K W F H σ δ) : SD K W F H (wipe σ vs) (DD.wipeE δ vs) :=
  (S.wipeE vs).slots (wipe_length σ vs) fun i b e => wipe_off (wipeE_some e).2
/-- the ground with one more object that must stay -/
def Fix.hold (W : Fix) (a : Addr) (o : HO) : Fix := { W with H0 := upd W.H0 a o }
theorem SD.held {a : Addr} {o : HO} (S : SD K W F H σ δ) (ha : H a = some o) (h0 : W.H0 a = none) (hF : F a = none) (hP : W.P ≠ some a) (hn : ∀ (j : Nat) (c : B), δ[j]? = some (some c) → c.own = true → σ[j]? ≠ some (some (.ref a))) : SD K (W.hold a o) F H σ δ where
  f0 := S.f0
  h0 := fun b u e n => by
    by_cases q : b = a
    · subst q
      have e : upd W.H0 b o b = some u := e
      rw [upd_same] at e
      cases e
      exact ha
    · have e : upd W.H0 a o b = some u := e
      rw [upd_ne q] at e
      exact S.h0 b u e n
  fh := S.fh
  fr := fun b u e => by
    rcases S.fr b u e with h | h
    · exact .inl h
    · refine .inr ?_
      have q : b ≠ a := fun z => by
        rw [z, hF] at e
        cases e
      show upd W.H0 a o b = none
      rw [upd_ne q]
      exact h
  fp := fun b h => by
    obtain ⟨h1, h2, u, h3⟩ := S.fp b h
    refine ⟨h1, h2, u, ?_⟩
    have q : b ≠ a := fun z => by
      rw [z, h0] at h3
      cases h3
    show upd W.H0 a o b = some u
    rw [upd_ne q]
    exact h3
  len := S.len
  get := fun i b e => by
    obtain ⟨v, h1, h2⟩ := S.get i b e
    refine ⟨v, h1, ?_⟩
    cases b with
    | p d => exact h2
    | n ds =>
      obtain ⟨t, xs, rfl, h3, h4, h5⟩ := h2
      refine ⟨t, xs, rfl, h3, h4, fun c hc => ?_⟩
      obtain ⟨⟨ys, h6⟩, h7⟩ := h5 c hc
      have q : c ≠ a := fun z => by
        rw [z, hF] at h6
        cases h6
      exact ⟨⟨ys, h6⟩, by show upd W.H0 a o c = none; rw [upd_ne q]; exact h7⟩
    | o d =>
      obtain ⟨c, rfl, h3, h4, h5⟩ := h2
      have q : c ≠ a := fun z => hn i _ e rfl (by rw [h1, z])
      exact ⟨c, rfl, h3, by show upd W.H0 a o c = none; rw [upd_ne q]; exact h4, h5⟩
    | u w n =>
      obtain ⟨c, x, y, z, rfl, h3, h4, h5⟩ := h2
      have q : c ≠ a := fun z => hn i _ e rfl (by rw [h1, z])
      exact ⟨c, x, y, z, rfl, h3, by show if w = true then _ else upd W.H0 a o c = none; rw [upd_ne q]; exact h4, h5⟩
    | s d => exact h2
  sep := S.sep
theorem SD.unheld {a : Addr} {o : HO} (S : SD K (W.hold a o) F H σ δ) (h0 : W.H0 a = none) (hF : W.F0 a = none) (hP : W.P ≠ some a) :
    SD K W F H σ δ ∧ H a = some o ∧ F a = none ∧ ∀ (j : Nat) (c : B), δ[j]? = some (some c) → c.own = true → σ[j]? ≠ some (some (.ref a)) := by
  have e0 : (W.hold a o).H0 a = some o := upd_same
  have ge : ∀ b, b ≠ a → (W.hold a o).H0 b = W.H0 b := fun b q => upd_ne q
  have back : ∀ b, (W.hold a o).H0 b = none → b ≠ a ∧ W.H0 b = none := fun b h => by
    have q : b ≠ a := fun z => by
      rw [z, e0] at h
      cases h
    rw [ge b q] at h
    exact ⟨q, h⟩
  have hFa : F a = none := by
    cases q : F a with
    | none => rfl
    | some u =>
      rcases S.fr a u q with h | h
      · have h : W.F0 a = some u := h
        rw [hF] at h
        cases h
      · exact absurd rfl (back a h).1
  refine ⟨⟨S.f0, fun b u e n => ?_, S.fh, fun b u e => ?_, fun b h => ?_, S.len, fun i b e => ?_, S.sep⟩, S.h0 a o e0 hP, hFa, fun j c e1 e2 e3 => ?_⟩
  · have q : b ≠ a := fun z => by
      rw [z, h0] at e
      cases e
    exact S.h0 b u (by rw [ge b q]; exact e) n
  · rcases S.fr b u e with h | h
    · exact .inl h
    · exact .inr (back b h).2
  · obtain ⟨h1, h2, u, h3⟩ := S.fp b h
    have q : b ≠ a := fun z => by
      subst z
      exact hP h
    rw [ge b q] at h3
    exact ⟨h1, h2, u, h3⟩
  · obtain ⟨v, h1, h2⟩ := S.get i b e
    refine ⟨v, h1, ?_⟩
    cases b with
    | p d => exact h2
    | n ds =>
      obtain ⟨t, xs, rfl, h3, h4, h5⟩ := h2
      exact ⟨t, xs, rfl, h3, h4, fun c hc => ⟨(h5 c hc).1, (back c (h5 c hc).2).2⟩⟩
    | o d =>
      obtain ⟨c, rfl, h3, h4, h5⟩ := h2
      exact ⟨c, rfl, h3, (back c h4).2, h5⟩
    | u w n =>
      obtain ⟨c, x, y, z, rfl, h3, h4, h5⟩ := h2
      refine ⟨c, x, y, z, rfl, h3, ?_, h5⟩
      cases w with
      | true => exact h4
      | false =>
        simp only [Bool.false_eq_true, if_false] at h4 ⊢
        exact (back c h4).2
    | s d => exact h2
  · obtain ⟨v, h1, h2⟩ := S.get j c e1
    rw [e3] at h1
    cases h1
    cases c with
    | p d => cases e2
    | n ds => cases e2
    | o d =>
      obtain ⟨c, e, h3, h4, h5⟩ := h2
      cases e
      exact (back a h4).1 rfl
    | u w n =>
      obtain ⟨c, x, y, z, e, h3, h4, h5⟩ := h2
      cases e
      cases w with
      | true => exact hP h4
      | false =>
        simp only [Bool.false_eq_true, if_false] at h4
        exact (back a h4).1 rfl
    | s d =>
      obtain ⟨c, e, h3, h4, h5⟩ := h2
      cases e
      exact hP h4
end

section
/-- an object that no slot owns may turn -/
theorem SD.turn {K : PySem.W.Frag} {W : Fix} {F H : Hp} {σ : L2.St} {δ : Env'} {a : Addr} {o : HO} (S : SD K W F H σ δ) (h0 : W.H0 a = none) (hF : F a = none) (hn : ∀ (j : Nat) (c : B), δ[j]? = some (some c) → c.own = true → σ[j]? ≠ some (some (.ref a))) :
    SD K W F (upd H a o) σ δ where
  f0 := S.f0
  h0 := fun b u e n => by
    have q : b ≠ a := fun z => by
      rw [z, h0] at e
      cases e
    rw [upd_ne q]
    exact S.h0 b u e n
  fh := fun b u e => by
    have q : b ≠ a := fun z => by
      rw [z, hF] at e
      cases e
    rw [upd_ne q]
    exact S.fh b u e
  fr := S.fr
  fp := fun b h => by
    obtain ⟨h1, ⟨u, h2⟩, v, h3⟩ := S.fp b h
    have q : b ≠ a := fun z => by
      rw [z, h0] at h3
      cases h3
    rw [upd_ne q]
    exact ⟨h1, ⟨u, h2⟩, v, h3⟩
  len := S.len
  get := fun i b e => by
    obtain ⟨v, h1, h2⟩ := S.get i b e
    refine ⟨v, h1, h2.keep (Same.refl F) (fun c u hv hb h3 => ?_) (fun _ _ _ h => h)⟩
    have q : c ≠ a := fun z => hn i b e hb (by rw [h1, hv, z])
    rw [upd_ne q]
    exact h3
  sep := S.sep
end
/-- a comprehension's target: only its own slots change -/
structure DGc (X : Cx) (W : Fix) (tg : Expr) (vs : List Nat) (g : TGD) : Prop where
  run : ∀ (F H : Hp) (σ : L2.St) (δ : Env') (d : D) (v : V) (Q : Env' → Prop), SD X.K W F H σ δ → Rp X.K F d v → g d δ Q →
    ∀ (pins : List (Addr × Obj)) (s : Shared) (u : Value), Inv X pins σ H s → RelV v u → wpAny (model X.prog X.w) X.A (assign tg X.env u) (fun _ s' => ∃ σ' H', Inv X pins σ' H' s' ∧ wipe σ' vs = wipe σ vs ∧ NQ X.K W F Q σ' H') X.xe s
structure DGcs (X : Cx) (W : Fix) (tgs : List Expr) (vs : List Nat) (g : TGDs) : Prop where
  run : ∀ (F H : Hp) (σ : L2.St) (δ : Env') (ds : List D) (xs : List V) (Q : Env' → Prop), SD X.K W F H σ δ → RpL X.K F ds xs → g ds δ Q →
    ∀ (pins : List (Addr × Obj)) (s : Shared) (us : List Value), Inv X pins σ H s → Vals xs us →
      wpAny (model X.prog X.w) X.A (assignInOrder ((assignEach tgs X.env).map (·.2)) us) (fun _ s' => ∃ σ' H', Inv X pins σ' H' s' ∧ wipe σ' vs = wipe σ vs ∧ NQ X.K W F Q σ' H') X.xe s
section
variable {X : Cx} {W : Fix} {vs : List Nat} {pos : Pos}
theorem dgc_name {i : Nat} {x : Str} (hv : i ∈ vs) (hN : X.N.Nodup) (hi : X.N[i]? = some x) (hx : Loc X.env.scope x) (hf : X.fn x = true ∨ X.env.scope.names.lookup x = some .local := by first | exact .inl rfl | exact .inr rfl | assumption) : DGc X W (.Name x pos) vs (gN i) :=
  ⟨fun F H σ δ d v Q S r q pins s u I ru => (pg_name (X := X) hN hi hx hf).run pins s σ H v u (fun σ' H' => wipe σ' vs = wipe σ vs ∧ NQ X.K W F Q σ' H') I ru ⟨wipe_set hv, F, δ.set i (some (.p d)), Same.refl F, S.put (b := .p d) r (fun z => by cases z), q⟩⟩
theorem dgcs_nil : DGcs X W [] vs gsNil := ⟨fun F H σ δ ds xs Q S r q pins s us I ru => by
  obtain ⟨rfl, q⟩ := q
  unfold RpL at r
  exact (pgs_nil (X := X)).run pins s σ H xs us (fun σ' H' => wipe σ' vs = wipe σ vs ∧ NQ X.K W F Q σ' H') I ru ⟨r, rfl, F, δ, Same.refl F, S, q⟩⟩
theorem dgcs_cons {tg : Expr} {tgs : List Expr} {g : TGD} {gs : TGDs} (h : DGc X W tg vs g) (k : DGcs X W tgs vs gs) (hs : (assignEach (tg :: tgs) X.env).map (·.2) = assign tg X.env :: (assignEach tgs X.env).map (·.2) := by rfl) : DGcs X W (tg :: tgs) vs (gsCons g gs) :=
  ⟨fun F H σ δ ds xs Q S r q pins s us I ru => by
    obtain ⟨d, dr, rfl, q⟩ := q
    unfold RpL at r
    obtain ⟨x, xr, rfl, r1, r2⟩ := r
    refine (pgs_cons (X := X) cG_pg cGs_pgs hs).run pins s σ H _ us (fun σ' H' => wipe σ' vs = wipe σ vs ∧ NQ X.K W F Q σ' H') I ru ⟨x, xr, rfl, fun pins s u I ru => ?_⟩
    refine thn (h.run F H σ δ d x _ S r1 q pins s u I ru) fun _ s' h1 => ?_
    obtain ⟨σ', H', I', w1, F1, δ1, e1, S1, q1⟩ := h1
    exact ⟨σ', H', I', fun pins s us I ru => thn (k.run F1 H' σ' δ1 dr xr Q S1 (RpL.mono e1 _ _ r2) q1 pins s us I ru) fun _ s2 ⟨σ2, H2, I2, w2, h2⟩ => ⟨σ2, H2, I2, w2.trans w1, h2.back e1⟩⟩⟩
theorem dgc_tup {es : List Expr} {k n : Nat} {gs : TGDs} (hc : X.calm = true) (h : DGcs X W es vs gs) (hn : (assignEach es X.env).length = n := by rfl) (hst : (assignEach es X.env).findIdx? (·.1) = none := by rfl) : DGc X W (.Tuple es k pos) vs (gT n gs) :=
  ⟨fun F H σ δ d v Q S r q pins s u I ru => by
    obtain ⟨ds, rfl, hl, q⟩ := q
    unfold Rp at r
    obtain ⟨a, xs, rfl, h1, h2⟩ := r
    refine (pg_tup (X := X) hc cGs_pgs hn hst).run pins s σ H _ u (fun σ' H' => wipe σ' vs = wipe σ vs ∧ NQ X.K W F Q σ' H') I ru ⟨a, xs, rfl, SqT.of (S.fh _ _ h1), by rw [h2.length, hl], ?_⟩
    exact fun pins s us I ru => h.run F H σ δ ds xs Q S h2 q pins s us I ru⟩

/-- a clause's tests -/
structure DTs (X : Cx) (W : Fix) (ifs : List Expr) (t : TDT) : Prop where
  run : ∀ (F H : Hp) (σ : L2.St) (δ : Env') (Q : Bool → Env' → Prop), SD X.K W F H σ δ → t δ Q → ∀ (pins : List (Addr × Obj)) (s : Shared), Inv X pins σ H s →
    wpAny (model X.prog X.w) X.A (forIn ifs true fun c r => if r = true then do let ok ← isTrue c X.env (eval c X.env); pure (ForInStep.yield ok) else pure (ForInStep.yield r)) (TP X pins σ (TQ X.K W F σ Q)) X.xe s
def dYes : TDT := fun δ Q => Q true δ
theorem dts_nil : DTs X W [] dYes := ⟨fun F H σ δ Q S q pins s I => (pts_nil (X := X)).run pins s σ H _ I ⟨F, δ, Same.refl F, S, q⟩⟩
theorem dts_one {c : Expr} {t : TDT} (h : DT X W c t) : DTs X W [c] t := ⟨fun F H σ δ Q S q pins s I => (pts_one (X := X) cT_pt).run pins s σ H _ I (h.run F H σ δ Q S q)⟩
end

def lcL (g : TGD) (tt : TDT) (te : TD) (vs : List Nat) (Q : List D → Env' → Prop) : List D → List D → Env' → Prop
  | [], acc, δ => Q acc δ
  | d :: ds, acc, δ => g d δ fun δ1 => tt δ1 fun k δ2 => if k = true then dp te δ2 fun y δ3 => acc.length < sizeLine ∧ lcL g tt te vs Q ds (acc ++ [y]) (wipeE δ3 vs) else lcL g tt te vs Q ds acc (wipeE δ2 vs)
def dLc (wi : TDI) (g : TGD) (tt : TDT) (te : TD) (vs : List Nat) : TD := fun δ Q => wi δ fun ds δ1 => lcL g tt te vs (fun acc δ2 => Q (.o (.lst acc)) δ2) ds [] (wipeE δ1 vs)

section
variable {X : Cx} {W : Fix} {elt tg iter : Expr} {ifs : List Expr} {scope : Scope} {own : List (Str × Nat)} {pos : Pos} {wi : TDI} {g : TGD} {tt : TDT} {te : TD} {σ : L2.St} {F H : Hp} {δ : Env'} {Q : B → Env' → Prop}
abbrev blkX (X : Cx) (scope : Scope) (s : Shared) (H : Hp) (C : Addr) (cl : List (Str × Addr)) (fp : List Addr) : Cx := X.blk s H scope (compEnvC scope cl C X.env) fp
/-- the canonical readings of a block -/
def bE (X : Cx) (scope : Scope) (e : Expr) : TE := fun σ H Q => ∀ (s0 : Shared) (H0 : Hp) (C : Addr) (cl : List (Str × Addr)) (fp : List Addr), cE (blkX X scope s0 H0 C cl fp) e σ H Q
def bG (X : Cx) (scope : Scope) (tg : Expr) : TG := fun v σ H Q => ∀ (s0 : Shared) (H0 : Hp) (C : Addr) (cl : List (Str × Addr)) (fp : List Addr), cG (blkX X scope s0 H0 C cl fp) tg v σ H Q
def bTs (X : Cx) (scope : Scope) (ifs : List Expr) : TT := fun σ H Q => ∀ (s0 : Shared) (H0 : Hp) (C : Addr) (cl : List (Str × Addr)) (fp : List Addr) (pins : List (Addr × Obj)) (s : Shared), Inv (blkX X scope s0 H0 C cl fp) pins σ H s →
  wpAny (model X.prog X.w) X.A (forIn ifs true fun c r => if r = true then do let ok ← isTrue c (blkX X scope s0 H0 C cl fp).env (eval c (blkX X scope s0 H0 C cl fp).env); pure (ForInStep.yield ok) else pure (ForInStep.yield r)) (TP (blkX X scope s0 H0 C cl fp) pins σ Q) (blkX X scope s0 H0 C cl fp).xe s
theorem lc_run (hg : ∀ (s : Shared) (H : Hp) (C : Addr) (cl : List (Str × Addr)) (fp : List Addr) (W' : Fix), DGc (blkX X scope s H C cl fp) W' tg (own.map (·.2)) g)
    (ht : ∀ (s : Shared) (H : Hp) (C : Addr) (cl : List (Str × Addr)) (fp : List Addr) (W' : Fix), DTs (blkX X scope s H C cl fp) W' ifs tt)
    (he : ∀ (s : Shared) (H : Hp) (C : Addr) (cl : List (Str × Addr)) (fp : List Addr) (W' : Fix), DE (blkX X scope s H C cl fp) W' elt te)
    (hi : DI X W tg iter wi) (S : SD X.K W F H σ δ) (q : dLc wi g tt te (own.map (·.2)) δ Q) {Z : VK} (hZ : ∀ v H', DQ X.K W F σ Q v H' → Z v H') :
    tLc (cI X tg iter) (bG X scope tg) (bTs X scope ifs) (bE X scope elt) (own.map (·.2)) σ H Z := by
  intro pins s I
  refine thn (hi.run F H σ δ _ S q pins s I) fun v s1 h1 => thn h1 fun itv s2 h2 => ?_
  obtain ⟨it, fp, tn, J, H1, e1, I1, T1, n1, f1, F1, ds, δ1, eF, S1, Y, q1⟩ := h2
  refine ⟨it, fp, tn, J, H1, e1, I1, T1, n1, f1, fun Dl hD => ?_⟩
  have hF1 : F1 Dl = none := S1.freshF hD
  have h0D : W.H0 Dl = none := S1.fresh0 hD
  have hF0 : W.F0 Dl = none := S1.f0.free hF1
  have hPD : W.P ≠ some Dl := fun z => by
    obtain ⟨_, ⟨o, ho⟩, _⟩ := S1.fp Dl z
    rw [hD] at ho
    cases ho
  refine ⟨fun i m H' => m = ds.length - i ∧ i ≤ ds.length ∧ ∃ F' δ' acc xs, Same F1 F' ∧ SD X.K (W.hold Dl (.lst xs)) F' H' (wipe σ (own.map (·.2))) δ' ∧ RpL X.K F' acc xs ∧ (∀ (j : Nat) (b : B), δ'[j]? = some (some b) → j ∉ own.map (·.2)) ∧
      lcL g tt te (own.map (·.2)) (fun acc δ2 => Q (.o (.lst acc)) δ2) (ds.drop i) acc δ', ⟨_, rfl, Nat.zero_le _, F1, wipeE δ1 (own.map (·.2)), [], [], Same.refl F1, ?_, .nil, fun j b h => (wipeE_some h).2, q1⟩, ?_⟩
  · refine (SD.newO (S1.wiped (vs := own.map (·.2))) hD).held upd_same h0D hF1 hPD fun j c e1 e2 e3 => ?_
    obtain ⟨v, h1, h2⟩ := (S1.wiped (vs := own.map (·.2))).get j c e1
    rw [e3] at h1
    cases h1
    obtain ⟨a, o, e, h4, _⟩ := h2.there e2
    cases e
    rw [hD] at h4
    cases h4
  rintro i m H' ⟨rfl, hil, F', δ', acc, xs, e', S', ra, hv, q'⟩
  obtain ⟨y1, y2⟩ := Y _ F' H' _ δ' i S' e'
  by_cases hl : i < ds.length
  · have hd : ds[i]? = some ds[i] := List.getElem?_eq_getElem hl
    rw [List.drop_eq_getElem_cons hl] at q'
    obtain ⟨hgo, hy⟩ := y1 _ hd
    refine .inr ⟨hgo, fun H2 => ∃ F' δ' acc xs, Same F1 F' ∧ SD X.K (W.hold Dl (.lst xs)) F' H2 (wipe σ (own.map (·.2))) δ' ∧ RpL X.K F' acc xs ∧ (∀ (j : Nat) (b : B), δ'[j]? = some (some b) → j ∉ own.map (·.2)) ∧
      lcL g tt te (own.map (·.2)) (fun acc δ2 => Q (.o (.lst acc)) δ2) (ds.drop (i + 1)) acc δ', fun H2 h2 => ⟨_, by omega, rfl, hl, h2⟩, fun x H2 hyl => ?_⟩
    obtain ⟨F2, e2, S2, rx, _⟩ := hy x H2 hyl
    intro s0 H0 C cl fp pins s u I ru
    refine thn ((hg s0 H0 C cl fp _).run F2 H2 _ δ' _ x _ S2 rx q' pins s u I ru) fun _ s' h3 => ?_
    obtain ⟨σ3, H3, I3, w3, F3, δ3, e3, S3, q3⟩ := h3
    refine ⟨σ3, H3, I3, ?_, fun s0 H0 C cl fp pins s I => ?_⟩
    · rw [w3]
      apply List.ext_getElem?
      intro j
      by_cases em : j ∈ own.map (·.2)
      · have n1 : ∀ (ρ : L2.St) (x : V), (wipe ρ (own.map (·.2)))[j]? ≠ some (some x) := fun ρ x z => (wipe_some z).2 em
        have l1 : (wipe (wipe σ (own.map (·.2))) (own.map (·.2))).length = (wipe σ (own.map (·.2))).length := wipe_length _ _
        by_cases hj : j < (wipe σ (own.map (·.2))).length
        · rw [List.getElem?_eq_getElem hj, List.getElem?_eq_getElem (by rw [l1]; exact hj)]
          cases z1 : (wipe (wipe σ (own.map (·.2))) (own.map (·.2)))[j]'(by rw [l1]; exact hj) with
          | some x => exact absurd (by rw [List.getElem?_eq_getElem (by rw [l1]; exact hj), z1]) (n1 _ x)
          | none =>
            cases z2 : (wipe σ (own.map (·.2)))[j]'hj with
            | some x => exact absurd (by rw [List.getElem?_eq_getElem hj, z2]) (n1 _ x)
            | none => rfl
        · rw [List.getElem?_eq_none (by omega), List.getElem?_eq_none (by omega)]
      · rw [wipe_off em]
    refine thn ((ht s0 H0 C cl fp _).run F3 H3 σ3 δ3 _ S3 q3 pins s I) fun b s4 h4 => ?_
    obtain ⟨H4, I4, F4, δ4, e4, S4, q4⟩ := h4
    refine ⟨H4, I4, ?_⟩
    have back : ∀ {F5 H5 : Hp} {δ5 : Env'} {o : HO}, SD X.K (W.hold Dl o) F5 H5 σ3 δ5 → SD X.K (W.hold Dl o) F5 H5 (wipe σ (own.map (·.2))) (wipeE δ5 (own.map (·.2))) := fun {F5 H5 δ5 o} S5 => by
      have z := S5.wiped (vs := own.map (·.2))
      rw [w3] at z
      refine z.slots ?_ fun j b h => ?_
      · rw [wipe_length, wipe_length, wipe_length]
      · rw [wipe_off (wipeE_some h).2, wipe_off (wipeE_some h).2, wipe_off (wipeE_some h).2]
    cases b with
    | false =>
      simp only [Bool.false_eq_true, if_false] at q4 ⊢
      exact ⟨F4, _, acc, xs, ((e'.trans e2).trans e3).trans e4, back S4, RpL.mono ((e2.trans e3).trans e4) _ _ ra, fun j b h => (wipeE_some h).2, q4⟩
    | true =>
      simp only [if_true] at q4 ⊢
      intro s0 H0 C cl fp pins s I
      refine thn ((he s0 H0 C cl fp _).plain S4 q4 pins s I) fun u s5 h5 => ?_
      obtain ⟨y, H5, I5, ry, F5, d5, δ5, e5, S5, r5, hz, q5⟩ := h5
      obtain ⟨S6, hD5, hF5, hn5⟩ := S5.unheld h0D hF0 hPD
      have S7 : SD X.K (W.hold Dl (.lst (xs ++ [y]))) F5 (upd H5 Dl (.lst (xs ++ [y]))) σ3 δ5 := (S6.turn h0D hF5 hn5).held upd_same h0D hF5 hPD hn5
      exact ⟨y, H5, I5, ry, xs, hD5, by rw [ra.length]; exact hz, F5, _, acc ++ [d5], xs ++ [y], (((e'.trans e2).trans e3).trans e4).trans e5, back S7, .append (RpL.mono (((e2.trans e3).trans e4).trans e5) _ _ ra) (.cons r5 .nil), fun j b h => (wipeE_some h).2, q5⟩
  · have e0 : i = ds.length := by omega
    subst e0
    rw [List.drop_length] at q'
    refine .inl ⟨y2 (List.getElem?_eq_none (Nat.le_refl _)), hZ _ _ ?_⟩
    obtain ⟨S6, hD6, hF6, hn6⟩ := S'.unheld h0D hF0 hPD
    have S7 : SD X.K W F' H' σ δ' := S6.slots (wipe_length σ _).symm fun j b h => (wipe_off (hv j b h)).symm
    refine ⟨F', .o (.lst acc), δ', eF.trans e', S7, ⟨Dl, rfl, hF6, h0D, xs, hD6, ra⟩, fun _ j c h1 h2 => ?_, q'⟩
    rw [← wipe_off (σ := σ) (hv j c h1)]
    exact hn6 j c h1 h2
theorem de_lc (hc : X.calm = true) (hN : X.N.Nodup) (hi : DI X W tg iter wi) (ok : BlkOk X.N X.env.scope scope own)
    (hg : ∀ (s : Shared) (H : Hp) (C : Addr) (cl : List (Str × Addr)) (fp : List Addr) (W' : Fix), DGc (blkX X scope s H C cl fp) W' tg (own.map (·.2)) g)
    (ht : ∀ (s : Shared) (H : Hp) (C : Addr) (cl : List (Str × Addr)) (fp : List Addr) (W' : Fix), DTs (blkX X scope s H C cl fp) W' ifs tt)
    (he : ∀ (s : Shared) (H : Hp) (C : Addr) (cl : List (Str × Addr)) (fp : List Addr) (W' : Fix), DE (blkX X scope s H C cl fp) W' elt te) (hs : ∀ x, foldedSetIterable iter X.env x = pure x := by intro _; rfl) :
    DE X W (.ListComp elt [⟨tg, iter, ifs, 0⟩] scope pos) (dLc wi g tt te (own.map (·.2))) :=
  .of (pe_lc (X := X) hc hN cI_pi ok (fun s H C cl fp => ⟨fun pins s' _ _ _ u _ I r h => h s H C cl fp pins s' u I r⟩) (fun s H C cl fp => ⟨fun pins s' _ _ _ I h => h s H C cl fp pins s' I⟩) (fun s H C cl fp => ⟨fun pins s' _ _ _ I h => h s H C cl fp pins s' I⟩) hs)
    fun F H σ δ Q S q => lc_run hg ht he hi S q fun _ _ h => h
/-- name = [..] on one line, the name a local -/
theorem ds_setLc {i : Nat} {y : Str} {py spos : Pos} (hc : X.calm = true) (hN : X.N.Nodup) (hy : X.N[i]? = some y) (hyl : X.env.scope.names.lookup y = some .local)
    (hsw : swapsWith (.ListComp elt [⟨tg, iter, ifs, 0⟩] scope pos) (some (.Name y py)) spos.line X.env = pure true) (hi : DI X W tg iter wi) (ok : BlkOk X.N X.env.scope scope own)
    (hg : ∀ (s : Shared) (H : Hp) (C : Addr) (cl : List (Str × Addr)) (fp : List Addr) (W' : Fix), DGc (blkX X scope s H C cl fp) W' tg (own.map (·.2)) g)
    (ht : ∀ (s : Shared) (H : Hp) (C : Addr) (cl : List (Str × Addr)) (fp : List Addr) (W' : Fix), DTs (blkX X scope s H C cl fp) W' ifs tt)
    (he : ∀ (s : Shared) (H : Hp) (C : Addr) (cl : List (Str × Addr)) (fp : List Addr) (W' : Fix), DE (blkX X scope s H C cl fp) W' elt te) (hs : ∀ x, foldedSetIterable iter X.env x = pure x := by intro _; rfl) :
    DS X W (.Assign [.Name y py] (.ListComp elt [⟨tg, iter, ifs, 0⟩] scope pos) spos) (dSet i (dLc wi g tt te (own.map (·.2)))) :=
  .of (ps_setLc (X := X) hc hN hy hyl hsw cI_pi ok (fun s H C cl fp => ⟨fun pins s' _ _ _ u _ I r h => h s H C cl fp pins s' u I r⟩) (fun s H C cl fp => ⟨fun pins s' _ _ _ I h => h s H C cl fp pins s' I⟩) (fun s H C cl fp => ⟨fun pins s' _ _ _ I h => h s H C cl fp pins s' I⟩) hs)
    fun F H σ δ D S q => lc_run (Q := fun b δ1 => D.nx (δ1.set i (some b))) hg ht he hi S q fun v H' h => by
      obtain ⟨F1, b, δ1, e1, S1, r1, s1, q1⟩ := h
      exact ⟨F1, δ1.set i (some b), S1.put r1 (fun hb j c h1 h2 _ => s1 hb j c h1 h2), q1⟩
end
end DD

set_option Elab.async false
set_option linter.all false
set_option maxRecDepth 100000
set_option maxHeartbeats 4000000
/-! DD5: what a def promises over data; calls. -/
namespace DD
open PySem PySem.Spec PyProof.Rows L2

/-- a promise: the arguments, the wish for the answer and the purse, the wish for an exception -/
abbrev Spd := List B → (B → Nat → Prop) → (Addr → List D → Nat → Prop) → Prop
structure Aft (F H : Hp) (P : Option Addr) (m : Nat) (F' H' : Hp) : Prop where
  ff : Same F F'
  fh : Same F' H'
  keep : ∀ a o, H a = some o → P ≠ some a → H' a = some o
  new : ∀ a o, F' a = some o → F a = some o ∨ H a = none
  pur : ∀ p, P = some p → F' p = none ∧ ∃ x y z, H' p = some (.lst [.int x, .int y, .int z]) ∧ PWF m x y z
def Res (K : PySem.W.Frag) (H F' H' : Hp) : B → V → Prop
  | .p d, v => Rp K F' d v
  | .o d, v => ∃ a, v = .ref a ∧ F' a = none ∧ H a = none ∧ Own K F' H' d a
  | .u _ _, _ => False
  | .s _, _ => False
  | .n ds, v => ∃ t xs, v = .ref t ∧ F' t = some (.tup xs) ∧ RpL K F' ds xs ∧ ∀ a, V.ref a ∈ xs → (∃ ys, F' a = some (.lst ys)) ∧ H a = none
def Arg (K : PySem.W.Frag) (F H : Hp) (P : Option Addr) : B → V → Prop
  | .p d, v => Rp K F d v
  | .o _, _ => False
  | .u w n, v => w = true ∧ ∃ p x y z, v = .ref p ∧ P = some p ∧ F p = none ∧ H p = some (.lst [.int x, .int y, .int z]) ∧ PWF n x y z
  | .n _, _ => False
  | .s d, v => ∃ a, v = .ref a ∧ F a = none ∧ P = some a ∧ Own K F H d a
/-- at most one purse, and where it stands -/
def PurK (i : Option Nat) (bs : List B) : Prop := ∀ (j : Nat) (b : B), bs[j]? = some b → b.own = true → i = some j
def toSp (K : PySem.W.Frag) (spd : Spd) : Sp := fun vs H Q E => ∃ (F : Hp) (P : Option Addr) (bs : List B) (R : B → Nat → Prop) (ED : Addr → List D → Nat → Prop),
  Same F H ∧ Paired (Arg K F H P) bs vs ∧ (∀ p, P = some p → (F p = none ∧ ∃ o, H p = some o) ∧ ∃ b ∈ bs, b.own = true) ∧ spd bs R ED ∧
  (∀ v H' F' b m, Aft F H P m F' H' → Res K H F' H' b v → R b m → Q v H') ∧
  (∀ cls d H' F' C ds m, Aft F H P m F' H' → ExcRep K F' C ds cls d → ED C ds m → E cls d H')

def startD (N : List Str) (bs : List B) : Env' := bs.map some ++ List.replicate (N.length - bs.length) none
/-- the purse's turns at the end -/
def PC (i : Option Nat) (δ : Env') (m : Nat) : Prop := match i with
  | none => True
  | some j => δ[j]? = some (some (.u true m))
section
variable {K : PySem.W.Frag} {F H : Hp} {P : Option Addr}
theorem paired_get {α β : Type} {G : α → β → Prop} : ∀ {l : List α} {m : List β} {i : Nat} {a : α}, Paired G l m → l[i]? = some a → ∃ b, m[i]? = some b ∧ G a b
  | _, _, _, _, .nil, e => by simp at e
  | _, _, 0, _, .cons r _, e => by
    simp at e
    subst e
    exact ⟨_, rfl, r⟩
  | _, _, i + 1, a, .cons _ t, e => by
    obtain ⟨b, h1, h2⟩ := paired_get (i := i) t (by simpa using e)
    exact ⟨b, by simpa using h1, h2⟩
theorem startD_get {N : List Str} {bs : List B} {i : Nat} {b : B} (h : (startD N bs)[i]? = some (some b)) : bs[i]? = some b := by
  unfold startD at h
  by_cases hi : i < bs.length
  · rw [List.getElem?_append_left (by simpa using hi), List.getElem?_map] at h
    cases e : bs[i]? with
    | none =>
      rw [e] at h
      cases h
    | some c =>
      rw [e] at h
      cases h
      rfl
  · rw [List.getElem?_append_right (by simpa using hi), List.getElem?_replicate] at h
    split at h <;> cases h
theorem start_get {N : List Str} {vs : List V} {i : Nat} {v : V} (h : vs[i]? = some v) : (L2.start N vs)[i]? = some (some v) := by
  have hi : i < vs.length := (List.getElem?_eq_some_iff.mp h).1
  unfold L2.start
  rw [List.getElem?_append_left (by simpa using hi), List.getElem?_map, h]
  rfl
theorem SD.start {N : List Str} {bs : List B} {vs : List V} {E : Addr → List D → Env' → Prop} {pi : Option Nat} (fh : Same F H) (ra : Paired (Arg K F H P) bs vs) (hP : ∀ p, P = some p → F p = none ∧ ∃ o, H p = some o) (hk : PurK pi bs) :
    SD K ⟨F, H, P, E⟩ F H (L2.start N vs) (startD N bs) where
  f0 := Same.refl F
  h0 := fun _ _ h _ => h
  fh := fh
  fr := fun _ _ h => .inl h
  fp := fun p h => ⟨(hP p h).1, (hP p h).2, (hP p h).2⟩
  len := by
    have := Paired.length ra
    unfold L2.start startD
    rw [List.length_append, List.length_append, List.length_map, List.length_map, List.length_replicate, List.length_replicate, this]
  get := fun i b h => by
    obtain ⟨v, h1, h2⟩ := paired_get ra (startD_get h)
    refine ⟨v, start_get h1, ?_⟩
    cases b with
    | p d => exact h2
    | n ds => exact h2.elim
    | o d => exact h2.elim
    | u w n =>
      obtain ⟨rfl, p, x, y, z, rfl, h3, h4, h5, h6⟩ := h2
      exact ⟨p, x, y, z, rfl, h4, by rw [if_pos rfl]; exact h3, h5, h6⟩
    | s d => exact h2
  sep := fun i j b c v ne h1 h2 h3 h4 _ => by
    have e1 := hk i b (startD_get h1) h2
    have e2 := hk j c (startD_get h3) h4
    rw [e1] at e2
    exact absurd (Option.some.inj e2) ne
theorem SD.aft {E : Addr → List D → Env' → Prop} {F' H' : Hp} {σ : L2.St} {δ : Env'} {pi : Option Nat} {m : Nat} (S : SD K ⟨F, H, P, E⟩ F' H' σ δ) (hp : P = none ∨ pi ≠ none) (hm : PC pi δ m) : Aft F H P m F' H' where
  ff := S.f0
  fh := S.fh
  keep := S.h0
  new := S.fr
  pur := fun p e => by
    refine ⟨(S.fp p e).1, ?_⟩
    cases pi with
    | none =>
      rcases hp with h | h
      · rw [h] at e
        cases e
      · exact absurd rfl h
    | some j =>
      obtain ⟨v, h1, q, x, y, z, rfl, h2, h3, h4, h5⟩ := S.get j _ hm
      have h3 : P = some q := by
        rw [if_pos rfl] at h3
        exact h3
      rw [e] at h3
      cases h3
      exact ⟨x, y, z, h4, h5⟩
end

/-- THE RULE: a def of the text keeps its promise over data -/
theorem gd_of {P : Program} {w : World} {K : PySem.W.Frag} {mg : Str → Option Value} {base : Heap} {x qual : Str} {st : Stmt} {f : Addr} {fd : FuncData} {N ps : List Str} {k : Nat} {spd : Spd} (pi : Option Nat)
    (F : Fun K x qual st f fd) (S : FnScope N ps (defScope st)) (len : ∀ bs R E, spd bs R E → bs.length = ps.length) (hpk : ∀ bs R E, spd bs R E → PurK pi bs ∧ (pi = none → ∀ b ∈ bs, b.own = false))
    (hbody : ∀ (cdv : Value) (A : Around) (outer : List Env) (s : Shared) (H : Hp) (E : XK) (W : Fix) (bs : List B) (R : B → Nat → Prop) (ED : Addr → List D → Nat → Prop), A.guards = some [] →
      Room k (A.deeper (envOfC qual (defScope st) s.heap.objs.size f cdv)) → TkE (cxOf (L2.CX P w) P w K mg base N qual (defScope st) f cdv A outer s H E) W (fun C ds δ => ∃ m, PC pi δ m ∧ ED C ds m) → spd bs R ED → Same W.F0 W.H0 →
      ∃ t, DSs (cxOf (L2.CX P w) P w K mg base N qual (defScope st) f cdv A outer s H E) W (defBody st) t ∧
        t { nx := fun δ => ∃ m, PC pi δ m ∧ R (.p .non) m, rt := fun b δ => b.isU = false ∧ ∃ m, PC pi δ m ∧ R b m } (startD N bs)) :
    GnOk P w K mg base (k + 1) f fd ps (toSp K spd) := by
  refine gn_of F S (fun vs H Q E h => ?_) fun cdv A outer s H vs Q E hg hr h => ?_
  · obtain ⟨F0, P0, bs, R, ED, _, ra, _, h, _⟩ := h
    rw [← Paired.length ra, len bs R ED h]
  · obtain ⟨F0, P0, bs, R, ED, fh, ra, hP, h, hQ, hE⟩ := h
    obtain ⟨h1, h2⟩ := hpk bs R ED h
    have hnp : P0 = none ∨ pi ≠ none := by
      cases e : P0 with
      | none => exact .inl rfl
      | some p =>
        refine .inr fun z => ?_
        obtain ⟨_, b, hb, ho⟩ := hP p e
        rw [h2 z b hb] at ho
        cases ho
    have S0 : SD K ⟨F0, H, P0, fun C ds δ => ∃ m, PC pi δ m ∧ ED C ds m⟩ F0 H (L2.start N vs) (startD N bs) := .start fh ra (fun p e => (hP p e).1) h1
    have tk : Takes (cxOf (L2.CX P w) P w K mg base N qual (defScope st) f cdv A outer s H E) (WXd K ⟨F0, H, P0, fun C ds δ => ∃ m, PC pi δ m ∧ ED C ds m⟩) := by
      refine (takes_of rfl rfl rfl rfl).imp fun cls d σ H' z => ?_
      obtain ⟨F', δ', C, ds, S', er, m, hm, he⟩ := z
      exact hE cls d H' F' C ds m (S'.aft hnp hm) er he
    obtain ⟨t, ht, q⟩ := hbody cdv A outer s H E _ bs R ED hg hr ⟨rfl, tk⟩ h fh
    refine ⟨_, cSs_pss, (fun pins s I => thn (ht.run F0 H _ _ _ S0 q pins s I) fun fl s' q => SP.imp q (fun σ' H' z => ?_) (fun v H' z => ?_) (fun σ' H' z => ?_) fun σ' H' z => ?_)⟩
    · obtain ⟨F', δ', S', m, hm, r⟩ := z
      exact hQ .non H' F' (.p .non) m (S'.aft hnp hm) (by unfold Res Rp; rfl) r
    · obtain ⟨_, σ', F', b, δ', e', S', rb, _, hu, m, hm, r⟩ := z
      refine hQ v H' F' b m (S'.aft hnp hm) ?_ r
      cases b with
      | p d => exact rb
      | n ds => exact rb
      | o d => exact rb
      | u w n => cases hu
      | s d => cases hu
    · obtain ⟨F', δ', S', z⟩ := z
      exact z.elim
    · obtain ⟨F', δ', S', z⟩ := z
      exact z.elim

/-! ### the call of a def -/
section
variable {X : Cx} {W : Fix} {k : Nat} {f : Addr} {fd : FuncData} {ps : List Str} {spd : Spd} {sp : Sp} {dvs : List V} {dfs : List Value} {dds : List D} {E : XK} {x : Str} {p pos : Pos} {e : Expr} {es : List Expr} {t : TDA}
theorem run_g {pins : List (Addr × Obj)} {σ : L2.St} {H : Hp} {s : Shared} {Q : VK} {us : List Value} {vs : List V} (G : GnOk X.prog X.w X.K X.mg X.base k f fd ps sp) (gu : X.A.guards = some []) (hr : Room k X.A)
    (hb : Binds X.K fd ps dfs) (hd : Vals dvs dfs) (hx : ∀ (e : Value) (s' : Shared), L2.CX X.prog X.w X.stack H s E e s' → X.xe e s') (I : Inv X pins σ H s) (r : Vals vs us) (h : sp (vs ++ dvs) H Q E) :
    wpAny (model X.prog X.w) X.A (call (.ref f) us) (EP X pins σ Q) X.xe s := by
  have r2 : Vals (vs ++ dvs) (us ++ dfs) := r.append hd
  have hl : (us ++ dfs).length = ps.length := by
    rw [← r2.length]
    exact G.len _ _ _ _ h
  refine wpAny_call (codeAny_mono (G.run X.A X.stack s H ⟨us, []⟩ _ _ Q E gu hr I.env0 (hb s us I.kIn hl) r2 h) ?_)
  intro r s' hq
  cases r with
  | error e => exact hx e s' hq
  | ok fl =>
    cases fl with
    | ret u => exact I.after hq
    | next => exact hq.elim
    | brk => exact hq.elim
    | cont => exact hq.elim
/-- f(e, ..): the reading knows the slots -/
def tCallG (sp : Sp) (dvs : List V) (E : L2.St → XK) (t : TA) : TE := fun σ H Q => t σ H fun vs H1 => sp (vs ++ dvs) H1 Q (E σ)
theorem pe_callG {ta : TA} {Es : L2.St → XK} (G : GnOk X.prog X.w X.K X.mg X.base k f fd ps sp) (gu : X.A.guards = some []) (hr : Room k X.A) (hg : Gl X x) (hm : X.mg x = some (.ref f)) (hk : PySem.W.keepIn X.K (.ref f) = true)
    (hb : Binds X.K fd ps dfs) (hd : Vals dvs dfs) (hx : ∀ σ, PassesAt (L2.CX X.prog X.w) X σ (Es σ)) (ha : PA X (e :: es) ta) (hdb : (x == ("__debug__" : Str)) = false := by decide)
    (he : starEach (e :: es) X.env = (false, eval e X.env) :: starEach es X.env := by rfl) (hpl : (backTo pos (starEach es X.env)).any (·.1) = false := by rfl) :
    PE X (.Call (.Name x p) (e :: es) [] pos) (tCallG sp dvs Es ta) := by
  refine ⟨fun pins s σ H Q I h => wpAny_Call_Name_kw (ld_glob I hg hm ?_ hdb)⟩
  refine PySem.W.callWith_K (h₀ := X.base) I.ok.mod.kin hk (thn (ha.run pos pins s σ H _ I h) ?_) he hpl
  rintro us s1 ⟨vs, H1, I1, r, q⟩
  exact ⟨I1.kIn, run_g G gu hr hb hd (fun e s' c => hx σ pins H1 s1 e s' I1 c) I1 r q⟩
theorem pe_callG0 {Es : L2.St → XK} (G : GnOk X.prog X.w X.K X.mg X.base k f fd ps sp) (gu : X.A.guards = some []) (hr : Room k X.A) (hg : Gl X x) (hm : X.mg x = some (.ref f)) (hk : PySem.W.keepIn X.K (.ref f) = true)
    (hb : Binds X.K fd ps dfs) (hd : Vals dvs dfs) (hx : ∀ σ, PassesAt (L2.CX X.prog X.w) X σ (Es σ)) (hdb : (x == ("__debug__" : Str)) = false := by decide) :
    PE X (.Call (.Name x p) [] [] pos) (tCallG sp dvs Es tNil) := by
  refine ⟨fun pins s σ H Q I h => wpAny_Call_Name_kw (ld_glob I hg hm ?_ hdb)⟩
  exact PySem.W.callWith_K0 I.kIn hk (run_g (us := []) G gu hr hb hd (fun e s' c => hx σ pins H s e s' I c) I .nil h)
/-- no exception is wished for -/
theorem pass_none {X : Cx} {σ : L2.St} : PassesAt (L2.CX X.prog X.w) X σ (fun _ _ _ => False) := fun _ _ _ _ _ _ c => by
  obtain ⟨_, _, _, _, _, _, _, _, _, _, _, _, z⟩ := c
  exact z.elim

/-- behind a call, the caller's state -/
theorem SD.after {K : PySem.W.Frag} {F H F' H' : Hp} {σ : L2.St} {δ : Env'} {m : Nat} (S : SD K W F H σ δ) (a : Aft F H none m F' H') : SD K W F' H' σ δ where
  f0 := S.f0.trans a.ff
  h0 := fun b o h n => a.keep b o (S.h0 b o h n) (fun z => by cases z)
  fh := a.fh
  fr := fun b o h => by
    rcases a.new b o h with h1 | h1
    · exact S.fr b o h1
    · exact .inr (S.fresh0 h1)
  fp := fun b h => by
    obtain ⟨h1, ⟨o, h2⟩, h3⟩ := S.fp b h
    refine ⟨?_, ⟨o, a.keep b o h2 (fun z => by cases z)⟩, h3⟩
    cases q : F' b with
    | none => rfl
    | some u =>
      rcases a.new b u q with h4 | h4
      · rw [h1] at h4
        cases h4
      · rw [h2] at h4
        cases h4
  len := S.len
  get := fun i b h => by
    obtain ⟨v, h1, h2⟩ := S.get i b h
    refine ⟨v, h1, h2.keep a.ff (fun c o _ _ h3 => a.keep c o h3 (fun z => by cases z)) fun c hv hb h3 => ?_⟩
    obtain ⟨c', o, e1, h4, _⟩ := h2.there hb
    rw [hv] at e1
    cases e1
    cases q : F' c with
    | none => rfl
    | some u =>
      rcases a.new c u q with h5 | h5
      · rw [h3] at h5
        cases h5
      · rw [h4] at h5
        cases h5
  sep := S.sep
/-- .. the purse in slot i has turned -/
theorem SD.afterP {K : PySem.W.Frag} {F H F' H' : Hp} {σ : L2.St} {δ : Env'} {i : Nat} {w : Bool} {n m : Nat} {q : Addr} (S : SD K W F H σ δ) (hi : δ[i]? = some (some (.u w n))) (hq : σ[i]? = some (some (.ref q))) (a : Aft F H (some q) m F' H') :
    SD K W F' H' σ (δ.set i (some (.u w m))) := by
  obtain ⟨v, e1, q', x, y, z, rfl, hF, hw, hH, hp⟩ := S.get i _ hi
  rw [hq] at e1
  cases e1
  have hli : i < δ.length := (List.getElem?_eq_some_iff.mp hi).1
  have nF : ∀ b o, H b = some o → F b = none → F' b = none := fun b o h1 h2 => by
    cases z : F' b with
    | none => rfl
    | some u =>
      rcases a.new b u z with h5 | h5
      · rw [h2] at h5
        cases h5
      · rw [h1] at h5
        cases h5
  have hneP : ∀ b o, W.H0 b = some o → W.P ≠ some b → b ≠ q := fun b o h1 h2 z => by
    subst z
    cases w with
    | true =>
      rw [if_pos rfl] at hw
      exact h2 hw
    | false =>
      rw [if_neg Bool.false_ne_true] at hw
      rw [h1] at hw
      cases hw
  have aux : ∀ (j : Nat) (c : B), (δ.set i (some (.u w m)))[j]? = some (some c) → (j = i ∧ c = .u w m) ∨ (j ≠ i ∧ δ[j]? = some (some c)) := fun j c h => by
    by_cases e : j = i
    · subst e
      rw [List.getElem?_set_self hli] at h
      cases h
      exact .inl ⟨rfl, rfl⟩
    · rw [List.getElem?_set_ne (Ne.symm e)] at h
      exact .inr ⟨e, h⟩
  refine ⟨S.f0.trans a.ff, fun b o h n => a.keep b o (S.h0 b o h n) fun z => hneP b o h n (Option.some.inj z).symm, a.fh, fun b o h => ?_, fun b h => ?_, by rw [List.length_set]; exact S.len, fun j c h => ?_, fun j k c d v ne h1 h2 h3 h4 h5 => ?_⟩
  · rcases a.new b o h with h1 | h1
    · exact S.fr b o h1
    · exact .inr (S.fresh0 h1)
  · obtain ⟨h1, ⟨o, h2⟩, h3⟩ := S.fp b h
    refine ⟨nF b o h2 h1, ?_, h3⟩
    by_cases e : b = q
    · subst e
      obtain ⟨_, x', y', z', h5, _⟩ := a.pur b rfl
      exact ⟨_, h5⟩
    · exact ⟨o, a.keep b o h2 fun z => e (Option.some.inj z).symm⟩
  · rcases aux j c h with ⟨rfl, rfl⟩ | ⟨hj, h⟩
    · obtain ⟨h4, x', y', z', h5, h6⟩ := a.pur q rfl
      exact ⟨.ref q, hq, q, x', y', z', rfl, h4, hw, h5, h6⟩
    · obtain ⟨v, h1, h2⟩ := S.get j c h
      refine ⟨v, h1, h2.keep a.ff (fun b o hv hb h3 => a.keep b o h3 fun z => ?_) fun b hv hb h3 => ?_⟩
      · have e := Option.some.inj z
        subst e
        rw [hv] at h1
        exact S.sep i j _ c (.ref q) (Ne.symm hj) hi rfl h hb hq h1
      · obtain ⟨b', o, e1, h4, _⟩ := h2.there hb
        rw [hv] at e1
        cases e1
        exact nF b o h4 h3
  · have g1 : ∃ c', δ[j]? = some (some c') ∧ c'.own = true := by
      rcases aux j c h1 with ⟨rfl, rfl⟩ | ⟨_, h⟩
      · exact ⟨_, hi, rfl⟩
      · exact ⟨c, h, h2⟩
    have g2 : ∃ c', δ[k]? = some (some c') ∧ c'.own = true := by
      rcases aux k d h3 with ⟨rfl, rfl⟩ | ⟨_, h⟩
      · exact ⟨_, hi, rfl⟩
      · exact ⟨d, h, h4⟩
    obtain ⟨c', g1, g1'⟩ := g1
    obtain ⟨d', g2, g2'⟩ := g2
    exact S.sep j k c' d' v ne g1 g1' g2 g2' h5

def dCall (spd : Spd) (dds : List D) (Ew : Addr → List D → Env' → Prop) (t : TDA) : TD := fun δ Q => t δ fun ds δ1 => spd ((ds ++ dds).map .p) (fun b _ => b.isU = false ∧ Q b δ1) fun C es _ => Ew C es δ1
def dCallP (i : Nat) (spd : Spd) (dds : List D) (Ew : Addr → List D → Env' → Prop) (t : TDA) : TD := fun δ Q => (∃ w n, δ[i]? = some (some (.u w n))) ∧ t δ fun ds δ1 => ∃ w n, δ1[i]? = some (some (.u w n)) ∧
  spd (.u true n :: (ds ++ dds).map .p) (fun b m => b.isU = false ∧ Q b (δ1.set i (some (.u w m)))) fun C es m => Ew C es (δ1.set i (some (.u w m)))
theorem paired_p {K : PySem.W.Frag} {F H : Hp} {P : Option Addr} : ∀ {ds : List D} {vs : List V}, RpL K F ds vs → Paired (Arg K F H P) (ds.map B.p) vs
  | [], _, h => by
    unfold RpL at h
    rw [h]
    exact .nil
  | d :: ds, vs, h => by
    unfold RpL at h
    obtain ⟨x, r, rfl, h1, h2⟩ := h
    exact .cons h1 (paired_p h2)
theorem RB.of_res {K : PySem.W.Frag} {F H F' H' : Hp} {σ : L2.St} {δ : Env'} {b : B} {v : V} (S : SD K W F H σ δ) (r : Res K H F' H' b v) : RB K W F' H' b v ∧ (b.own = true → ∀ (j : Nat) (c : B), δ[j]? = some (some c) → c.own = true → σ[j]? ≠ some (some v)) := by
  cases b with
  | p d => exact ⟨r, fun h => by cases h⟩
  | n ds =>
    obtain ⟨t, xs, e, h1, h2, h3⟩ := r
    exact ⟨⟨t, xs, e, h1, h2, fun c hc => ⟨(h3 c hc).1, S.fresh0 (h3 c hc).2⟩⟩, fun h => by cases h⟩
  | u w n => exact r.elim
  | s d => exact r.elim
  | o d =>
    obtain ⟨a, rfl, h1, h2, h3⟩ := r
    refine ⟨⟨a, rfl, h1, S.fresh0 h2, h3⟩, fun _ j c e1 e2 e3 => ?_⟩
    obtain ⟨u, h4, h5⟩ := S.get j c e1
    rw [e3] at h4
    cases h4
    obtain ⟨a', o, e, h6, _⟩ := h5.there e2
    cases e
    rw [h2] at h6
    cases h6
/-- f(e, ..) that raises nothing -/
theorem de_call (G : GnOk X.prog X.w X.K X.mg X.base k f fd ps (toSp X.K spd)) (gu : X.A.guards = some []) (hr : Room k X.A) (hg : Gl X x) (hm : X.mg x = some (.ref f)) (hk : PySem.W.keepIn X.K (.ref f) = true)
    (hb : Binds X.K fd ps dfs) (hd : Vals dvs dfs) (hdd : ∀ F, RpL X.K F dds dvs) (h : DA X W (e :: es) t) (hdb : (x == ("__debug__" : Str)) = false := by decide)
    (he : starEach (e :: es) X.env = (false, eval e X.env) :: starEach es X.env := by rfl) (hpl : (backTo pos (starEach es X.env)).any (·.1) = false := by rfl) :
    DE X W (.Call (.Name x p) (e :: es) [] pos) (dCall spd dds (fun _ _ _ => False) t) :=
  .of (pe_callG (Es := fun _ _ _ _ => False) G gu hr hg hm hk hb hd (fun σ => pass_none) cA_pa hdb he hpl) fun F H σ δ Q S q => by
    refine (h.run F H σ δ _ S q).imp fun vs H1 h1 => ?_
    obtain ⟨F1, ds, δ1, e1, S1, r1, q1⟩ := h1
    refine ⟨F1, none, _, _, _, S1.fh, paired_p (r1.append (hdd F1)), (fun p e => by cases e), q1, fun v H' F' b m a r z => ?_, fun cls d H' F' C ds m a er z => z.elim⟩
    obtain ⟨r2, r3⟩ := RB.of_res S1 r
    exact ⟨F', b, δ1, e1.trans a.ff, S1.after a, r2, r3, z.2⟩
/-- f(e, ..) that may raise -/
theorem de_callX {E0 : Addr → List D → Env' → Prop} (te : TkE X W E0) (G : GnOk X.prog X.w X.K X.mg X.base k f fd ps (toSp X.K spd)) (gu : X.A.guards = some []) (hr : Room k X.A) (hg : Gl X x) (hm : X.mg x = some (.ref f)) (hk : PySem.W.keepIn X.K (.ref f) = true)
    (hb : Binds X.K fd ps dfs) (hd : Vals dvs dfs) (hdd : ∀ F, RpL X.K F dds dvs) (h : DA X W (e :: es) t) (hdb : (x == ("__debug__" : Str)) = false := by decide)
    (he : starEach (e :: es) X.env = (false, eval e X.env) :: starEach es X.env := by rfl) (hpl : (backTo pos (starEach es X.env)).any (·.1) = false := by rfl) :
    DE X W (.Call (.Name x p) (e :: es) [] pos) (dCall spd dds E0 t) :=
  .of (pe_callG (Es := WE (WXd X.K W)) G gu hr hg hm hk hb hd (fun σ => passAt te.tk σ) cA_pa hdb he hpl) fun F H σ δ Q S q => by
    refine (h.run F H σ δ _ S q).imp fun vs H1 h1 => ?_
    obtain ⟨F1, ds, δ1, e1, S1, r1, q1⟩ := h1
    refine ⟨F1, none, _, _, _, S1.fh, paired_p (r1.append (hdd F1)), (fun p e => by cases e), q1, fun v H' F' b m a r z => ?_, fun cls d H' F' C ds m a er z => ?_⟩
    · obtain ⟨r2, r3⟩ := RB.of_res S1 r
      exact ⟨F', b, δ1, e1.trans a.ff, S1.after a, r2, r3, z.2⟩
    · exact ⟨F', δ1, C, ds, S1.after a, er, by rw [te.eq]; exact z⟩
/-- f(purse, e, ..), the purse in slot i -/
theorem de_callP {i : Nat} {xp : Str} {pp : Pos} (G : GnOk X.prog X.w X.K X.mg X.base k f fd ps (toSp X.K spd)) (gu : X.A.guards = some []) (hr : Room k X.A) (hg : Gl X x) (hm : X.mg x = some (.ref f)) (hk : PySem.W.keepIn X.K (.ref f) = true)
    (hN : X.N[i]? = some xp) (hv : Vis X.env.scope xp)
    (hb : Binds X.K fd ps dfs) (hd : Vals dvs dfs) (hdd : ∀ F, RpL X.K F dds dvs) (h : DA X W es t) (hdb : (x == ("__debug__" : Str)) = false := by decide) (hd1 : (xp == ("__debug__" : Str)) = false := by decide) (hcd : (xp == ("__classdict__" : Str)) = false := by decide)
    (he : starEach (.Name xp pp :: es) X.env = (false, eval (.Name xp pp) X.env) :: starEach es X.env := by rfl) (hpl : (backTo pos (starEach es X.env)).any (·.1) = false := by rfl) :
    DE X W (.Call (.Name x p) (.Name xp pp :: es) [] pos) (dCallP i spd dds (fun _ _ _ => False) t) :=
  .of (pe_callG (Es := fun _ _ _ _ => False) (e := .Name xp pp) G gu hr hg hm hk hb hd (fun σ => pass_none) (pa_cons (pe_var (X := X) hN hv hd1 hcd) cA_pa he) hdb he hpl) fun F H σ δ Q S q => by
    obtain ⟨⟨w0, n0, h0⟩, q⟩ := q
    obtain ⟨v0, hv0, q0, _, _, _, rfl, _⟩ := S.get i _ h0
    refine ⟨.ref q0, hv0, ?_⟩
    refine (h.run F H σ δ _ S q).imp fun vs H1 h1 => ?_
    obtain ⟨F1, ds, δ1, e1, S1, r1, w, n, hi, q1⟩ := h1
    obtain ⟨v1, hv1, q2, x, y, z, rfl, hF, hw, hH, hp⟩ := S1.get i _ hi
    rw [hv0] at hv1
    cases hv1
    refine ⟨F1, some q0, _, _, _, S1.fh, .cons (show Arg X.K F1 H1 (some q0) (.u true n) (.ref q0) from ⟨rfl, q0, x, y, z, rfl, rfl, hF, hH, hp⟩) (paired_p (r1.append (hdd F1))), (fun p e => by cases e; exact ⟨⟨hF, _, hH⟩, _, List.mem_cons_self, rfl⟩), q1, fun v H' F' b m a r z => ?_, fun cls d H' F' C ds m a er z => z.elim⟩
    have S2 := S1.afterP hi hv0 a
    refine ⟨F', b, _, e1.trans a.ff, S2, ?_⟩
    cases b with
    | p d => exact ⟨r, (fun h => by cases h), z.2⟩
    | n ds =>
      obtain ⟨t, xs, e, h1, h2, h3⟩ := r
      exact ⟨⟨t, xs, e, h1, h2, fun c hc => ⟨(h3 c hc).1, S1.fresh0 (h3 c hc).2⟩⟩, (fun h => by cases h), z.2⟩
    | u w n => exact r.elim
    | s d => exact r.elim
    | o d =>
      obtain ⟨c, rfl, h1, h2, h3⟩ := r
      refine ⟨⟨c, rfl, h1, S1.fresh0 h2, h3⟩, fun _ j b' e1 e2 e3 => ?_, z.2⟩
      have hb' : ∃ b'', δ1[j]? = some (some b'') ∧ b''.own = true := by
        by_cases ej : j = i
        · subst ej
          exact ⟨_, hi, rfl⟩
        · rw [List.getElem?_set_ne (Ne.symm ej)] at e1
          exact ⟨b', e1, e2⟩
      obtain ⟨b'', e1, e2⟩ := hb'
      obtain ⟨u, h4, h5⟩ := S1.get j b'' e1
      rw [e3] at h4
      cases h4
      obtain ⟨a', o, e, h6, _⟩ := h5.there e2
      cases e
      rw [h2] at h6
      cases h6
end
end DD

set_option Elab.async false
set_option linter.all false
set_option maxRecDepth 100000
set_option maxHeartbeats 4000000
/-! DD6: operators over data. -/
namespace DD
open PySem PySem.Spec PyProof.Rows L2

mutual
def toPy : D → Option PyData
  | .non => some .none
  | .bl b => some (.bool b)
  | .int i => some (.int i)
  | .str s => some (.str s)
  | .lst ds => (toPyL ds).map .list
  | .tup ds => (toPyL ds).map .tuple
  | _ => none
def toPyL : List D → Option (List PyData)
  | [] => some []
  | d :: ds => (toPy d).bind fun x => (toPyL ds).map fun xs => x :: xs
end
section
variable {K : PySem.W.Frag} {F H : Hp}
theorem rpNon {v : V} (h : Rp K F .non v) : v = .non := by
  unfold Rp at h
  exact h
theorem rpBl {b : Bool} {v : V} (h : Rp K F (.bl b) v) : v = .bl b := by
  unfold Rp at h
  exact h
theorem rpStr {x : Str} {v : V} (h : Rp K F (.str x) v) : v = .str x := by
  unfold Rp at h
  exact h
theorem rpTy {x : String} {v : V} (h : Rp K F (.ty x) v) : v = .ty x := by
  unfold Rp at h
  exact h
theorem rpLst {ds : List D} {v : V} (h : Rp K F (.lst ds) v) : ∃ a xs, v = .ref a ∧ F a = some (.lst xs) ∧ RpL K F ds xs := by
  unfold Rp at h
  exact h
theorem rpTup {ds : List D} {v : V} (h : Rp K F (.tup ds) v) : ∃ a xs, v = .ref a ∧ SqT K F a xs ∧ RpL K F ds xs := by
  unfold Rp at h
  obtain ⟨a, xs, e, h1, h2⟩ := h
  exact ⟨a, xs, e, SqT.of h1, h2⟩
theorem rpTupS {ds : List D} {v : V} (h : Rp K F (.tup ds) v) : ∃ a xs, v = .ref a ∧ F a = some (.tup xs) ∧ RpL K F ds xs := by
  unfold Rp at h
  exact h
theorem rpCst {ds : List D} {v : V} (h : Rp K F (.cst ds) v) : ∃ a xs, v = .ref a ∧ SqT K F a xs ∧ RpL K F ds xs := by
  unfold Rp at h
  exact h
mutual
theorem Rp.dp (e : Same F H) : ∀ (d : D) (v : V) (c : PyData), Rp K F d v → toPy d = some c → Dp K H v c
  | .non, v, c, h, t => by
    rw [rpNon h]
    cases t
    exact .non
  | .bl b, v, c, h, t => by
    rw [rpBl h]
    cases t
    exact .bl b
  | .int i, v, c, h, t => by
    rw [rpInt h]
    cases t
    exact .int i
  | .str x, v, c, h, t => by
    rw [rpStr h]
    cases t
    exact .str x
  | .lst ds, v, c, h, t => by
    obtain ⟨a, xs, rfl, h1, h2⟩ := rpLst h
    unfold toPy at t
    cases q : toPyL ds with
    | none =>
      rw [q] at t
      cases t
    | some cs =>
      rw [q] at t
      cases t
      exact .lst (SqL.of (e _ _ h1)) (RpL.dp e ds xs cs h2 q)
  | .tup ds, v, c, h, t => by
    obtain ⟨a, xs, rfl, h1, h2⟩ := rpTup h
    unfold toPy at t
    cases q : toPyL ds with
    | none =>
      rw [q] at t
      cases t
    | some cs =>
      rw [q] at t
      cases t
      exact .tup (sqT_mono e h1) (RpL.dp e ds xs cs h2 q)
  | .ty _, _, _, _, t => by cases t
  | .ref _, _, _, _, t => by cases t
  | .dct _ _, _, _, _, t => by cases t
  | .ins _ _ _, _, _, _, t => by cases t
  | .iset _ _, _, _, _, t => by cases t
  | .exc _ _, _, _, _, t => by cases t
  | .scr _, _, _, _, t => by cases t
  | .cst _, _, _, _, t => by cases t
  | .dcT _ _, _, _, _, t => by cases t
theorem RpL.dp (e : Same F H) : ∀ (ds : List D) (vs : List V) (cs : List PyData), RpL K F ds vs → toPyL ds = some cs → DpAll K H vs cs
  | [], vs, cs, h, t => by
    unfold RpL at h
    rw [h]
    cases t
    exact .nil
  | d :: ds, vs, cs, h, t => by
    unfold RpL at h
    obtain ⟨x, r, rfl, h1, h2⟩ := h
    unfold toPyL at t
    cases q1 : toPy d with
    | none =>
      rw [q1] at t
      cases t
    | some c =>
      cases q2 : toPyL ds with
      | none =>
        rw [q1, q2] at t
        cases t
      | some cs' =>
        rw [q1, q2] at t
        cases t
        exact .cons (Rp.dp e d x c h1 q1) (RpL.dp e ds r cs' h2 q2)
end
end

/-! ### + -/
def rAddI : R2 := rI0 fun i j => .int (i + j)
def rAddS' : R2 := fun x y H Q => ∃ i j, x = .str i ∧ y = .str j ∧ i.length + j.length ≤ sizeLine ∧ Q (.str (i ++ j)) H
def rAddAll (K : PySem.W.Frag) : R2 := fun x y H Q => rAddI x y H Q ∨ rAddS' x y H Q ∨ rCat x y H Q ∨ rCatT K x y H Q
theorem op_addAll {X : Cx} : OpR X (binaryOp .Add) (rAddAll X.K) := by
  intro pins s σ H x y v u Q I rx ry h
  rcases h with h | h | h | h
  · exact op_add pins s σ H x y v u Q I rx ry h
  · exact op_add_str pins s σ H x y v u Q I rx ry h
  · exact op_cat pins s σ H x y v u Q I rx ry h
  · exact op_catT pins s σ H x y v u Q I rx ry h
def addG : D → D → (B → Prop) → Prop
  | .int i, .int j, Q => Q (.p (.int (i + j)))
  | .str a, .str b, Q => a.length + b.length ≤ sizeLine ∧ Q (.p (.str (a ++ b)))
  | .lst a, .lst b, Q => a.length + b.length ≤ sizeLine ∧ Q (.o (.lst (a ++ b)))
  | .cst a, .cst b, Q => a ≠ [] ∧ b ≠ [] ∧ a.length + b.length ≤ sizeLine ∧ Q (.p (.tup (a ++ b)))
  | .tup a, .cst b, Q => a ≠ [] ∧ b ≠ [] ∧ a.length + b.length ≤ sizeLine ∧ Q (.p (.tup (a ++ b)))
  | .tup a, .tup b, Q => a ≠ [] ∧ a.length + b.length ≤ sizeLine ∧ Q (.p (.tup (a ++ b)))
  | _, _, _ => False
theorem mkP {K : PySem.W.Frag} {W : Fix} {F H : Hp} {σ : L2.St} {δ : Env'} {Q : B → Prop} {d : D} {v : V} (S : SD K W F H σ δ) (r : Rp K F d v) (q : Q (.p d)) : DQ K W F σ (fun b δ' => δ' = δ ∧ Q b) v H := .mk S r ⟨rfl, q⟩
theorem rp_int {K : PySem.W.Frag} {F : Hp} {i : Int} : Rp K F (.int i) (.int i) := by
  unfold Rp
  rfl
theorem rp_bl {K : PySem.W.Frag} {F : Hp} {i : Bool} : Rp K F (.bl i) (.bl i) := by
  unfold Rp
  rfl
theorem rp_str {K : PySem.W.Frag} {F : Hp} {i : Str} : Rp K F (.str i) (.str i) := by
  unfold Rp
  rfl
theorem rp_non {K : PySem.W.Frag} {F : Hp} : Rp K F .non .non := by
  unfold Rp
  rfl
theorem rp_tupN {K : PySem.W.Frag} {F : Hp} {p : Addr} {xs : List V} {ds : List D} (r : RpL K F ds xs) (hp : F p = none) : Rp K (upd F p (.tup xs)) (.tup ds) (.ref p) := by
  unfold Rp
  exact ⟨p, xs, rfl, upd_same, RpL.mono (same_upd hp) _ _ r⟩
theorem rd_add {K : PySem.W.Frag} : RD K (rAddAll K) addG := by
  intro W F H σ δ x y c d Q Z S rc rd g hZ
  cases c with
  | int i =>
    cases d <;> first | exact g.elim | skip
    rename_i j
    exact .inl ⟨i, j, rpInt rc, rpInt rd, hZ _ _ (mkP S rp_int g)⟩
  | str a =>
    cases d <;> first | exact g.elim | skip
    rename_i b
    exact .inr (.inl ⟨a, b, rpStr rc, rpStr rd, g.1, hZ _ _ (mkP S rp_str g.2)⟩)
  | lst a =>
    cases d <;> first | exact g.elim | skip
    rename_i b
    obtain ⟨p, xs, rfl, h1, h2⟩ := rpLst rc
    obtain ⟨q, ys, rfl, h3, h4⟩ := rpLst rd
    refine .inr (.inr (.inl ⟨p, q, xs, ys, rfl, rfl, S.fh _ _ h1, S.fh _ _ h3, by rw [h2.length, h4.length]; exact g.1, fun r hr => hZ _ _ ?_⟩))
    exact DQ.mkO (Q := fun b δ' => δ' = δ ∧ Q b) (d := .lst (a ++ b)) S hr ⟨_, upd_same, h2.append h4⟩ ⟨rfl, g.2⟩
  | tup a =>
    cases d <;> first | exact g.elim | skip
    · rename_i b
      obtain ⟨p, xs, rfl, h1, h2⟩ := rpTup rc
      obtain ⟨q, ys, rfl, h3, h4⟩ := rpTup rd
      obtain ⟨g1, g2, g3⟩ := g
      have n1 : xs ≠ [] := fun z => g1 (List.length_eq_zero_iff.mp (by rw [← h2.length, z]; rfl))
      refine .inr (.inr (.inr ⟨p, q, xs, ys, rfl, rfl, sqT_mono S.fh h1, sqT_mono S.fh h3, n1, by rw [h2.length, h4.length]; exact g2, fun z => hZ _ _ ?_, fun z r hr => hZ _ _ ?_⟩))
      · have e : b = [] := List.length_eq_zero_iff.mp (by rw [← h4.length, z]; rfl)
        subst e
        rw [List.append_nil] at g3
        exact mkP S rc g3
      · exact DQ.mkN (Q := fun b δ' => δ' = δ ∧ Q b) S hr (rp_tupN (h2.append h4) (S.freshF hr)) ⟨rfl, g3⟩
    · rename_i b
      obtain ⟨p, xs, rfl, h1, h2⟩ := rpTup rc
      obtain ⟨q, ys, rfl, h3, h4⟩ := rpCst rd
      obtain ⟨g1, g0, g2, g3⟩ := g
      have n1 : xs ≠ [] := fun z => g1 (List.length_eq_zero_iff.mp (by rw [← h2.length, z]; rfl))
      have n2 : ys ≠ [] := fun z => g0 (List.length_eq_zero_iff.mp (by rw [← h4.length, z]; rfl))
      exact .inr (.inr (.inr ⟨p, q, xs, ys, rfl, rfl, sqT_mono S.fh h1, sqT_mono S.fh h3, n1, by rw [h2.length, h4.length]; exact g2, fun z => absurd z n2, fun z r hr => hZ _ _ (DQ.mkN (Q := fun b δ' => δ' = δ ∧ Q b) S hr (rp_tupN (h2.append h4) (S.freshF hr)) ⟨rfl, g3⟩)⟩))
  | cst a =>
    cases d <;> first | exact g.elim | skip
    rename_i b
    obtain ⟨p, xs, rfl, h1, h2⟩ := rpCst rc
    obtain ⟨q, ys, rfl, h3, h4⟩ := rpCst rd
    obtain ⟨g1, g0, g2, g3⟩ := g
    have n1 : xs ≠ [] := fun z => g1 (List.length_eq_zero_iff.mp (by rw [← h2.length, z]; rfl))
    have n2 : ys ≠ [] := fun z => g0 (List.length_eq_zero_iff.mp (by rw [← h4.length, z]; rfl))
    exact .inr (.inr (.inr ⟨p, q, xs, ys, rfl, rfl, sqT_mono S.fh h1, sqT_mono S.fh h3, n1, by rw [h2.length, h4.length]; exact g2, fun z => absurd z n2, fun z r hr => hZ _ _ (DQ.mkN (Q := fun b δ' => δ' = δ ∧ Q b) S hr (rp_tupN (h2.append h4) (S.freshF hr)) ⟨rfl, g3⟩)⟩))
  | _ => exact g.elim

/-! ### -, *, //, %, ** of ints -/
def intG (C : Int → Int → Prop) (f : Int → Int → D) : D → D → (B → Prop) → Prop
  | .int i, .int j, Q => C i j ∧ Q (.p (f i j))
  | _, _, _ => False
theorem rd_intI {K : PySem.W.Frag} {C : Int → Int → Prop} {f : Int → Int → Int} : RD K (rI C fun i j => .int (f i j)) (intG C fun i j => .int (f i j)) := by
  intro W F H σ δ x y c d Q Z S rc rd g hZ
  cases c <;> first | exact g.elim | skip
  cases d <;> first | exact g.elim | skip
  rename_i i j
  exact ⟨i, j, rpInt rc, rpInt rd, g.1, hZ _ _ (mkP S rp_int g.2)⟩
def intG0 (f : Int → Int → D) : D → D → (B → Prop) → Prop
  | .int i, .int j, Q => Q (.p (f i j))
  | _, _, _ => False
theorem rd_intI0 {K : PySem.W.Frag} {f : Int → Int → Int} : RD K (rI0 fun i j => .int (f i j)) (intG0 fun i j => .int (f i j)) := by
  intro W F H σ δ x y c d Q Z S rc rd g hZ
  cases c <;> first | exact g.elim | skip
  cases d <;> first | exact g.elim | skip
  rename_i i j
  exact ⟨i, j, rpInt rc, rpInt rd, hZ _ _ (mkP S rp_int g)⟩
theorem rd_intB0 {K : PySem.W.Frag} {f : Int → Int → Bool} : RD K (rI0 fun i j => .bl (f i j)) (intG0 fun i j => .bl (f i j)) := by
  intro W F H σ δ x y c d Q Z S rc rd g hZ
  cases c <;> first | exact g.elim | skip
  cases d <;> first | exact g.elim | skip
  rename_i i j
  exact ⟨i, j, rpInt rc, rpInt rd, hZ _ _ (mkP S rp_bl g)⟩
abbrev subG := intG0 fun i j => .int (i - j)
abbrev fdivG := intG CDivW fun i j => .int (i / j)
abbrev modG := intG (fun _ j => 0 < j) fun i j => .int (i % j)
def CPowW (i j : Int) : Prop := 0 ≤ j ∧ (Builtin.Int.intBits i : Int) * j ≤ 2 ^ 27
theorem op_powW {X : Cx} : OpR X (binaryOp .Pow) (rI CPowW fun i j => .int (i ^ j.toNat)) := opI fun i j t u s Q E hc q => PyProof.Rows.pow_int hc.1 hc.2 q
abbrev powG := intG CPowW fun i j => .int (i ^ j.toNat)
abbrev ltG := intG0 fun i j => .bl (decide (i < j))
abbrev leG := intG0 fun i j => .bl (decide (i ≤ j))
abbrev gtG := intG0 fun i j => .bl (decide (j < i))
abbrev geG := intG0 fun i j => .bl (decide (j ≤ i))
/-- * : ints, a text or a list so many times -/
def rMulS : R2 := fun x y H Q => ∃ (a : Str) (n : Int), x = .str a ∧ y = .int n ∧ MulOk a n ∧ Q (.str (Txt.mul a n)) H
theorem op_mulS {X : Cx} : OpR X (binaryOp .Mult) rMulS := by
  intro pins s σ H x y v u Q I rx ry h
  obtain ⟨a, n, rfl, rfl, hok, q⟩ := h
  obtain ⟨t, rfl⟩ := rx
  obtain ⟨t', rfl⟩ := ry
  exact SB.mul hok fun t2 k => ⟨.str _, H, I.tok k, ⟨t2, rfl⟩, q⟩
def rMulAll : R2 := fun x y H Q => rI CMulW (fun i j => .int (i * j)) x y H Q ∨ rMulS x y H Q ∨ rRep x y H Q
theorem op_mulAll {X : Cx} : OpR X (binaryOp .Mult) rMulAll := by
  intro pins s σ H x y v u Q I rx ry h
  rcases h with h | h | h
  · exact op_mulW pins s σ H x y v u Q I rx ry h
  · exact op_mulS pins s σ H x y v u Q I rx ry h
  · exact op_rep pins s σ H x y v u Q I rx ry h
def repeatL (k : Nat) (ds : List D) : List D := (List.replicate k ds).flatten
def mulG : D → D → (B → Prop) → Prop
  | .int i, .int j, Q => CMulW i j ∧ Q (.p (.int (i * j)))
  | .str a, .int n, Q => MulOk a n ∧ Q (.p (.str (Txt.mul a n)))
  | .lst a, .int n, Q => (-(2 ^ 63) ≤ n ∧ n < 2 ^ 63 ∧ a.length * n.toNat ≤ sizeLine) ∧ Q (.o (.lst (repeatL n.toNat a)))
  | _, _, _ => False
theorem RpL.rep {K : PySem.W.Frag} {F : Hp} {ds : List D} {xs : List V} (h : RpL K F ds xs) : ∀ n : Nat, RpL K F (repeatL n ds) (List.replicate n xs).flatten
  | 0 => by
    unfold repeatL
    exact .nil
  | n + 1 => by
    unfold repeatL
    rw [List.replicate_succ, List.replicate_succ, List.flatten_cons, List.flatten_cons]
    exact h.append (RpL.rep h n)
theorem rd_mul {K : PySem.W.Frag} : RD K rMulAll mulG := by
  intro W F H σ δ x y c d Q Z S rc rd g hZ
  cases c with
  | int i =>
    cases d <;> first | exact g.elim | skip
    rename_i j
    exact .inl ⟨i, j, rpInt rc, rpInt rd, g.1, hZ _ _ (mkP S rp_int g.2)⟩
  | str a =>
    cases d <;> first | exact g.elim | skip
    rename_i n
    exact .inr (.inl ⟨a, n, rpStr rc, rpInt rd, g.1, hZ _ _ (mkP S rp_str g.2)⟩)
  | lst a =>
    cases d <;> first | exact g.elim | skip
    rename_i n
    obtain ⟨p, xs, rfl, h1, h2⟩ := rpLst rc
    obtain ⟨⟨g1, g2, g3⟩, g4⟩ := g
    refine .inr (.inr ⟨p, n, xs, rfl, rpInt rd, S.fh _ _ h1, g1, g2, by rw [h2.length]; exact g3, fun r hr => hZ _ _ ?_⟩)
    exact DQ.mkO (Q := fun b δ' => δ' = δ ∧ Q b) (d := .lst (repeatL n.toNat a)) S hr ⟨_, upd_same, h2.rep _⟩ ⟨rfl, g4⟩
  | _ => exact g.elim

/-! ### ==, != -/
/-- flat data -/
def flatD : D → Bool
  | .non => true
  | .bl _ => true
  | .int _ => true
  | .str _ => true
  | _ => false
def flatV' : D → V
  | .non => .non
  | .bl b => .bl b
  | .int i => .int i
  | .str s => .str s
  | _ => .non
theorem rpFlat {K : PySem.W.Frag} {F : Hp} {d : D} {v : V} (h : Rp K F d v) (f : flatD d = true) : v = flatV' d ∧ flatV v = true := by
  cases d <;> first | cases f | skip
  · rw [rpNon h]
    exact ⟨rfl, rfl⟩
  · rw [rpBl h]
    exact ⟨rfl, rfl⟩
  · rw [rpInt h]
    exact ⟨rfl, rfl⟩
  · rw [rpStr h]
    exact ⟨rfl, rfl⟩
/-- == of data: none where it isn't told -/
def eqD (x y : D) : Option Bool := if (flatD x && flatD y && scal (flatV' x) (flatV' y)) = true then some (decide (flatV' x = flatV' y)) else
  (toPy x).bind fun c => (toPy y).bind fun d => if (SeqAt.shaped c && SeqAt.shaped d) = true then some (PyData.eqv c d) else none
def rEqAll (K : PySem.W.Frag) : R2 := fun x y H Q => rEq x y H Q ∨ rEqD K x y H Q
def rNeAll (K : PySem.W.Frag) : R2 := fun x y H Q => rNe x y H Q ∨ rNeD K x y H Q
theorem op_eqAll {X : Cx} (hu : X.A.units + 64 < cLine) : OpR X (compareOp .Eq) (rEqAll X.K) := by
  intro pins s σ H x y v u Q I rx ry h
  rcases h with h | h
  · exact op_eq pins s σ H x y v u Q I rx ry h
  · exact op_eqD hu pins s σ H x y v u Q I rx ry h
theorem op_neAll {X : Cx} (hu : X.A.units + 64 < cLine) : OpR X (compareOp .NotEq) (rNeAll X.K) := by
  intro pins s σ H x y v u Q I rx ry h
  rcases h with h | h
  · exact op_ne pins s σ H x y v u Q I rx ry h
  · exact op_neD hu pins s σ H x y v u Q I rx ry h
def eqG : D → D → (B → Prop) → Prop := fun x y Q => ∃ b, eqD x y = some b ∧ Q (.p (.bl b))
def neG : D → D → (B → Prop) → Prop := fun x y Q => ∃ b, eqD x y = some b ∧ Q (.p (.bl (!b)))
theorem eqD_cases {x y : D} {b : Bool} (h : eqD x y = some b) : (flatD x = true ∧ flatD y = true ∧ scal (flatV' x) (flatV' y) = true ∧ b = decide (flatV' x = flatV' y)) ∨
    ∃ c d, toPy x = some c ∧ toPy y = some d ∧ SeqAt.shaped c = true ∧ SeqAt.shaped d = true ∧ b = PyData.eqv c d := by
  unfold eqD at h
  split at h
  · rename_i z
    rw [Bool.and_eq_true, Bool.and_eq_true] at z
    exact .inl ⟨z.1.1, z.1.2, z.2, (Option.some.inj h).symm⟩
  · cases q1 : toPy x with
    | none =>
      rw [q1] at h
      cases h
    | some c =>
      cases q2 : toPy y with
      | none =>
        rw [q1, q2] at h
        cases h
      | some d =>
        rw [q1, q2] at h
        simp only [Option.bind_some] at h
        split at h
        · rename_i z
          rw [Bool.and_eq_true] at z
          exact .inr ⟨c, d, rfl, rfl, z.1, z.2, (Option.some.inj h).symm⟩
        · cases h
theorem rd_eq {K : PySem.W.Frag} : RD K (rEqAll K) eqG := by
  intro W F H σ δ x y c d Q Z S rc rd g hZ
  obtain ⟨b, hb, q⟩ := g
  rcases eqD_cases hb with ⟨f1, f2, sc, rfl⟩ | ⟨c', d', t1, t2, s1, s2, rfl⟩
  · obtain ⟨e1, _⟩ := rpFlat rc f1
    obtain ⟨e2, _⟩ := rpFlat rd f2
    rw [e1, e2]
    exact .inl ⟨sc, hZ _ _ (mkP S rp_bl q)⟩
  · exact .inr ⟨c', d', Rp.dp S.fh c x c' rc t1, Rp.dp S.fh d y d' rd t2, s1, s2, hZ _ _ (mkP S rp_bl q)⟩
theorem rd_ne {K : PySem.W.Frag} : RD K (rNeAll K) neG := by
  intro W F H σ δ x y c d Q Z S rc rd g hZ
  obtain ⟨b, hb, q⟩ := g
  rcases eqD_cases hb with ⟨f1, f2, sc, rfl⟩ | ⟨c', d', t1, t2, s1, s2, rfl⟩
  · obtain ⟨e1, _⟩ := rpFlat rc f1
    obtain ⟨e2, _⟩ := rpFlat rd f2
    rw [e1, e2]
    exact .inl ⟨sc, hZ _ _ (mkP S rp_bl q)⟩
  · exact .inr ⟨c', d', Rp.dp S.fh c x c' rc t1, Rp.dp S.fh d y d' rd t2, s1, s2, hZ _ _ (mkP S rp_bl q)⟩

/-! ### is None, is not None -/
def isNon : D → Bool
  | .non => true
  | _ => false
theorem rp_isNon {K : PySem.W.Frag} {F : Hp} {d : D} {v : V} (h : Rp K F d v) : decide (v = .non) = isNon d := by
  cases d with
  | non => rw [rpNon h]; rfl
  | bl b => rw [rpBl h]; rfl
  | int b => rw [rpInt h]; rfl
  | str b => rw [rpStr h]; rfl
  | ty b => rw [rpTy h]; rfl
  | ref b =>
    unfold Rp at h
    rw [h]
    rfl
  | lst ds => obtain ⟨a, _, rfl, _⟩ := rpLst h; rfl
  | tup ds => obtain ⟨a, _, rfl, _⟩ := rpTup h; rfl
  | dct ks ds =>
    unfold Rp at h
    obtain ⟨a, _, rfl, _⟩ := h
    rfl
  | ins C ns ds =>
    unfold Rp at h
    obtain ⟨a, _, _, rfl, _⟩ := h
    rfl
  | iset S n =>
    unfold Rp at h
    obtain ⟨a, rfl, _⟩ := h
    rfl
  | exc C ds =>
    unfold Rp at h
    obtain ⟨a, _, _, _, rfl, _⟩ := h
    rfl
  | scr ns =>
    unfold Rp at h
    obtain ⟨a, rfl, _⟩ := h
    rfl
  | cst ds => obtain ⟨a, _, rfl, _⟩ := rpCst h; rfl
  | dcT ks ds =>
    unfold Rp at h
    obtain ⟨a, _, rfl, _⟩ := h
    rfl
def isNG : D → D → (B → Prop) → Prop
  | x, .non, Q => Q (.p (.bl (isNon x)))
  | _, _, _ => False
def notNG : D → D → (B → Prop) → Prop
  | x, .non, Q => Q (.p (.bl (!isNon x)))
  | _, _, _ => False
theorem rd_isN {K : PySem.W.Frag} : RD K (fun x y H Q => y = .non ∧ Q (.bl (decide (x = .non))) H) isNG := by
  intro W F H σ δ x y c d Q Z S rc rd g hZ
  cases d <;> first | exact g.elim | skip
  rw [rp_isNon rc]
  exact ⟨rpNon rd, hZ _ _ (mkP S rp_bl g)⟩
theorem rd_notN {K : PySem.W.Frag} : RD K (fun x y H Q => y = .non ∧ Q (.bl (!decide (x = .non))) H) notNG := by
  intro W F H σ δ x y c d Q Z S rc rd g hZ
  cases d <;> first | exact g.elim | skip
  rw [rp_isNon rc]
  exact ⟨rpNon rd, hZ _ _ (mkP S rp_bl g)⟩

/-! ### in, not in -/
def inD (x : D) (ds : List D) : Bool := inV (flatV' x) (ds.map flatV')
/-- a sign in a text -/
def signOf : D → Option Nat
  | .str s => if s.cps.size = 1 then s.cps[0]? else none
  | _ => none
def isIn (x : D) : D → Option Bool
  | .lst ds => if (flatD x && ds.all flatD) = true then some (inD x ds) else none
  | .tup ds => if (flatD x && ds.all flatD) = true then some (inD x ds) else none
  | .cst ds => if (flatD x && ds.all flatD) = true then some (inD x ds) else none
  | .str z => (signOf x).map fun c => decide (c ∈ z.cps.toList)
  | .iset S _ => match x with
    | .int i => some (S i)
    | _ => none
  | _ => none
def rInSg (neg : Bool) : R2 := fun x y H Q => ∃ (c : Nat) (z : Str), x = .str ⟨#[c]⟩ ∧ y = .str z ∧ Q (.bl (if neg then !decide (c ∈ z.cps.toList) else decide (c ∈ z.cps.toList))) H
def rInSet (neg : Bool) : R2 := fun x y H Q => ∃ (i : Int) (a : Addr) (S : Int → Bool) (n : Nat), x = .int i ∧ y = .ref a ∧ H a = some (.set S n) ∧ Q (.bl (if neg then !S i else S i)) H
def rInAll (K : PySem.W.Frag) (neg : Bool) : R2 := fun x y H Q => rIn K neg x y H Q ∨ rInSg neg x y H Q ∨ rInSet neg x y H Q
def inG (neg : Bool) : D → D → (B → Prop) → Prop := fun x y Q => ∃ b, isIn x y = some b ∧ Q (.p (.bl (if neg then !b else b)))
theorem rpL_flat {K : PySem.W.Frag} {F : Hp} : ∀ {ds : List D} {xs : List V}, RpL K F ds xs → ds.all flatD = true → xs = ds.map flatV' ∧ xs.all flatV = true
  | [], xs, h, _ => by
    unfold RpL at h
    rw [h]
    exact ⟨rfl, rfl⟩
  | d :: ds, xs, h, f => by
    unfold RpL at h
    obtain ⟨x, r, rfl, h1, h2⟩ := h
    rw [List.all_cons, Bool.and_eq_true] at f
    obtain ⟨e1, e2⟩ := rpFlat h1 f.1
    obtain ⟨e3, e4⟩ := rpL_flat h2 f.2
    rw [List.map_cons, ← e1, ← e3, List.all_cons, e2, e4]
    exact ⟨rfl, rfl⟩
theorem sign_of {d : D} {c : Nat} (h : signOf d = some c) : d = .str ⟨#[c]⟩ := by
  cases d <;> first | (cases h; done) | skip
  rename_i s
  change (if s.cps.size = 1 then s.cps[0]? else none) = some c at h
  by_cases h1 : s.cps.size = 1
  · rw [if_pos h1] at h
    cases s with
    | mk cps =>
      have h1 : cps.size = 1 := h1
      have h : cps[0]? = some c := h
      have e : cps = #[c] := by
        apply Array.ext
        · rw [h1]; rfl
        · intro i i1 i2
          have : i = 0 := by omega
          subst this
          rw [Array.getElem?_eq_getElem i1] at h
          exact Option.some.inj h
      rw [e]
  · rw [if_neg h1] at h
    cases h
theorem rd_in {K : PySem.W.Frag} {neg : Bool} : RD K (rInAll K neg) (inG neg) := by
  intro W F H σ δ x y c d Q Z S rc rd g hZ
  obtain ⟨b, hb, q⟩ := g
  cases d <;> first | (cases hb; done) | skip
  · rename_i z
    change (signOf c).map (fun c => decide (c ∈ z.cps.toList)) = some b at hb
    cases hs : signOf c with
    | none =>
      rw [hs] at hb
      cases hb
    | some n =>
      rw [hs] at hb
      cases hb
      have rc' := rpStr (sign_of hs ▸ rc)
      exact .inr (.inl ⟨n, z, rc', rpStr rd, hZ _ _ (mkP S rp_bl q)⟩)
  · rename_i ds
    change (if (flatD c && ds.all flatD) = true then some (inD c ds) else none) = some b at hb
    by_cases h1 : (flatD c && ds.all flatD) = true
    · rw [if_pos h1] at hb
      cases hb
      rw [Bool.and_eq_true] at h1
      obtain ⟨p, xs, rfl, h2, h3⟩ := rpLst rd
      obtain ⟨e1, e2⟩ := rpFlat rc h1.1
      obtain ⟨e3, e4⟩ := rpL_flat h3 h1.2
      refine .inl ⟨p, xs, rfl, .inl (SqL.of (S.fh _ _ h2)), e2, e4, hZ _ _ (mkP (d := .bl _) S rp_bl ?_)⟩
      rw [e1, e3]
      exact q
    · rw [if_neg h1] at hb
      cases hb
  · rename_i ds
    change (if (flatD c && ds.all flatD) = true then some (inD c ds) else none) = some b at hb
    by_cases h1 : (flatD c && ds.all flatD) = true
    · rw [if_pos h1] at hb
      cases hb
      rw [Bool.and_eq_true] at h1
      obtain ⟨p, xs, rfl, h2, h3⟩ := rpTup rd
      obtain ⟨e1, e2⟩ := rpFlat rc h1.1
      obtain ⟨e3, e4⟩ := rpL_flat h3 h1.2
      refine .inl ⟨p, xs, rfl, .inr (sqT_mono S.fh h2), e2, e4, hZ _ _ (mkP (d := .bl _) S rp_bl ?_)⟩
      rw [e1, e3]
      exact q
    · rw [if_neg h1] at hb
      cases hb
  · rename_i Sx n
    cases c <;> first | (cases hb; done) | skip
    cases hb
    unfold Rp at rd
    obtain ⟨a, rfl, h1⟩ := rd
    exact .inr (.inr ⟨_, a, _, _, rpInt rc, rfl, S.fh _ _ h1, hZ _ _ (mkP S rp_bl q)⟩)
  · rename_i ds
    change (if (flatD c && ds.all flatD) = true then some (inD c ds) else none) = some b at hb
    by_cases h1 : (flatD c && ds.all flatD) = true
    · rw [if_pos h1] at hb
      cases hb
      rw [Bool.and_eq_true] at h1
      obtain ⟨p, xs, rfl, h2, h3⟩ := rpCst rd
      obtain ⟨e1, e2⟩ := rpFlat rc h1.1
      obtain ⟨e3, e4⟩ := rpL_flat h3 h1.2
      refine .inl ⟨p, xs, rfl, .inr (sqT_mono S.fh h2), e2, e4, hZ _ _ (mkP (d := .bl _) S rp_bl ?_)⟩
      rw [e1, e3]
      exact q
    · rw [if_neg h1] at hb
      cases hb
theorem op_inAll {X : Cx} : OpR X (compareOp .In) (rInAll X.K false) := by
  intro pins s σ H x y v u Q I rx ry h
  rcases h with h | h | h
  · exact op_in_seq pins s σ H x y v u Q I rx ry h
  · exact op_in_sign pins s σ H x y v u Q I rx ry h
  · obtain ⟨i, a, S, n, rfl, rfl, h1, q⟩ := h
    obtain ⟨t, rfl⟩ := rx
    cases ry
    exact wpAny_inSet_of (intKind_is _ _ _ _) rfl (show s.heap.SetOf (intKind X.prog X.w) a S n from I.hok a _ h1) ⟨.bl (S i), H, I.tok _, rfl, q⟩
theorem op_notInAll {X : Cx} : OpR X (compareOp .NotIn) (rInAll X.K true) := by
  intro pins s σ H x y v u Q I rx ry h
  rcases h with h | h | h
  · exact op_notIn_seq pins s σ H x y v u Q I rx ry h
  · exact op_notIn_sign pins s σ H x y v u Q I rx ry h
  · obtain ⟨i, a, S, n, rfl, rfl, h1, q⟩ := h
    obtain ⟨t, rfl⟩ := rx
    cases ry
    exact wpAny_notInSet_of (intKind_is _ _ _ _) rfl (show s.heap.SetOf (intKind X.prog X.w) a S n from I.hok a _ h1) ⟨.bl (!S i), H, I.tok _, rfl, q⟩
end DD

set_option Elab.async false
set_option linter.all false
set_option maxRecDepth 100000
set_option maxHeartbeats 4000000
/-! DD7: built-in functions, subscripts, slices, methods of texts and lists, over data. -/
namespace DD
open PySem PySem.Spec PyProof.Rows L2

/-! ### calls of built-ins -/
def RC (K : PySem.W.Frag) (r : List V → Hp → VK → Prop) (g : List D → (B → Prop) → Prop) : Prop :=
  ∀ (W : Fix) (F H : Hp) (σ : L2.St) (δ : Env') (xs : List V) (ds : List D) (Q : B → Prop) (Z : VK), SD K W F H σ δ → RpL K F ds xs → g ds Q →
    (∀ v H', DQ K W F σ (fun b δ' => δ' = δ ∧ Q b) v H' → Z v H') → r xs H Z
def dCB (g : List D → (B → Prop) → Prop) (t : TDA) : TD := fun δ Q => t δ fun ds δ1 => g ds fun b => Q b δ1
section
variable {X : Cx} {W : Fix} {x : Str} {p pos : Pos} {e : Expr} {es : List Expr} {t : TDA} {id T : String} {r : List V → Hp → VK → Prop} {g : List D → (B → Prop) → Prop}
theorem de_callB (hc : CallR X (.builtin id) r) (hr : RC X.K r g) (hg : Gl X x) (hm : X.mg x = none) (hv : bootBuiltins x = some (.builtin id)) (h : DA X W (e :: es) t) (hn : x ≠ "__name__" := by decide) (hdb : (x == ("__debug__" : Str)) = false := by decide)
    (he : starEach (e :: es) X.env = (false, eval e X.env) :: starEach es X.env := by rfl) (hpl : (backTo pos (starEach es X.env)).any (·.1) = false := by rfl) : DE X W (.Call (.Name x p) (e :: es) [] pos) (dCB g t) :=
  .of (pe_callB (X := X) hc hg hm hv cA_pa hn hdb he hpl) fun F H σ δ Q S q => by
    refine (h.run F H σ δ _ S q).imp fun vs H1 h1 => ?_
    obtain ⟨F1, ds, δ1, e1, S1, r1, q1⟩ := h1
    exact hr W F1 H1 σ δ1 vs ds _ _ S1 r1 q1 fun v H' h => h.fix e1
theorem de_callTy (hc : CallR X (.type T) r) (hr : RC X.K r g) (hg : Gl X x) (hm : X.mg x = none) (hv : bootBuiltins x = some (.type T)) (h : DA X W (e :: es) t) (hn : x ≠ "__name__" := by decide) (hdb : (x == ("__debug__" : Str)) = false := by decide)
    (he : starEach (e :: es) X.env = (false, eval e X.env) :: starEach es X.env := by rfl) (hpl : (backTo pos (starEach es X.env)).any (·.1) = false := by rfl) : DE X W (.Call (.Name x p) (e :: es) [] pos) (dCB g t) :=
  .of (pe_callTy (X := X) hc hg hm hv cA_pa hn hdb he hpl) fun F H σ δ Q S q => by
    refine (h.run F H σ δ _ S q).imp fun vs H1 h1 => ?_
    obtain ⟨F1, ds, δ1, e1, S1, r1, q1⟩ := h1
    exact hr W F1 H1 σ δ1 vs ds _ _ S1 r1 q1 fun v H' h => h.fix e1
end

/-! ### len -/
def lenD : D → Option Nat
  | .lst ds => some ds.length
  | .tup ds => some ds.length
  | .str s => if s.length ≤ sizeLine then some s.length else none
  | .scr ns => some ns.length
  | .cst ds => some ds.length
  | _ => none
def rLenAll (K : PySem.W.Frag) : List V → Hp → VK → Prop := fun xs H Q => (∃ p ys, xs = [.ref p] ∧ (SqL K H p ys ∨ SqT K H p ys) ∧ Q (.int ys.length) H) ∨ ∃ z, xs = [.str z] ∧ z.length ≤ sizeLine ∧ Q (.int z.length) H
theorem cr_lenAll {X : Cx} : CallR X (.builtin "len") (rLenAll X.K) := by
  intro pins s σ H xs us Q I r h
  rcases h with h | h
  · exact call_len_seq pins s σ H xs us Q I r h
  · exact call_len_str pins s σ H xs us Q I r h
def lenG : List D → (B → Prop) → Prop := fun ds Q => ∃ d n, ds = [d] ∧ lenD d = some n ∧ Q (.p (.int (n : Nat)))
theorem rc_len {K : PySem.W.Frag} : RC K (rLenAll K) lenG := by
  intro W F H σ δ xs ds Q Z S r g hZ
  obtain ⟨d, n, rfl, hn, q⟩ := g
  obtain ⟨v, rfl, rv⟩ := rpL1 r
  cases d <;> first | (cases hn; done) | skip
  · rename_i s
    change (if s.length ≤ sizeLine then some s.length else none) = some n at hn
    by_cases hz : s.length ≤ sizeLine
    · rw [if_pos hz] at hn
      cases hn
      exact .inr ⟨s, by rw [rpStr rv], hz, hZ _ _ (mkP S rp_int q)⟩
    · rw [if_neg hz] at hn
      cases hn
  · cases hn
    obtain ⟨a, ys, rfl, h1, h2⟩ := rpLst rv
    refine .inl ⟨a, ys, rfl, .inl (SqL.of (S.fh _ _ h1)), hZ _ _ (mkP (d := .int _) S rp_int ?_)⟩
    rw [h2.length]
    exact q
  · cases hn
    obtain ⟨a, ys, rfl, h1, h2⟩ := rpTup rv
    refine .inl ⟨a, ys, rfl, .inr (sqT_mono S.fh h1), hZ _ _ (mkP (d := .int _) S rp_int ?_)⟩
    rw [h2.length]
    exact q
  · cases hn
    unfold Rp at rv
    obtain ⟨a, rfl, h1⟩ := rv
    refine .inl ⟨a, _, rfl, .inl (S.fh.seq h1.seq), hZ _ _ (mkP (d := .int _) S rp_int ?_)⟩
    rw [List.length_map]
    exact q
  · cases hn
    obtain ⟨a, ys, rfl, h1, h2⟩ := rpCst rv
    refine .inl ⟨a, ys, rfl, .inr (sqT_mono S.fh h1), hZ _ _ (mkP (d := .int _) S rp_int ?_)⟩
    rw [h2.length]
    exact q

/-! ### isinstance(x, T), T one class -/
def tyD : D → Option String
  | .non => some "NoneType"
  | .bl _ => some "bool"
  | .int _ => some "int"
  | .str _ => some "str"
  | .lst _ => some "list"
  | .tup _ => some "tuple"
  | .dct _ _ => some "dict"
  | .iset _ _ => some "set"
  | .cst _ => some "tuple"
  | _ => none
def clsD : D → Option Value
  | .ty n => some (.type n)
  | .ref a => some (.ref a)
  | _ => none
def isiG (K : PySem.W.Frag) : List D → (B → Prop) → Prop := fun ds Q => ∃ x c t u b, ds = [x, c] ∧ tyD x = some t ∧ clsD c = some u ∧ PySem.W.kitOne K (.type t) u = some b ∧ Q (.p (.bl b))
theorem rp_tyX {K : PySem.W.Frag} {F H : Hp} (e : Same F H) {d : D} {v : V} {t : String} (r : Rp K F d v) (h : tyD d = some t) : TyX K H v (.type t) := by
  cases d <;> first | (cases h; done) | skip
  · cases h
    rw [rpNon r]
    exact .base .non
  · cases h
    rw [rpBl r]
    exact .base (.bl _)
  · cases h
    rw [rpInt r]
    exact .base (.int _)
  · cases h
    rw [rpStr r]
    exact .base (.str _)
  · cases h
    obtain ⟨a, xs, rfl, h1, _⟩ := rpLst r
    exact .base (.lst (e _ _ h1))
  · cases h
    obtain ⟨a, xs, rfl, h1, _⟩ := rpTup r
    rcases sqT_mono e h1 with (h2 | ⟨o, h2⟩) | ⟨o, its, n, h2, h3, _⟩
    · exact .base (.tup h2)
    · exact .fTuple h2
    · exact .kTuple h2 h3
  · cases h
    unfold Rp at r
    obtain ⟨a, xs, rfl, h1, _⟩ := r
    exact .base (.dK (e _ _ h1))
  · cases h
    unfold Rp at r
    obtain ⟨a, rfl, h1⟩ := r
    exact .set (e _ _ h1)
  · cases h
    obtain ⟨a, xs, rfl, h1, _⟩ := rpCst r
    rcases sqT_mono e h1 with (h2 | ⟨o, h2⟩) | ⟨o, its, n, h2, h3, _⟩
    · exact .base (.tup h2)
    · exact .fTuple h2
    · exact .kTuple h2 h3
theorem rc_isi {K : PySem.W.Frag} : RC K (rIsi K) (isiG K) := by
  intro W F H σ δ xs ds Q Z S r g hZ
  obtain ⟨x, c, t, u, b, rfl, h1, h2, h3, q⟩ := g
  obtain ⟨v, w, rfl, rv, rw'⟩ := rpL2 r
  have hc : ClsV w u := by
    cases c <;> first | (cases h2; done) | skip
    · cases h2
      rw [rpTy rw']
      exact .ty _
    · cases h2
      unfold Rp at rw'
      rw [rw']
      exact .own _
  exact ⟨v, w, _, u, b, rfl, hc, rp_tyX S.fh rv h1, h3, hZ _ _ (mkP S rp_bl q)⟩

/-! ### int(x), max(a, b), str(text), list(x), tuple(x) -/
def intOf : D → Option Int
  | .int i => some i
  | .bl k => some (if k then 1 else 0)
  | _ => none
def intCG : List D → (B → Prop) → Prop := fun ds Q => ∃ d i, ds = [d] ∧ intOf d = some i ∧ Q (.p (.int i))
theorem rc_int {K : PySem.W.Frag} : RC K (fun xs H Q => (∃ i, xs = [.int i] ∧ Q (.int i) H) ∨ ∃ k, xs = [.bl k] ∧ Q (.int (if k then 1 else 0)) H) intCG := by
  intro W F H σ δ xs ds Q Z S r g hZ
  obtain ⟨d, i, rfl, h1, q⟩ := g
  obtain ⟨v, rfl, rv⟩ := rpL1 r
  cases d <;> first | (cases h1; done) | skip
  · cases h1
    exact .inr ⟨_, by rw [rpBl rv], hZ _ _ (mkP S rp_int q)⟩
  · cases h1
    exact .inl ⟨_, by rw [rpInt rv], hZ _ _ (mkP S rp_int q)⟩
def maxG : List D → (B → Prop) → Prop := fun ds Q => ∃ i j : Int, ds = [.int i, .int j] ∧ Q (.p (.int (if j > i then j else i)))
theorem rc_max {K : PySem.W.Frag} : RC K (fun xs H Q => ∃ i j, xs = [.int i, .int j] ∧ Q (.int (if j > i then j else i)) H) maxG := by
  intro W F H σ δ xs ds Q Z S r g hZ
  obtain ⟨i, j, rfl, q⟩ := g
  obtain ⟨v, w, rfl, rv, rw'⟩ := rpL2 r
  exact ⟨i, j, by rw [rpInt rv, rpInt rw'], hZ _ _ (mkP S rp_int q)⟩
def strG : List D → (B → Prop) → Prop := fun ds Q => ∃ s : Str, ds = [.str s] ∧ Q (.p (.str s))
theorem rc_str {K : PySem.W.Frag} : RC K (fun xs H Q => ∃ a, xs = [.str a] ∧ Q (.str a) H) strG := by
  intro W F H σ δ xs ds Q Z S r g hZ
  obtain ⟨s, rfl, q⟩ := g
  obtain ⟨v, rfl, rv⟩ := rpL1 r
  exact ⟨s, by rw [rpStr rv], hZ _ _ (mkP S rp_str q)⟩
def seqD : D → Option (List D)
  | .lst ds => some ds
  | .tup ds => some ds
  | _ => none
theorem rp_seq {K : PySem.W.Frag} {F H : Hp} (e : Same F H) {d : D} {ds : List D} {v : V} (r : Rp K F d v) (h : seqD d = some ds) : ∃ a xs, v = .ref a ∧ (SqL K H a xs ∨ SqT K H a xs) ∧ RpL K F ds xs := by
  cases d <;> first | (cases h; done) | skip
  · cases h
    obtain ⟨a, xs, rfl, h1, h2⟩ := rpLst r
    exact ⟨a, xs, rfl, .inl (SqL.of (e _ _ h1)), h2⟩
  · cases h
    obtain ⟨a, xs, rfl, h1, h2⟩ := rpTup r
    exact ⟨a, xs, rfl, .inr (sqT_mono e h1), h2⟩
def listG : List D → (B → Prop) → Prop := fun ds Q => ∃ d es, ds = [d] ∧ seqD d = some es ∧ Q (.o (.lst es))
theorem rc_list {K : PySem.W.Frag} : RC K (fun xs H Q => ∃ p ys, xs = [.ref p] ∧ (SqL K H p ys ∨ SqT K H p ys) ∧ ∀ l, H l = none → Q (.ref l) (upd H l (.lst ys))) listG := by
  intro W F H σ δ xs ds Q Z S r g hZ
  obtain ⟨d, es, rfl, h1, q⟩ := g
  obtain ⟨v, rfl, rv⟩ := rpL1 r
  obtain ⟨a, ys, rfl, h2, h3⟩ := rp_seq S.fh rv h1
  exact ⟨a, ys, rfl, h2, fun l hl => hZ _ _ (DQ.mkO (Q := fun b δ' => δ' = δ ∧ Q b) (d := .lst es) S hl ⟨ys, upd_same, h3⟩ ⟨rfl, q⟩)⟩
def tupleG : List D → (B → Prop) → Prop := fun ds Q => ∃ d es, ds = [d] ∧ seqD d = some es ∧ Q (.p (.tup es))
theorem rc_tuple {K : PySem.W.Frag} : RC K (fun xs H Q => ∃ p ys, xs = [.ref p] ∧ ((SqL K H p ys ∧ ∀ l, H l = none → Q (.ref l) (upd H l (.tup ys))) ∨ (SqT K H p ys ∧ Q (.ref p) H))) tupleG := by
  intro W F H σ δ xs ds Q Z S r g hZ
  obtain ⟨d, es, rfl, h1, q⟩ := g
  obtain ⟨v, rfl, rv⟩ := rpL1 r
  cases d <;> first | (cases h1; done) | skip
  · cases h1
    obtain ⟨a, ys, rfl, h2, h3⟩ := rpLst rv
    exact ⟨a, ys, rfl, .inl ⟨SqL.of (S.fh _ _ h2), fun l hl => hZ _ _ (DQ.mkN (Q := fun b δ' => δ' = δ ∧ Q b) S hl (rp_tupN h3 (S.freshF hl)) ⟨rfl, q⟩)⟩⟩
  · cases h1
    obtain ⟨a, ys, rfl, h2, h3⟩ := rpTup rv
    exact ⟨a, ys, rfl, .inr ⟨sqT_mono S.fh h2, hZ _ _ (mkP S rv q)⟩⟩

/-! ### set(xs), xs a list of ints -/
def metIn (ns : List Int) (k : Int) : Bool := ns.any (· == k)
def rSetL (K : PySem.W.Frag) : List V → Hp → VK → Prop := fun xs H Q => ∃ a, ∃ ns : List Int, xs = [.ref a] ∧ SqL K H a (ns.map V.int) ∧ ns.length < 4000 ∧ ∀ p n, H p = none → Q (.ref p) (upd H p (.set (metIn ns) n))
theorem cr_setL {X : Cx} (hc : X.calm = true) : CallR X (.type "set") (rSetL X.K) := by
  intro pins s σ H xs us Q I r h
  obtain ⟨a, ns, rfl, hs, hl, q⟩ := h
  obtain rfl := Vals.ref1 r
  obtain ⟨its, rv, pl, hz⟩ := I.list hs
  have hi := intsAre_of rv
  have hlen : its.length = ns.length := by
    have := rv.length
    rw [List.length_map] at this
    exact this.symm
  refine PySem.call_set_list (items := its.toArray) (ns := ns) (I.ok.hd hc) pl.isList (by simpa using hi) (by simp only [List.size_toArray, hlen]; unfold scanBound; omega) fun h' tk hS hk => ?_
  have hp : H s.heap.objs.size = none := I.hok.fresh (Nat.le_refl _)
  have e : ∀ k, (firstMet (fun i => ns.getD i 0) its.toArray.size).any (· == k) = metIn ns k := fun k => by
    rw [firstMet_any]
    unfold metIn
    congr 1
    rw [List.size_toArray, hlen]
    apply List.ext_getElem
    · simp
    · intro i h1 h2
      simp [h2]
  refine ⟨.ref s.heap.objs.size, upd H s.heap.objs.size (.set (metIn ns) (firstMet (fun i => ns.getD i 0) its.toArray.size).length), I.laid (t' := tk) (fun b o eo => hk b o (Heap.lt_size eo) eo) (Nat.le_refl _) ?_, rfl, q _ _ hp⟩
  exact SetOf_congr hS (fun k => e k) rfl
def setG : List D → (B → Prop) → Prop := fun ds Q => ∃ ns : List Int, ds = [.lst (ns.map D.int)] ∧ ns.length < 4000 ∧ ∀ n, Q (.p (.iset (metIn ns) n))
theorem rc_setL {K : PySem.W.Frag} : RC K (rSetL K) setG := by
  intro W F H σ δ xs ds Q Z S r g hZ
  obtain ⟨ns, rfl, hl, q⟩ := g
  obtain ⟨v, rfl, rv⟩ := rpL1 r
  obtain ⟨a, ys, rfl, h2, h3⟩ := rpLst rv
  rw [RpL.int h3] at h2
  refine ⟨a, ns, rfl, SqL.of (S.fh _ _ h2), hl, fun p n hp => hZ _ _ (DQ.mkN (Q := fun b δ' => δ' = δ ∧ Q b) (d := .iset (metIn ns) n) S hp ?_ ⟨rfl, q n⟩)⟩
  unfold Rp
  exact ⟨p, rfl, upd_same⟩

/-! ### sorted(xs, reverse=b), xs a list of ints -/
structure DK (X : Cx) (W : Fix) (kws : List Keyword) (t : TDA) : Prop where
  run : ∀ (F H : Hp) (σ : L2.St) (δ : Env') (Q : List D → Env' → Prop), SD X.K W F H σ δ → t δ Q → ∀ (pos : Pos) (pins : List (Addr × Obj)) (s : Shared), Inv X pins σ H s →
    wpAny (model X.prog X.w) X.A (evalAll ((backToKw pos (keywordEach kws X.env)).map (·.2))) (AP X pins σ (AQ X.K W F σ Q)) X.xe s
def cK (X : Cx) (kws : List Keyword) : TA := fun σ H Q => ∀ (pos : Pos) (pins : List (Addr × Obj)) (s : Shared), Inv X pins σ H s → wpAny (model X.prog X.w) X.A (evalAll ((backToKw pos (keywordEach kws X.env)).map (·.2))) (AP X pins σ Q) X.xe s
theorem cK_pk {X : Cx} {kws : List Keyword} : PK X kws (cK X kws) := ⟨fun pos pins s _ _ _ I h => h pos pins s I⟩
theorem cK.imp {X : Cx} {kws : List Keyword} {σ : L2.St} {H : Hp} {Q Q' : List V → Hp → Prop} (h : cK X kws σ H Q) (i : ∀ v H', Q v H' → Q' v H') : cK X kws σ H Q' := fun pos pins s I => thn (h pos pins s I) fun u s' q => by
  obtain ⟨v, H', I', r, q⟩ := q
  exact ⟨v, H', I', r, i v H' q⟩
section
variable {X : Cx} {W : Fix} {x : Str} {p pos kpos : Pos} {e : Expr} {es : List Expr} {kws : List Keyword} {te : TD} {t tk : TDA} {id : String} {nm : Option Str} {ks : List Str}
theorem dk_nil : DK X W [] dNil := ⟨fun F H σ δ Q S q pos pins s I => (pk_nil (X := X)).run pos pins s σ H _ I ⟨F, [], δ, Same.refl F, S, .nil, q⟩⟩
theorem dk_cons (h : DE X W e te) (g : DK X W kws t) : DK X W (⟨nm, e, kpos⟩ :: kws) (dCons te t) := by
  refine ⟨fun F H σ δ Q S q pos pins s I => (pk_cons (X := X) cE_pe cK_pk).run pos pins s σ H _ I ?_⟩
  refine (h.plain S q).imp fun x H1 h1 => ?_
  obtain ⟨F1, d, δ1, e1, S1, r1, q1⟩ := h1
  intro pos pins s I
  refine thn (g.run F1 H1 σ δ1 _ S1 q1 pos pins s I) fun us s2 h2 => ?_
  obtain ⟨xs, H2, I2, rv, F2, ds, δ2, e2, S2, r2, q2⟩ := h2
  exact ⟨xs, H2, I2, rv, F2, d :: ds, δ2, e1.trans e2, S2, .cons (Rp.mono e2 d x r1) r2, q2⟩
def RCK (K : PySem.W.Frag) (r : List V → List V → Hp → VK → Prop) (g : List D → List D → (B → Prop) → Prop) : Prop :=
  ∀ (W : Fix) (F H : Hp) (σ : L2.St) (δ : Env') (xs ys : List V) (ds fs : List D) (Q : B → Prop) (Z : VK), SD K W F H σ δ → RpL K F ds xs → RpL K F fs ys → g ds fs Q →
    (∀ v H', DQ K W F σ (fun b δ' => δ' = δ ∧ Q b) v H' → Z v H') → r xs ys H Z
def dCBK (g : List D → List D → (B → Prop) → Prop) (t tk : TDA) : TD := fun δ Q => t δ fun ds δ1 => tk δ1 fun fs δ2 => g ds fs fun b => Q b δ2
theorem de_callBK {r : List V → List V → Hp → VK → Prop} {g : List D → List D → (B → Prop) → Prop} (hc : CallRK X (.builtin id) ks r) (hr : RCK X.K r g) (hg : Gl X x) (hm : X.mg x = none) (hv : bootBuiltins x = some (.builtin id)) (h : DA X W (e :: es) t) (hk : DK X W kws tk) (hn : x ≠ "__name__" := by decide) (hdb : (x == ("__debug__" : Str)) = false := by decide)
    (he : backTo pos (starEach (e :: es) X.env) = (false, eval e X.env) :: backTo pos (starEach es X.env) := by rfl) (hpl : (backTo pos (starEach (e :: es) X.env)).any (·.1) = false := by rfl)
    (hall : (backToKw pos (keywordEach kws X.env)).all (·.1.isSome) = true := by rfl) (hnone : (backToKw pos (keywordEach kws X.env)).any (·.1.isNone) = false := by rfl) (hks : (backToKw pos (keywordEach kws X.env)).filterMap (·.1) = ks := by rfl) :
    DE X W (.Call (.Name x p) (e :: es) kws pos) (dCBK g t tk) :=
  .of (pe_callBK (X := X) hc hg hm hv cA_pa cK_pk hn hdb he hpl hall hnone hks) fun F H σ δ Q S q => by
    refine (h.run F H σ δ _ S q).imp fun vs H1 h1 => ?_
    obtain ⟨F1, ds, δ1, e1, S1, r1, q1⟩ := h1
    intro pos pins s I
    refine thn (hk.run F1 H1 σ δ1 _ S1 q1 pos pins s I) fun us s2 h2 => ?_
    obtain ⟨ys, H2, I2, rv, F2, fs, δ2, e2, S2, r2, q2⟩ := h2
    exact ⟨ys, H2, I2, rv, hr W F2 H2 σ δ2 vs ys ds fs _ _ S2 (RpL.mono e2 _ _ r1) r2 q2 fun v H' h => h.fix (e1.trans e2)⟩
end
def sortedRevG (b : Bool) : List D → List D → (B → Prop) → Prop := fun ds fs Q => ∃ ns : List Int, ds = [.lst (ns.map D.int)] ∧ fs = [.bl b] ∧ ∀ ns' : List Int, ns'.Perm ns → OrdB b ns' → Q (.o (.lst (ns'.map D.int)))
theorem rc_sortedRev {K : PySem.W.Frag} {b : Bool} : RCK K (rSortedKw K b [.bl b]) (sortedRevG b) := by
  intro W F H σ δ xs ys ds fs Q Z S r1 r2 g hZ
  obtain ⟨ns, rfl, rfl, q⟩ := g
  obtain ⟨v, rfl, rv⟩ := rpL1 r1
  obtain ⟨w, rfl, rw'⟩ := rpL1 r2
  obtain ⟨a, zs, rfl, h2, h3⟩ := rpLst rv
  rw [RpL.int h3] at h2
  exact ⟨a, ns, rfl, by rw [rpBl rw'], SqL.of (S.fh _ _ h2), fun ns' l h4 h5 hl => hZ _ _ (DQ.mkO (Q := fun b δ' => δ' = δ ∧ Q b) (d := .lst (ns'.map D.int)) S hl ⟨_, upd_same, RpL.ofInt ns'⟩ ⟨rfl, q ns' h4 h5⟩)⟩

/-! ### x[i], x[lo:hi] -/
def itemD : D → D → Option D
  | .lst ds, .int i => atI ds i
  | .tup ds, .int i => atI ds i
  | .str z, .int i => if z.length ≤ sizeLine then (atI z.cps.toList i).map fun c => .str ⟨#[c]⟩ else none
  | .scr ns, .int i => (atI ns i).map D.int
  | .cst ds, .int i => atI ds i
  | _, _ => none
def ixG : D → D → (B → Prop) → Prop := fun x y Q => ∃ d, itemD x y = some d ∧ Q (.p d)
theorem rpL_atI {K : PySem.W.Frag} {F : Hp} {ds : List D} {xs : List V} {i : Int} {d : D} (h : RpL K F ds xs) (e : atI ds i = some d) : ∃ x, atI xs i = some x ∧ Rp K F d x := by
  unfold atI at e ⊢
  rw [h.length]
  cases q : ixN ds.length i with
  | none =>
    rw [q] at e
    cases e
  | some j =>
    rw [q] at e
    exact h.get e
theorem rd_ix {K : PySem.W.Frag} : RD K (rIx K) ixG := by
  intro W F H σ δ x y c d Q Z S rc rd g hZ
  obtain ⟨r, hr, q⟩ := g
  cases c <;> first | (cases d <;> (cases hr; done)) | skip
  · cases d <;> first | (cases hr; done) | skip
    rename_i z i
    change (if z.length ≤ sizeLine then (atI z.cps.toList i).map fun c => D.str ⟨#[c]⟩ else none) = some r at hr
    by_cases hz : z.length ≤ sizeLine
    · rw [if_pos hz] at hr
      cases e : atI z.cps.toList i with
      | none =>
        rw [e] at hr
        cases hr
      | some c =>
        rw [e] at hr
        cases hr
        exact .inr (.inr ⟨z, i, c, rpStr rc, rpInt rd, hz, e, hZ _ _ (mkP S rp_str q)⟩)
    · rw [if_neg hz] at hr
      cases hr
  · cases d <;> first | (cases hr; done) | skip
    obtain ⟨a, xs, rfl, h1, h2⟩ := rpLst rc
    obtain ⟨v, h3, h4⟩ := rpL_atI h2 hr
    exact .inl ⟨a, xs, _, v, rfl, rpInt rd, SqL.of (S.fh _ _ h1), h3, hZ _ _ (mkP S h4 q)⟩
  · cases d <;> first | (cases hr; done) | skip
    obtain ⟨a, xs, rfl, h1, h2⟩ := rpTup rc
    obtain ⟨v, h3, h4⟩ := rpL_atI h2 hr
    exact .inr (.inl ⟨a, xs, _, v, rfl, rpInt rd, sqT_mono S.fh h1, h3, hZ _ _ (mkP S h4 q)⟩)
  · cases d <;> first | (cases hr; done) | skip
    rename_i ns j
    unfold Rp at rc
    obtain ⟨a, rfl, h1⟩ := rc
    cases e : atI ns j with
    | none =>
      have hr : (atI ns j).map D.int = some r := hr
      rw [e] at hr
      cases hr
    | some m =>
      have hr : (atI ns j).map D.int = some r := hr
      rw [e] at hr
      cases hr
      have em : atI (ns.map V.int) j = some (.int m) := by
        unfold atI at e ⊢
        rw [List.length_map]
        cases g : ixN ns.length j with
        | none =>
          rw [g] at e
          cases e
        | some l =>
          rw [g] at e
          have e : ns[l]? = some m := e
          show (ns.map V.int)[l]? = _
          rw [List.getElem?_map, e]
          rfl
      exact .inl ⟨a, _, _, _, rfl, rpInt rd, S.fh.seq h1.seq, em, hZ _ _ (mkP S rp_int q)⟩
  · cases d <;> first | (cases hr; done) | skip
    obtain ⟨a, xs, rfl, h1, h2⟩ := rpCst rc
    obtain ⟨v, h3, h4⟩ := rpL_atI h2 hr
    exact .inr (.inl ⟨a, xs, _, v, rfl, rpInt rd, sqT_mono S.fh h1, h3, hZ _ _ (mkP S h4 q)⟩)
theorem de_ix {X : Cx} {W : Fix} {a b : Expr} {ta tb : TD} {pos : Pos} (ha : DE X W a ta) (hb : DE X W b tb) (hs : PlainIx b) : DE X W (.Subscript a b pos) (dOp ixG ta tb) :=
  .of (pe_ix (X := X) ix_seq cE_pe cE_pe hs) fun _ _ _ _ _ S q => two ha hb rd_ix S q
structure DO (X : Cx) (W : Fix) (e : Option Expr) (t : Env' → (Option Int → Env' → Prop) → Prop) : Prop where
  run : ∀ (F H : Hp) (σ : L2.St) (δ : Env') (Q : Option Int → Env' → Prop), SD X.K W F H σ δ → t δ Q → ∀ (pins : List (Addr × Obj)) (s : Shared), Inv X pins σ H s →
    wpAny (model X.prog X.w) X.A (evalPart e X.env) (fun u s' => ∃ o H', Inv X pins σ H' s' ∧ IsPart u o ∧ ∃ (F' : Hp) (δ' : Env'), Same F F' ∧ SD X.K W F' H' σ δ' ∧ Q o δ') X.xe s
def cO (X : Cx) (e : Option Expr) : TO := fun σ H Q => ∀ (pins : List (Addr × Obj)) (s : Shared), Inv X pins σ H s →
  wpAny (model X.prog X.w) X.A (evalPart e X.env) (fun u s' => ∃ o H', Inv X pins σ H' s' ∧ IsPart u o ∧ Q o H') X.xe s
theorem cO_po {X : Cx} {e : Option Expr} : PO X e (cO X e) := ⟨fun pins s _ _ _ I h => h pins s I⟩
def dNo : Env' → (Option Int → Env' → Prop) → Prop := fun δ Q => Q none δ
def dPart (t : TD) : Env' → (Option Int → Env' → Prop) → Prop := fun δ Q => dp t δ fun d δ' => ∃ i, d = .int i ∧ Q (some i) δ'
theorem do_none {X : Cx} {W : Fix} : DO X W none dNo := ⟨fun F H σ δ Q S q pins s I => (po_none (X := X)).run pins s σ H _ I ⟨F, δ, Same.refl F, S, q⟩⟩
theorem do_some {X : Cx} {W : Fix} {e : Expr} {t : TD} (h : DE X W e t) : DO X W (some e) (dPart t) := ⟨fun F H σ δ Q S q pins s I => (po_some (X := X) cE_pe).run pins s σ H _ I ((h.plain S q).imp fun v H1 h1 => by
  obtain ⟨F1, d, δ1, e1, S1, r1, i, rfl, q1⟩ := h1
  exact ⟨i, rpInt r1, F1, δ1, e1, S1, q1⟩)⟩
def cutD (ds : List D) (lo hi : Option Int) : List D := (ds.drop (HT.sIx ds.length 0 lo)).take (HT.sIx ds.length ds.length hi - HT.sIx ds.length 0 lo)
theorem RpL.cut {K : PySem.W.Frag} {F : Hp} {ds : List D} {xs : List V} (h : RpL K F ds xs) (lo hi : Option Int) : RpL K F (cutD ds lo hi) (cutV xs lo hi) := by
  unfold cutD cutV
  rw [h.length]
  exact (h.drop _).take _
def slG : D → Option Int → Option Int → (B → Prop) → Prop
  | .lst ds, lo, hi, Q => Q (.o (.lst (cutD ds lo hi)))
  | .tup ds, lo, hi, Q => ¬ (HT.sIx ds.length 0 lo = 0 ∧ HT.sIx ds.length ds.length hi = ds.length) ∧ Q (.p (.tup (cutD ds lo hi)))
  | .str z, lo, hi, Q => z.length ≤ sizeLine ∧ Q (.p (.str (cutS z lo hi)))
  | _, _, _, _ => False
def rSlAll (K : PySem.W.Frag) : V → Option Int → Option Int → Hp → VK → Prop := fun x lo hi H Q => rSlL K x lo hi H Q ∨ rSlT K x lo hi H Q ∨ rSlS x lo hi H Q
theorem sl_all {X : Cx} : SlR X (rSlAll X.K) := SlR.or sl_list (SlR.or sl_tup sl_str)
def dSl (te : TD) (tl th : Env' → (Option Int → Env' → Prop) → Prop) : TD := fun δ Q => dp te δ fun d δ1 => tl δ1 fun lo δ2 => th δ2 fun hi δ3 => slG d lo hi fun b => Q b δ3
theorem de_slice {X : Cx} {W : Fix} {e : Expr} {lo hi : Option Expr} {te : TD} {tl th : Env' → (Option Int → Env' → Prop) → Prop} {p2 pos : Pos} (h : DE X W e te) (hl : DO X W lo tl) (hu : DO X W hi th) : DE X W (.Subscript e (.Slice lo hi none p2) pos) (dSl te tl th) :=
  .of (pe_slice (X := X) sl_all cE_pe cO_po cO_po) fun F H σ δ Q S q => by
    refine (h.plain S q).imp fun v H1 h1 => ?_
    obtain ⟨F1, d, δ1, e1, S1, r1, q1⟩ := h1
    intro pins s I
    refine thn (hl.run F1 H1 σ δ1 _ S1 q1 pins s I) fun u s2 h2 => ?_
    obtain ⟨lo', H2, I2, p2, F2, δ2, e2, S2, q2⟩ := h2
    refine ⟨lo', H2, I2, p2, fun pins s I => ?_⟩
    refine thn (hu.run F2 H2 σ δ2 _ S2 q2 pins s I) fun u s3 h3 => ?_
    obtain ⟨hi', H3, I3, p3, F3, δ3, e3, S3, q3⟩ := h3
    refine ⟨hi', H3, I3, p3, ?_⟩
    have r3 : Rp X.K F3 d v := Rp.mono (e2.trans e3) d v r1
    have eF := (e1.trans e2).trans e3
    cases d <;> first | exact q3.elim | skip
    · exact .inr (.inr ⟨_, rpStr r3, q3.1, (mkP (Q := fun b => Q b δ3) S3 rp_str q3.2).fix eF⟩)
    · obtain ⟨a, xs, rfl, h1, h2⟩ := rpLst r3
      refine .inl ⟨a, xs, rfl, SqL.of (S3.fh _ _ h1), fun p hp => ?_⟩
      exact (DQ.mkO (Q := Q) (d := .lst _) S3 hp ⟨_, upd_same, h2.cut lo' hi'⟩ q3).back eF
    · obtain ⟨a, xs, rfl, h1, h2⟩ := rpTup r3
      obtain ⟨q4, q5⟩ := q3
      refine .inr (.inl ⟨a, xs, rfl, sqT_mono S3.fh h1, by rw [h2.length]; exact q4, fun p hp => ?_⟩)
      exact (DQ.mkN (Q := Q) S3 hp (rp_tupN (h2.cut lo' hi') (S3.freshF hp)) q5).back eF

/-! ### methods of texts: s.join(xs), s.find(t) -/
def dM1 (g : Str → D → (B → Prop) → Prop) (to te : TD) : TD := fun δ Q => dp to δ fun x δ1 => ∃ a, x = .str a ∧ dp te δ1 fun y δ2 => g a y fun z => Q z δ2
def joinG : Str → D → (B → Prop) → Prop := fun a y Q => ∃ ys : List Str, seqD y = some (ys.map D.str) ∧ (ys.map (·.length)).sum + ys.length * a.length ≤ 16777216 ∧ Q (.p (.str (Txt.join a ys)))
def findG : Str → D → (B → Prop) → Prop := fun a y Q => ∃ b : Str, y = .str b ∧ Q (.p (.int (Txt.find a b)))
section
variable {X : Cx} {W : Fix} {o e : Expr} {to te : TD} {apos pos : Pos}
theorem de_join (ho : DE X W o to) (h : DE X W e te) (hs : starEach [e] X.env = [(false, eval e X.env)] := by rfl) (hbase : attributeBase o "join" X.env (eval o X.env) = eval o X.env := by rfl) (hline : (apos.endLine == pos.line) = true := by rfl) :
    DE X W (.Call (.Attribute o "join" apos) [e] [] pos) (dM1 joinG to te) :=
  .of (pe_join (X := X) cE_pe cE_pe hs hbase hline) fun F H σ δ Q S q => by
    refine (ho.plain S q).imp fun v H1 h1 => ?_
    obtain ⟨F1, d, δ1, e1, S1, r1, a, rfl, q1⟩ := h1
    refine ⟨⟨a, rpStr r1⟩, (h.plain S1 q1).imp fun u H2 h2 => ?_⟩
    obtain ⟨F2, y, δ2, e2, S2, r2, ys, hy, hz, q2⟩ := h2
    obtain ⟨p, xs, rfl, h3, h4⟩ := rp_seq S2.fh r2 hy
    rw [RpL.str h4] at h3
    exact ⟨a, p, ys, rpStr r1, rfl, h3, hz, (mkP (Q := fun b => Q b δ2) S2 rp_str q2).fix (e1.trans e2)⟩
theorem de_find (ho : DE X W o to) (h : DE X W e te) (hs : starEach [e] X.env = [(false, eval e X.env)] := by rfl) (hbase : attributeBase o "find" X.env (eval o X.env) = eval o X.env := by rfl) (hline : (apos.endLine == pos.line) = true := by rfl) :
    DE X W (.Call (.Attribute o "find" apos) [e] [] pos) (dM1 findG to te) :=
  .of (pe_m1 (X := X) F.slot_str_find F.type_str_find mt_find cE_pe cE_pe hs hbase hline) fun F H σ δ Q S q => by
    refine (ho.plain S q).imp fun v H1 h1 => ?_
    obtain ⟨F1, d, δ1, e1, S1, r1, a, rfl, q1⟩ := h1
    refine ⟨⟨a, rpStr r1⟩, (h.plain S1 q1).imp fun u H2 h2 => ?_⟩
    obtain ⟨F2, y, δ2, e2, S2, r2, b, rfl, q2⟩ := h2
    exact ⟨a, b, rpStr r1, by rw [rpStr r2], (mkP (Q := fun b => Q b δ2) S2 rp_int q2).fix (e1.trans e2)⟩
end

/-! ### xs.append(e), xs.clear(), xs an own list in slot i -/
section
variable {X : Cx} {W : Fix} {e : Expr} {te : TD} {apos pos p spos : Pos} {i : Nat} {x : Str}
theorem ownL {K : PySem.W.Frag} {F H : Hp} {d : D} {a : Addr} (h : Own K F H d a) : (∃ ds xs, d = .lst ds ∧ H a = some (.lst xs) ∧ RpL K F ds xs) ∨ ∀ ds, d ≠ .lst ds := by
  cases d <;> first | (right; intro ds z; cases z; done) | skip
  obtain ⟨xs, h1, h2⟩ := h
  exact .inl ⟨_, xs, rfl, h1, h2⟩
/-- an own list turns -/
theorem SD.own_turn {K : PySem.W.Frag} {F H : Hp} {σ : L2.St} {δ : Env'} {d d' : D} {a : Addr} {o : HO} (S : SD K W F H σ δ) (hi : δ[i]? = some (some (.o d))) (ha : σ[i]? = some (some (.ref a))) (ho : Own K F (upd H a o) d' a) :
    SD K W F (upd H a o) σ (δ.set i (some (.o d'))) := by
  obtain ⟨v, e1, a', rfl, hF, h0, hO⟩ := S.get i _ hi
  rw [ha] at e1
  cases e1
  have S1 := (SD.drop (i := i) S).turn (o := o) h0 hF fun j c h1 h2 h3 => by
    by_cases ej : j = i
    · subst ej
      have hl : j < δ.length := (List.getElem?_eq_some_iff.mp hi).1
      rw [List.getElem?_set_self hl] at h1
      cases h1
    · rw [List.getElem?_set_ne (Ne.symm ej)] at h1
      exact S.sep i j _ c _ (Ne.symm ej) hi rfl h1 h2 ha h3
  have S2 := S1.put (i := i) (v := .ref a) (b := .o d') ⟨a, rfl, hF, h0, ho⟩ fun _ j c h1 h2 h3 h4 => by
    rw [List.getElem?_set_ne (Ne.symm h3)] at h1
    exact S.sep i j _ c _ (Ne.symm h3) hi rfl h1 h2 ha h4
  rw [set_noop ha, List.set_set] at S2
  exact S2
def dApp (i : Nat) (te : TD) : TSD := fun Z δ => (∃ ds, δ[i]? = some (some (.o (.lst ds)))) ∧ dp te δ fun d δ1 => ∃ ds, δ1[i]? = some (some (.o (.lst ds))) ∧ ds.length < sizeLine ∧ Z.nx (δ1.set i (some (.o (.lst (ds ++ [d])))))
theorem ds_append (hN : X.N[i]? = some x) (hv : Vis X.env.scope x) (h : DE X W e te) (hd : (x == ("__debug__" : Str)) = false := by decide) (hcd : (x == ("__classdict__" : Str)) = false := by decide)
    (hpe : ∀ ta : TE, PE X e ta → PE X (.Call (.Attribute (.Name x p) "append" apos) [e] [] pos) (tBM X.K "list" rAppend (tVar i) (tCons ta tNil))) (hs : swapsWith (.Call (.Attribute (.Name x p) "append" apos) [e] [] pos) none spos.line X.env = pure false := by rfl) :
    DS X W (.Expr (.Call (.Attribute (.Name x p) "append" apos) [e] [] pos) spos) (dApp i te) :=
  .of (ps_expr (X := X) (hpe _ cE_pe) hs) fun F H σ δ Z S q => by
    obtain ⟨⟨ds0, h0⟩, q⟩ := q
    obtain ⟨v0, hv0, a, rfl, hF, hH0, hO⟩ := S.get i _ h0
    obtain ⟨xs0, hx0, rx0⟩ := hO
    refine ⟨.ref a, hv0, .inl ⟨rfl, xs0, SqL.of hx0⟩, (h.plain S q).imp fun v H1 h1 => ?_⟩
    obtain ⟨F1, d, δ1, e1, S1, r1, ds, hi, hz, q1⟩ := h1
    obtain ⟨v1, hv1, a', rfl, hF1, _, xs, hx, rx⟩ := S1.get i _ hi
    rw [hv0] at hv1
    cases hv1
    refine ⟨a, xs, v, rfl, rfl, hx, by rw [rx.length]; exact hz, F1, _, S1.own_turn (d' := .lst (ds ++ [d])) hi hv0 ⟨_, upd_same, rx.append (.cons r1 .nil)⟩, q1⟩
end
end DD

set_option Elab.async false
set_option linter.all false
set_option maxRecDepth 100000
set_option maxHeartbeats 4000000
/-! DD8: own exceptions: class C with an __init__ that says super().__init__(value), self.value = value. -/
namespace DD
open PySem PySem.Spec PyProof.Rows L2

/-- the text of such an __init__ -/
def ixBody (p : Nat → Pos) : List Stmt :=
  [.Expr (.Call (.Attribute (.Call (.Name "super" (p 0)) [] [] (p 1)) "__init__" (p 2)) [.Name "value" (p 3)] [] (p 4)) (p 5),
   .Assign [.Attribute (.Name "self" (p 6)) "value" (p 7)] (.Name "value" (p 8)) (p 9)]
abbrev ixNames : List (Str × NameKind) := [("self", .local), ("value", .local), ("__class__", .free), ("super", .globalImplicit)]
abbrev ixScope : Scope := { kind := .function, names := ixNames, isGenerator := false, isCoroutine := false, more := [] }
/-- what stands in the written part of such a class -/
structure OwnX (P : Program) (K : PySem.W.Frag) (C fI : Addr) : Prop where
  T : OexC K C
  iC : PySem.W.findIn K (.ref C) "__init__" = some (some (.ref fI))
  tI : PySem.W.typeIn K (.ref fI) = some (.type "function")
  hno : PySem.W.findIn K (.ref C) "value" = some none
  sup : PySem.W.nsIn K mainGlobals "super" = some none
  opq : PySem.W.nsIn K cStatics "thirdparty.any" = some none
  hm : PySem.W.ks_superIn K C C "__init__" = some (some (.builtin "ValueError.__init__"))
  hB : PySem.W.subIn K (.ref C) (.type "ValueError") = some true
  hD : PySem.W.mroIn K C (.ref C) = some true
  top : (P.main.scope.names.lookup ("super" : Str)).isSome = false
  fn : ∃ (oc : Value) (od : Option Addr) (qual : Str) (params : Arguments) (p : Nat → Pos) (dV kV doc pm ct ccl cl : Value) (an : Option Addr) (cda cc : Addr) (osl ccs csl : Array (Option Value)) (cdd cld : Option Addr) (vs : Array Value) (file : Str) (tf : Tok) (ar : PySem.Arg) (pl : Sem Bool),
    K.lookup fI = some ⟨oc, od, .func (PySem.W.ksFn "__init__" qual params (ixBody p) ixScope dV kV doc pm an (.ref cda) ct cc), osl⟩ ∧ PySem.W.codeIn K (.ref cda) qual = true ∧
    K.lookup cda = some ⟨ccl, cdd, .fields vs, ccs⟩ ∧ vs[2]? = some (.str file tf) ∧ ((P.main.file : Str) == file) = true ∧ K.lookup cc = some ⟨cl, cld, .cell (some (.ref C)), csl⟩ ∧
    (params.posonlyargs ++ params.args).head? = some ar ∧ ar.arg = "self" ∧
    (∀ (s : Shared) (x u : Value), K.In s.heap → BindsTo s (PySem.W.ksFn "__init__" qual params (ixBody p) ixScope dV kV doc pm an (.ref cda) ct cc) ⟨[x, u], []⟩ [(("self" : Str), x), (("value" : Str), u)]) ∧
    (∀ L : Addr, eval (.Call (.Attribute (.Call (.Name "super" (p 0)) [] [] (p 1)) "__init__" (p 2)) [.Name "value" (p 3)] [] (p 4)) (PySem.W.ksEnv qual ixScope L fI (.ref cda) cc) = (do
      let ov ← attributeBase (.Call (.Name "super" (p 0)) [] [] (p 1)) "__init__" (PySem.W.ksEnv qual ixScope L fI (.ref cda) cc) (eval (.Call (.Name "super" (p 0)) [] [] (p 1)) (PySem.W.ksEnv qual ixScope L fI (.ref cda) cc))
      standAt (p 2).atName
      let (f, first) ← holding [ov] (getMethod ov "__init__" pl)
      callWith (p 4) f first (backTo (p 4) (starEach [.Name "value" (p 3)] (PySem.W.ksEnv qual ixScope L fI (.ref cda) cc))) []))

/-- its default stands in the tuple at T -/
theorem own_binds {K : PySem.W.Frag} {fd : FuncData} {T : Addr} {o : Obj} {its : Array Value} {n : Nat} (lT : K.lookup T = some o) (oT : o.data = .seq its n)
    (h : ∀ x u : Value, ∃ k, bindArgs fd ⟨[x, u], []⟩ = seqItems? (.ref T) >>= k ∧ k (some its) = pure [(("self" : Str), x), (("value" : Str), u)]) (s : Shared) (x u : Value) (X : K.In s.heap) : BindsTo s fd ⟨[x, u], []⟩ [(("self" : Str), x), (("value" : Str), u)] := by
  obtain ⟨k, e1, e2⟩ := h x u
  refine BindsTo.of_looks fun M => ?_
  rw [e1]
  exact looks_items X lT oT (.of_pure e2)
section
variable {prog : Program} {w : World} {A : Around} {E : Value → Shared → Prop} {R : Result → Shared → Prop}
/-- what lies behind the __init__ -/
structure IxEnd (h h' : Heap) (x C : Addr) (v : Value) : Prop where
  keep : ∀ b o, b ≠ x → h.get? b = some o → h'.get? b = some o
  obj : ∃ (t1 dx : Addr), h'.get? x = some ({ cls := .ref C, dict := some dx, data := .fields #[.ref t1, .none, .none, .none, .bool false, .none] } : Obj) ∧ h.get? dx = none ∧ dx ≠ x ∧ h'.Ns1 dx (fun y => if y = ("value" : Str) then some v else none)

theorem call_vw {h : Heap} {g : Array GenState} {d : Drawn} {t : Nat} {os : OsState} {nm q : Str} {C N : Addr} {bs bm : List Value} {hdct : Bool} {sn : List Str} {sub : List Value} {ab : Bool} {col : Option Bool} {dd : Option Addr} {k0 k1 k2 k3 k5 : Option Value} {u e t0 : Addr} {rest : List Value} {Q : Value → Shared → Prop}
    (hC : h.get? C = some (excClassObj nm q C N bs bm hdct sn sub ab col dd k0 k1 k2 k3 k5 "ValueError.__new__")) (he : h.get? e = some (PySem.HandSPX.excO C t0)) (hu : h.get? u = some (PySem.W.kxs_mw "ValueError.__init__" e)) (hz : rest.length ≤ sizeLine)
    (hq : ∀ h' t1, (∀ b o, b ≠ e → h.get? b = some o → h'.get? b = some o) → h'.get? e = some (PySem.HandSPX.excO C t1) → Q .none ⟨h', g, d, t, os⟩) :
    wpAny (model prog w) A (call (.ref u) rest) Q E ⟨h, g, d, t, os⟩ := by
  refine wpAny_call (codeAny_of_tree ?_)
  show wpAny _ A.in1 (callAny (.ref u) ⟨rest, []⟩) _ _ _
  simp only [callAny]
  refine wpAny_bind (wpAny_load hu ?_)
  simp only [PySem.W.kxs_mw, show (Value.type "method-wrapper" == Value.type "method" || Value.type "method-wrapper" == Value.type "builtin_function_or_method" || Value.type "method-wrapper" == Value.type "method-wrapper") = true by decide, if_true]
  refine PySem.W.KFB.if_so (by decide) ?_
  refine wpAny_bind (PySem.ESX.check_bound F.excBase_ValueError hC he rfl ?_)
  refine wpAny_bind (wpAny_pure (wpAny_pure ?_))
  refine ⟨plainId_quiet F.excBase_ValueError.init.plain _, codeAny_builtin F.excBase_ValueError.initEntry ?_⟩
  exact PySem.W.exc_init_tree (cls := .ref C) (t0 := t0) (dv := none) (c2 := .none) (c3 := .none) (b4 := .bool false) he hz fun h' k e' _ => hq h' _ k e'

theorem ix_run {P : Program} {K : PySem.W.Frag} {mg mb : Str → Option Value} {C fI x t0 : Addr} {v : Value} {s : Shared} {h0 : Heap} (O : OwnX P K C fI) (hroom : A.depth < recursionLimit) (X₀ : K.In h0) (k0 : ∀ b o, h0.get? b = some o → s.heap.get? b = some o) (nx : h0.get? x = none)
    (G : h0.Ns mainGlobals mg) (BB : h0.Ns builtinsNs mb) (hb : ∀ y : Str, y ≠ "__name__" → mb y = bootBuiltins y) (lim : s.heap.NoLimit) (hx : s.heap.get? x = some (PySem.HandSPX.excO C t0))
    (h : ∀ h' t', IxEnd s.heap h' x C v → R (.ok (.ret .none)) { s with heap := h', toks := t' }) : codeAny (model P w) A (.call (.ref fI) ⟨[.ref x, v], []⟩) R s := by
  obtain ⟨oc, od, qual, params, p, dV, kV, doc, pm, ct, ccl, cl, an, cda, cc, osl, ccs, csl, cdd, cld, vs, file, tf, ar, pl, lk, hcd, lcd, hvs, hfile, lcc, har, har2, hbd, hev⟩ := O.fn
  have X : K.In s.heap := X₀.keeps k0
  obtain ⟨nm, q, N, bs, bm, sn, sub, ab, col, dd, k0', k1, k2, k3, k5, hC, hbm⟩ := O.T.cls
  have hcl : PySem.W.clsIn K C = some { name := nm, bases := bs, mro := .ref C :: bm, ns := N, qualname := q, hasDict := true, slotNames := sn, subclasses := sub, abstract := ab, collection := col, hasDel := false } := by unfold PySem.W.clsIn; rw [hC] <;> rfl
  refine ks_codeAny_call_defAt (fd := PySem.W.ksFn "__init__" qual params (ixBody p) ixScope dV kV doc pm an (.ref cda) ct cc) (body := ixBody p) (binds := [(("self" : Str), .ref x), (("value" : Str), v)]) hroom (X _ _ lk) rfl lim (PySem.W.codeRec_of X hcd) rfl (hbd s (.ref x) v X) ?_ ?_ (fun h1 hns1 kk1 => ?_) rfl rfl rfl
  · intro y hy
    have hy : y ∈ ixNames := hy
    simp at hy
    rcases hy with rfl | rfl | rfl | rfl <;> decide
  · intro y hy
    show ixNames.lookup y.1 = _
    simp at hy
    rcases hy with rfl | rfl <;> rfl
  have hLx : ¬ x = s.heap.objs.size := Nat.ne_of_lt (Heap.lt_size hx)
  have X1 : K.In h1 := X.keeps kk1
  have hx1 := kk1 _ _ hx
  have kl : ∀ y : Str, (PySem.W.ksEnv qual ixScope s.heap.objs.size fI (.ref cda) cc).kindOf y = ixNames.lookup y := fun y => rfl
  have ik : ixNames.lookup ("value" : Str) = some NameKind.local := rfl
  have ik2 : ixNames.lookup ("self" : Str) = some NameKind.local := rfl
  have hgl : (fun y => List.lookup y (List.reverse [(("self" : Str), Value.ref x), (("value" : Str), v)])) ("value" : Str) = some v := rfl
  have hgs : (fun y => List.lookup y (List.reverse [(("self" : Str), Value.ref x), (("value" : Str), v)])) ("self" : Str) = some (.ref x) := rfl
  obtain ⟨hp, g, dr, tk, os⟩ := s
  dsimp only at kk1 hns1 hx1 X1 k0 hx hLx lim kl h
  have XC := X1 _ _ hC
  have II : PySem.W.InstAt h1 x (PySem.HandSPX.excO C t0) C none := ⟨hx1, rfl, rfl, trivial⟩
  refine ks_wpAt_execs_cons (ks_wpAt_Expr_any (ks_wpAt_MethodCall (pl := pl) ?_ (hev _)) ?hi ?hs)
  case hi => exact rfl
  case hs => exact rfl
  have hfile' : ((P.main.file : Str) == file) = true := hfile
  refine ks_wpAt_super_base (cc := cda) (f := fI) (attr := "__init__") (env := PySem.W.ksEnv qual ixScope hp.objs.size fI (.ref cda) cc) (oc := ⟨ccl, cdd, .fields vs, ccs⟩) (of := ⟨oc, od, .func (PySem.W.ksFn "__init__" qual params (ixBody p) ixScope dV kV doc pm an (.ref cda) ct cc), osl⟩) rfl rfl (by decide) rfl (X1 _ _ lk) rfl har rfl (X1 _ _ lcd) rfl hvs hfile O.top ?_
  refine PySem.W.ks_loadName_global rfl rfl (Calls.loadGlobal_builtin (env := PySem.W.ksEnv qual ixScope hp.objs.size fI (.ref cda) cc) (G.keeps fun b o e => kk1 b o (k0 b o e)) (PySem.W.mg_none_of X₀ G O.sup) (BB.keeps fun b o e => kk1 b o (k0 b o e)) (hb _ (by decide)) ⟨by first | rfl | boot_by_name | kernel_rfl, ?_⟩)
  refine wpAny_loadName_free rfl rfl rfl ⟨_, X1 _ _ lcc, rfl⟩ ?_
  rw [har2]
  refine wpAny_loadName_local rfl rfl hns1 hgs ?_
  refine ks_wpAny_isType_cls XC rfl ⟨rfl, ?_⟩
  refine ks_wpAny_call_super XC rfl hx1 rfl (fun c e => nomatch e) (PySem.W.looks_mroIn X1 O.hD) (fun h2 e2 kk2 => ?_)
  have X2 : K.In h2 := X1.keeps kk2
  have hx2 := kk2 _ _ hx1
  have I2 : PySem.W.InstAt h2 x (PySem.HandSPX.excO C t0) C none := ⟨hx2, rfl, rfl, trivial⟩
  have hmI := O.hm
  unfold PySem.W.ks_superIn at hmI
  rw [hcl] at hmI
  refine PySem.W.kxs_getMethod PySem.W.kxs_ValueError (K := K) (C := C) (x := x) (D := C) e2 (PySem.W.looks_opaque X2 O.opq) (fun A Q E s k q => wpAny_bind ((PySem.W.looks_clsIn X2 hcl) A _ E s k (wpAny_pure q))) rfl X2 hmI (I2.type.andThen (PySem.W.looks_subIn X2 O.hB)) (PySem.W.ks_ne X2 I2 hcl) (by decide) ?_
  have kk3 : ∀ b o, h2.get? b = some o → (h2.push (PySem.W.kxs_mw "ValueError.__init__" x)).get? b = some o := fun b o e => Heap.get?_push_of_some _ e
  have hu : (h2.push (PySem.W.kxs_mw "ValueError.__init__" x)).get? h2.objs.size = some (PySem.W.kxs_mw "ValueError.__init__" x) := Heap.get?_push_at rfl rfl
  generalize hh3 : h2.push (PySem.W.kxs_mw "ValueError.__init__" x) = h3 at kk3 hu
  have X3 : K.In h3 := X2.keeps kk3
  have hx3 := kk3 _ _ hx2
  obtain ⟨oL, es, ep, hL, rL⟩ := hns1
  have hns3 : h3.Ns hp.objs.size (fun y => List.lookup y (List.reverse [(("self" : Str), Value.ref x), (("value" : Str), v)])) := ⟨oL, es, ep, kk3 _ _ (kk2 _ _ hL), rL⟩
  refine PySem.W.kxs_callWith (i := "ValueError.__init__") (x := x) rfl ?_
  refine Calls.evalArgs_plain (Calls.spliced_cons (PySem.ESX.ldL hns3 hgl (Calls.spliced_nil ⟨hu, ?_⟩)))
  refine call_vw (kk3 _ _ (kk2 _ _ XC)) hx3 hu (by show 1 ≤ sizeLine; rw [sizeLine_eq]; omega) fun h4 t4 kk4 hx4 => ?_
  have hxn : ∀ b o, h0.get? b = some o → b ≠ x := fun b o e z => by
    rw [z, nx] at e
    cases e
  have k04 : ∀ b o, h0.get? b = some o → h4.get? b = some o := fun b o e => kk4 b o (hxn b o e) (kk3 _ _ (kk2 _ _ (kk1 _ _ (k0 _ _ e))))
  have X4 : K.In h4 := X₀.keeps k04
  have hns4 : h4.Ns hp.objs.size (fun y => List.lookup y (List.reverse [(("self" : Str), Value.ref x), (("value" : Str), v)])) := ⟨oL, es, ep, kk4 _ _ (fun z => hLx z.symm) (kk3 _ _ (kk2 _ _ hL)), rL⟩
  refine ks_wpAt_execs_cons (wpAt_of_wpAny ?_)
  refine plainObj_wpAny_Assign_Attribute (PySem.ESX.ldL hns4 hgl (PySem.ESX.ldL hns4 hgs ?_)) ?hs2
  case hs2 => exact rfl
  refine PySem.W.set_plain X4 (ox := PySem.HandSPX.excO C t4) (od := none) ⟨hx4, rfl, rfl, trivial⟩ O.T.sa ?_
  refine PySem.HandSPX.exc_osa X4 hx4 hcl (show PySem.HandSPX.refsVE (.ref C :: bm) = true from hbm) rfl O.hno (fun h5 tk5 dx kk5 dn dne hx5 hn5 => ?_)
  refine wpAt_of_wpAny (wpAny_execs_nil ?_)
  refine h h5 _ ⟨fun b o hb e => kk5 b o hb (kk4 b o hb (kk3 _ _ (kk2 _ _ (kk1 _ _ e)))), t4, dx, hx5, ?_, dne, hn5⟩
  cases z : hp.get? dx with
  | none => rfl
  | some o => exact absurd (Heap.lt_size (kk4 dx o dne (kk3 _ _ (kk2 _ _ (kk1 _ _ z))))) (Nat.not_lt.mpr dn)
end

/-! ### C(e) for such a class -/
section
variable {X : Cx} {pins : List (Addr × Obj)} {σ : L2.St} {H : Hp} {x : Str} {C fI : Addr} {k : Nat} {e : Expr} {p pos : Pos} {ta : TA}
/-- the object and its dict, made -/
structure Made (X : Cx) (pins : List (Addr × Obj)) (σ : L2.St) (H : Hp) (C : Addr) (y : V) (s s' : Shared) (a : Addr) : Prop where
  fin : ∃ (t1 d : Addr) (G : Heap), s'.heap.get? a = some ({ cls := .ref C, dict := some d, data := .fields #[.ref t1, .none, .none, .none, .bool false, .none] } : Obj) ∧ (∀ b o, G.get? b = some o → s'.heap.get? b = some o) ∧ G.get? a = none ∧
    Inv X pins σ (upd H d (.xd [("value", y)])) { s' with heap := G } ∧ (upd H d (.xd [("value", y)])) a = none ∧ H d = none ∧ H a = none ∧ d ≠ a ∧ s.heap.get? a = none
theorem make_own {s : Shared} {y : V} {v : Value} {Q : Value → Shared → Prop} (O : OwnX X.prog X.K C fI) (hr : Room (k + 1) X.A) (I : Inv X pins σ H s) (r : RelV y v) (h : ∀ a s', Made X pins σ H C y s s' a → Q (.ref a) s') :
    wpAny (model X.prog X.w) X.A (call (.ref C) [v]) Q X.xe s := by
  obtain ⟨nm, q, N, bs, bm, sn, sub, ab, col, dd, k0, k1, k2, k3, k5, hC, hbm⟩ := O.T.cls
  obtain ⟨mb, hb1, hb2⟩ := I.mod.blt
  obtain ⟨hp, g, dr, tk, os⟩ := s
  have kk : ∀ b o, hp.get? b = some o → ((hp.push (PySem.W.kdv_tup [v])).push (PySem.HandSPX.excO C hp.objs.size)).get? b = some o := fun b o e => Heap.get?_push_of_some _ (Heap.get?_push_of_some _ e)
  have hget : ((hp.push (PySem.W.kdv_tup [v])).push (PySem.HandSPX.excO C hp.objs.size)).get? (hp.objs.size + 1) = some (PySem.HandSPX.excO C hp.objs.size) := by heap_get
  have na : hp.get? (hp.objs.size + 1) = none := by
    cases z : hp.get? (hp.objs.size + 1) with
    | none => rfl
    | some o => exact absurd (Heap.lt_size z) (Nat.not_lt.mpr (Nat.le_succ _))
  refine wpAny_call (PySem.HandSPX.call_own F.excBase_ValueError (fun Y => PySem.HandSPX.refsVE_contains Y bm hbm) (I.kIn _ _ hC) (PySem.W.looks_findIn I.kIn O.iC) (fun self => PySem.W.bind_fn I.kIn self O.tI) (by show 1 ≤ sizeLine; rw [sizeLine_eq]; omega) ?_)
  refine ix_run O (hr.make C [v] []).depth (h0 := hp) (mg := X.mg) (mb := mb) I.kIn kk na ((by have := I.ok.glob; exact I.mod.glob.keeps I.bk)) (hb1.keeps I.bk) hb2 (I.nolimit.keeps kk) hget fun h' t' z => ?_
  obtain ⟨t1, d, hx, nd, dne, hn⟩ := z.obj
  have nhd : hp.get? d = none := by
    cases q : hp.get? d with
    | none => rfl
    | some o =>
      rw [kk d o q] at nd
      cases nd
  have hnd : H d = none := I.hok.gone nhd
  have hna : H (hp.objs.size + 1) = none := I.hok.gone na
  obtain ⟨G, g1, g2⟩ := restrict h' fun b => decide (b ≠ hp.objs.size + 1)
  have gk : ∀ b, b ≠ hp.objs.size + 1 → G.get? b = h'.get? b := fun b hb => g1 b (decide_eq_true hb)
  have ga : G.get? (hp.objs.size + 1) = none := g2 _ (by simp)
  have gs : ∀ b o, G.get? b = some o → h'.get? b = some o := fun b o e => by
    by_cases hb : b = hp.objs.size + 1
    · rw [hb, ga] at e
      cases e
    · rw [← gk b hb]
      exact e
  have hne : ∀ b o, hp.get? b = some o → b ≠ hp.objs.size + 1 := fun b o e z => by
    rw [z, na] at e
    cases e
  have rel : ∀ f : Str, RelO (([(("value" : Str), y)] : List (Str × V)).lookup f) (if f = ("value" : Str) then some v else none) := fun f => by
    rw [lookup_put]
    by_cases e : f = ("value" : Str)
    · rw [if_pos e, if_pos e]
      exact r
    · rw [if_neg e, if_neg e]
      exact True.intro
  have hnG : G.Ns1 d (fun f => if f = ("value" : Str) then some v else none) := hn.at fun o y => (gk d dne).trans y
  have J : Inv X pins σ (upd H d (.xd [("value", y)])) ⟨G, g, dr, t', os⟩ := I.laidN (t' := t') (a := d) (o := .xd [("value", y)]) (fun b o e => (gk b (hne b o e)).trans (z.keep b o (hne b o e) (kk b o e))) nhd hnd ⟨_, hnG, rel⟩
  exact ⟨rfl, h _ ⟨h', g, dr, t', os⟩ ⟨t1, d, G, hx, gs, ga, J, by rw [upd_ne (Ne.symm dne)]; exact hna, hnd, hna, dne, na⟩⟩
def tMkX (C : Addr) (ta : TA) : L2.St → Hp → XK → Prop := fun σ H Q => ta σ H fun vs H1 => ∃ y, vs = [y] ∧ ∀ d, H1 d = none → Q (.ref C) (some d) (upd H1 d (.xd [("value", y)]))
theorem pmk_x (O : OwnX X.prog X.K C fI) (hr : Room (k + 1) X.A) (hg : Gl X x) (hm : X.mg x = some (.ref C)) (ha : PA X [e] ta) (hdb : (x == ("__debug__" : Str)) = false := by decide)
    (he : starEach [e] X.env = (false, eval e X.env) :: starEach [] X.env := by rfl) (hpl : (backTo pos (starEach [] X.env)).any (·.1) = false := by rfl) : PMk X (.Call (.Name x p) [e] [] pos) (tMkX C ta) := by
  intro pins s σ H Q I h
  refine wpAny_Call_Name_kw (ld_glob I hg hm ?_ hdb)
  refine PySem.W.callWith_K (h₀ := X.base) I.ok.mod.kin O.T.kC (thn (ha.run pos pins s σ H _ I h) ?_) he hpl
  rintro us s1 ⟨vs, H1, I1, r1, y, rfl, q1⟩
  cases r1 with
  | cons ry rr =>
    cases rr
    refine ⟨I1.kIn, make_own O hr I1 ry fun a s' M => ?_⟩
    obtain ⟨t1, d, G, ho, gs, ga, J, ua, hd, _, _, _⟩ := M.fin
    exact ⟨a, _, _, { s' with heap := G }, _, .ref C, some d, rfl, J, gs, ga, ho, ⟨rfl, rfl⟩, rfl, rfl, ua, rfl, J.bare, raises_own O.T.exC O.T.tyC, q1 d hd⟩
end
end DD

set_option Elab.async false
set_option linter.all false
set_option maxRecDepth 100000
set_option maxHeartbeats 4000000
/-! DD9: own exceptions over data: raise, C(e) as a value, .value, isinstance, try: call / except C as n: y = n. -/
namespace DD
open PySem PySem.Spec PyProof.Rows L2

section
variable {X : Cx} {W : Fix} {x : Str} {C fI : Addr} {k : Nat} {e : Expr} {p pos pos' : Pos} {t : TDA}
theorem rpL1x {K : PySem.W.Frag} {F : Hp} {d : D} {vs : List V} (h : RpL K F [d] vs) : ∃ y, vs = [y] ∧ Rp K F d y := by
  unfold RpL at h
  obtain ⟨y, r, rfl, h1, h2⟩ := h
  unfold RpL at h2
  subst h2
  exact ⟨y, rfl, h1⟩
def dRaise (C : Addr) (E : Addr → List D → Env' → Prop) (t : TDA) : TSD := fun _ δ => t δ fun ds δ1 => ∃ d, ds = [d] ∧ E C [d] δ1
theorem ds_raise {E0 : Addr → List D → Env' → Prop} (te : TkE X W E0) (O : OwnX X.prog X.K C fI) (hc : X.calm = true) (hr : Room (k + 1) X.A) (hg : Gl X x) (hm : X.mg x = some (.ref C)) (h : DA X W [e] t) (hdb : (x == ("__debug__" : Str)) = false := by decide)
    (he : starEach [e] X.env = (false, eval e X.env) :: starEach [] X.env := by rfl) (hpl : (backTo pos (starEach [] X.env)).any (·.1) = false := by rfl) :
    DS X W (.Raise (some (.Call (.Name x p) [e] [] pos)) none pos') (dRaise C E0 t) :=
  .of (ps_raise hc te.tk (pmk_x O hr hg hm cA_pa hdb he hpl)) fun F H σ δ D S q => by
    refine (h.run F H σ δ _ S q).imp fun vs H1 h1 => ?_
    obtain ⟨F1, ds, δ1, e1, S1, r1, d, rfl, q1⟩ := h1
    obtain ⟨y, rfl, ry⟩ := rpL1x r1
    exact ⟨y, rfl, fun a ha => ⟨_, δ1, C, [d], S1.new ha, ⟨rfl, .inr ⟨a, y, d, rfl, rfl, upd_same, Rp.mono (same_upd (S1.freshF ha)) _ _ ry⟩⟩, by rw [te.eq]; exact q1⟩⟩

/-! ### C(e) as a value -/
def tMkV (C : Addr) (ta : TA) : TE := fun σ H Q => ta σ H fun vs H1 => ∃ y, vs = [y] ∧ ∀ d a, H1 d = none → H1 a = none → a ≠ d → Q (.ref a) (upd (upd H1 d (.xd [("value", y)])) a (ExcAt a C (some d)))
theorem pe_mkV {ta : TA} (O : OwnX X.prog X.K C fI) (hr : Room (k + 1) X.A) (hg : Gl X x) (hm : X.mg x = some (.ref C)) (ha : PA X [e] ta) (hdb : (x == ("__debug__" : Str)) = false := by decide)
    (he : starEach [e] X.env = (false, eval e X.env) :: starEach [] X.env := by rfl) (hpl : (backTo pos (starEach [] X.env)).any (·.1) = false := by rfl) : PE X (.Call (.Name x p) [e] [] pos) (tMkV C ta) := by
  refine ⟨fun pins s σ H Q I h => wpAny_Call_Name_kw (ld_glob I hg hm ?_ hdb)⟩
  refine PySem.W.callWith_K (h₀ := X.base) I.ok.mod.kin O.T.kC (thn (ha.run pos pins s σ H _ I h) ?_) he hpl
  rintro us s1 ⟨vs, H1, I1, r1, y, rfl, q1⟩
  cases r1 with
  | cons ry rr =>
    cases rr
    refine ⟨I1.kIn, make_own O hr I1 ry fun a s' M => ?_⟩
    obtain ⟨t1, d, G, ho, gs, ga, J, ua, hd, na, ne, _⟩ := M.fin
    have J2 : Inv X pins σ (upd (upd H1 d (.xd [("value", y)])) a (ExcAt a C (some d))) s' := J.laidN (t' := s'.toks) (a := a) (o := ExcAt a C (some d)) gs ga ua
      ⟨⟨_, _, ho, rfl, rfl, rfl⟩, ⟨_, ho⟩, fun h1 h2 z k => by
        obtain ⟨oe, vs, z1, z2⟩ := z
        exact ⟨oe, vs, k _ z1, z2⟩⟩
    exact ⟨.ref a, _, J2, rfl, q1 d a hd na (Ne.symm ne)⟩
def dMkX (C : Addr) (t : TDA) : TD := fun δ Q => t δ fun ds δ1 => ∃ d, ds = [d] ∧ Q (.p (.exc C [d])) δ1
theorem de_mkX (O : OwnX X.prog X.K C fI) (hr : Room (k + 1) X.A) (hg : Gl X x) (hm : X.mg x = some (.ref C)) (h : DA X W [e] t) (hdb : (x == ("__debug__" : Str)) = false := by decide)
    (he : starEach [e] X.env = (false, eval e X.env) :: starEach [] X.env := by rfl) (hpl : (backTo pos (starEach [] X.env)).any (·.1) = false := by rfl) : DE X W (.Call (.Name x p) [e] [] pos) (dMkX C t) :=
  .of (pe_mkV O hr hg hm cA_pa hdb he hpl) fun F H σ δ Q S q => by
    refine (h.run F H σ δ _ S q).imp fun vs H1 h1 => ?_
    obtain ⟨F1, ds, δ1, e1, S1, r1, d, rfl, q1⟩ := h1
    obtain ⟨y, rfl, ry⟩ := rpL1x r1
    refine ⟨y, rfl, fun dx a hd ha ne => ?_⟩
    have S2 := S1.new (o := .xd [("value", y)]) hd
    have ha2 : (upd H1 dx (.xd [("value", y)])) a = none := by rw [upd_ne ne]; exact ha
    have S3 := S2.new (o := ExcAt a C (some dx)) ha2
    have s1 := same_upd (o := .xd [("value", y)]) (S1.freshF hd)
    have s2 := same_upd (o := ExcAt a C (some dx)) (S2.freshF ha2)
    refine DQ.back (e1.trans (s1.trans s2)) (.mk S3 ?_ q1)
    unfold Rp
    exact ⟨a, dx, y, [y], rfl, upd_same, s2 _ _ upd_same, rfl, .cons (Rp.mono (s1.trans s2) _ _ ry) .nil⟩

/-! ### the field -/
structure XfE (K : PySem.W.Frag) (C : Addr) : Prop where
  T : XfC K C
  no : PySem.W.findIn K (.ref C) "value" = some none
  cl : (PySem.W.clsIn K C).isSome = true
  ac : PySem.W.findIn K (.ref C) "__class__" = some (some (.builtin "object.__class__"))
  sp : PySem.W.specialIn K (.builtin "object.__class__") "__get__" = some (some (.builtin "getset_descriptor.__get__"))
  tk : PySem.W.takesIn K (.builtin "object.__class__") = some true
  ob : PySem.W.mroIn K C (.type "object") = some true
theorem excAt_look {pins : List (Addr × Obj)} {σ : L2.St} {H : Hp} {s : Shared} {a dx : Addr} {fs : List (Str × V)} (I : Inv X pins σ H s) (h1 : H a = some (ExcAt a C (some dx))) (h2 : H dx = some (.xd fs)) :
    ∃ (oe : Obj) (od : Obj) (mA : Str → Option Value), PySem.W.InstAt s.heap a oe C (some od) ∧ (∀ f, RelO (fs.lookup f) (mA f)) ∧ ∀ f, PySem.W.lookIn f od = some (mA f) := by
  obtain ⟨⟨oe, vs, ho, hc, hd, hv⟩, _⟩ := I.hok a _ h1
  have hx : ObjOk X.prog X.w H s.heap dx (.xd fs) := I.hok dx _ h2
  obtain ⟨mA, hns, hr⟩ := hx
  obtain ⟨od, hod, hl⟩ := lookIn_ns hns
  exact ⟨oe, od, mA, ⟨ho, hc, by unfold PySem.W.notCls; rw [hv] <;> rfl, by rw [hd]; exact hod⟩, hr, hl⟩
def tXv (K : PySem.W.Frag) (te : TE) : TE := fun σ H Q => te σ H fun v H1 => ∃ (a C dx : Addr) (y : V), v = .ref a ∧ XfE K C ∧ H1 a = some (ExcAt a C (some dx)) ∧ H1 dx = some (.xd [("value", y)]) ∧ Q y H1
theorem pe_xv {te : TE} (he : PE X e te) (hb : attributeBase e "value" X.env (eval e X.env) = eval e X.env := by rfl) : PE X (.Attribute e "value" pos) (tXv X.K te) := by
  refine ⟨fun pins s σ H Q I h => attr_of hb (thn (he.run pins s σ H _ I h) ?_)⟩
  rintro u s1 ⟨v, H1, I1, rx, a, C, dx, y, rfl, T, h1, h2, q⟩
  obtain rfl : u = Value.ref a := rx
  obtain ⟨oe, od, mA, J, hr, hl⟩ := excAt_look I1 h1 h2
  obtain ⟨u, hu, ru⟩ := RelO.some_of (v := y) (o := mA "value") (hr "value")
  exact PySem.HandSPX.exc_get I1.kIn J T.T.ga T.T.gg T.T.exC (PySem.W.findObj_own T.T.hdC T.no rfl (by rw [hl, hu])) (handed_of ru) ⟨y, H1, I1.tok _, ru, q⟩
def dXv (K : PySem.W.Frag) (t : TD) : TD := fun δ Q => dp t δ fun d δ1 => ∃ C y, d = .exc C [y] ∧ XfE K C ∧ Q (.p y) δ1
theorem de_xv {t : TD} (h : DE X W e t) (hb : attributeBase e "value" X.env (eval e X.env) = eval e X.env := by rfl) : DE X W (.Attribute e "value" pos) (dXv X.K t) :=
  .of (pe_xv cE_pe hb) fun F H σ δ Q S q => by
    refine (h.plain S q).imp fun v H1 h1 => ?_
    obtain ⟨F1, d, δ1, e1, S1, r1, C, y, rfl, T, q1⟩ := h1
    unfold Rp at r1
    obtain ⟨a, dx, z, xs, rfl, h1, h2, rfl, r2⟩ := r1
    obtain ⟨z', e2, r3⟩ := rpL1x r2
    cases e2
    exact ⟨a, C, dx, z, rfl, T, S1.fh _ _ h1, S1.fh _ _ h2, DQ.back e1 (.mk S1 r3 q1)⟩

/-! ### isinstance of data, of an exception too -/
inductive TyZ (K : PySem.W.Frag) (H : Hp) : V → Value → Prop where
  | base {x : V} {t : Value} (h : TyX K H x t) : TyZ K H x t
  | exc {a C dx : Addr} {y : V} (h1 : H a = some (ExcAt a C (some dx))) (h2 : H dx = some (.xd [("value", y)])) (T : XfE K C) : TyZ K H (.ref a) (.ref C)
def rIsZ (K : PySem.W.Frag) : List V → Hp → VK → Prop := fun xs H Q => ∃ (x c : V) (t u : Value) (b : Bool), xs = [x, c] ∧ ClsV c u ∧ TyZ K H x t ∧ PySem.W.kitOne K t u = some b ∧ Q (.bl b) H
theorem call_isZ : CallR X (.builtin "isinstance") (rIsZ X.K) := by
  intro pins s σ H xs us Q I r h
  obtain ⟨x, c, t, u, b, rfl, k, ty, e, q⟩ := h
  cases ty with
  | base ty => exact call_isi pins s σ H _ us Q I r ⟨x, c, t, u, b, rfl, k, ty, e, q⟩
  | exc h1 h2 T =>
    obtain ⟨u1, u2, rfl, r1, r2⟩ := vals2 r
    have e2 := k.eq r2
    subst e2
    obtain ⟨oe, od, mA, J, _, _⟩ := excAt_look I h1 h2
    cases r1
    exact PySem.W.kia_one (PySem.W.kitx_exc T.cl T.T.ga T.T.gg T.T.exC T.ac T.sp T.tk T.ob) I.kIn J e (fun z => nomatch z) fun tk => ⟨.bl b, H, I.tok tk, rfl, q⟩
def isZG (K : PySem.W.Frag) : List D → (B → Prop) → Prop := fun ds Q => isiG K ds Q ∨ ∃ C y c u b, ds = [.exc C [y], c] ∧ XfE K C ∧ clsD c = some u ∧ PySem.W.kitOne K (.ref C) u = some b ∧ Q (.p (.bl b))
theorem rc_isZ {K : PySem.W.Frag} : RC K (rIsZ K) (isZG K) := by
  intro W F H σ δ xs ds Q Z S r g hZ
  rcases g with g | g
  · obtain ⟨x, c, t, u, b, h1, h2, h3, h4, q⟩ := rc_isi W F H σ δ xs ds Q Z S r g hZ
    exact ⟨x, c, t, u, b, h1, h2, .base h3, h4, q⟩
  · obtain ⟨C, y, c, u, b, rfl, T, h2, h3, q⟩ := g
    obtain ⟨v, w, rfl, rv, rw'⟩ := rpL2 r
    have hc : ClsV w u := by
      cases c <;> first | (cases h2; done) | skip
      · cases h2
        rw [rpTy rw']
        exact .ty _
      · cases h2
        unfold Rp at rw'
        rw [rw']
        exact .own _
    unfold Rp at rv
    obtain ⟨a, dx, z, xs, rfl, h4, h5, rfl, r2⟩ := rv
    exact ⟨.ref a, w, _, u, b, rfl, hc, .exc (S.fh _ _ h4) (S.fh _ _ h5) T, h3, hZ _ _ (mkP S rp_bl q)⟩
end

/-! ### try: body / except c as n: y = n; the object stays -/
section
variable {X : Cx} {pins : List (Addr × Obj)} {σ : L2.St} {H : Hp} {s : Shared}
theorem track {a C : Addr} {d : Option Addr} {oe : Obj} {vs : Array Value} (I : Inv X ((a, oe) :: pins) σ H s) (hx : X.ex = []) (h0 : X.s_0.heap.get? a = none) (nc : oe.cls = .ref C) (ed : oe.dict = d) (dt : oe.data = .fields vs) (np : ∀ p ∈ X.pn ++ pins, p.1 ≠ a) :
    Inv X pins σ (upd H a (ExcAt a C d)) s := by
  obtain ⟨ha, na, nL, nF, _⟩ := I.pin (a, oe) (List.mem_append_right _ List.mem_cons_self)
  have ha : s.heap.get? a = some oe := ha
  have na : H a = none := na
  have ne0 : ∀ b o, X.s_0.heap.get? b = some o → b ≠ a := fun b o e z => by
    rw [z, h0] at e
    cases e
  have cne : ∀ x c, X.env.cells.lookup x = some c → c ≠ a := fun x c e z => by
    obtain ⟨v, o, ho, hd⟩ := I.cell x c e
    rw [z, ha] at ho
    cases ho
    rw [dt] at hd
    cases hd
  refine ⟨I.ok, I.os, I.bare, ⟨I.base.keep, I.base.slot, fun b o e n q => ?_, I.base.there, fun b xs q => ?_, fun b o u q => ?_, fun b ps q => ?_⟩, I.loc, I.cell, ?_, fun x c e => ?_, fun p hp => ?_, fun b u e => ?_, I.len⟩
  · rw [upd_ne (ne0 b o e)]
    exact I.base.free b o e n q
  · have z := I.base.tups b xs q
    rw [upd_ne (ne_of_none z na)]
    exact z
  · have z := I.base.frzs b o u q
    rw [upd_ne (ne_of_none z na)]
    exact z
  · obtain ⟨m, z⟩ := I.base.tbls b ps q
    exact ⟨m, by rw [upd_ne (ne_of_none z na)]; exact z⟩
  · rw [upd_ne (Ne.symm nL)]
    exact I.free
  · rw [upd_ne (cne x c e)]
    exact I.freeC x c e
  · have hp' : p ∈ X.pn ++ (a, oe) :: pins := by
      rcases List.mem_append.mp hp with z | z
      · exact List.mem_append_left _ z
      · exact List.mem_append_right _ (List.mem_cons_of_mem _ z)
    obtain ⟨q1, q2, q3⟩ := I.pin p hp'
    exact ⟨q1, by rw [upd_ne (np p hp)]; exact q2, q3⟩
  · by_cases hb : b = a
    · subst hb
      rw [upd_same] at e
      cases e
      exact ⟨⟨oe, vs, ha, nc, ed, dt⟩, ⟨oe, ha⟩, fun h1 h2 z k => by
        obtain ⟨o, w, z1, z2⟩ := z
        exact ⟨o, w, k _ z1, z2⟩⟩
    · rw [upd_ne hb] at e
      exact (I.hok b u e).stay (fun c v _ q => q) (fun c q => by rw [upd_ne (ne_of_none q na)]; exact q) fun c xs q => by rw [upd_ne (ne_of_none q na)]; exact q
/-- what is wished of an exception of the body -/
def wKeep (K : PySem.W.Frag) (c : Value) (i j : Nat) (D : Ends) : WX := fun cls d σ H =>
  ∃ C, cls = .ref C ∧ PySem.W.exmOne K cls c = some true ∧ ∀ a, H a = none → D.nx (((σ.set i (some (.ref a))).set j (some (.ref a))).set i none) (upd H a (ExcAt a C d))
variable {x n y : Str} {c : Value} {i j : Nat} {body : List Stmt} {np py pn pa pos pos' : Pos} {tb : WX → TS}
theorem ps_try_keep (hex : X.ex = []) (hs : X.stack = X.env :: X.outer) (hf : X.env.frame = some X.env.locals) (hN : X.N.Nodup) (hi : X.N[i]? = some n) (hln : X.env.kindOf n = some .local) (hj : X.N[j]? = some y) (hlj : X.env.kindOf y = some .local) (hc : Names X x c)
    (hv : Vis X.env.scope n) (hdn : (n == ("__debug__" : Str)) = false) (hcn : (n == ("__classdict__" : Str)) = false) (hsw : swapsWith (.Name n pn) (some (.Name y py)) pa.line X.env = pure false)
    (hb : ∀ (W : WX) (pn : List (Addr × Obj)) (xe : Value → Shared → Prop), Takes (X.tr pn xe) W → PSs (X.tr pn xe) body (tb W)) :
    PS X (.Try body [.ExceptHandler (some (.Name x np)) (some n) [.Assign [.Name y py] (.Name n pn) pa] pos'] [] [] pos) (fun D σ H => tb (wKeep X.K c i j D) D σ H) := by
  refine ⟨fun pins s σ H D I h => ?_⟩
  have ok := I.ok
  have hfr : X.A.frames = some (X.env :: X.outer) := by rw [ok.frames, hs]
  refine wpAny_Try_except (wpAny_mono ((hb (wKeep X.K c i j D) (X.pn ++ pins) (fun e s₁ => wpAny (model X.prog X.w) X.A (noteFrame e X.env) (fun _ s₂ => wpAny (model X.prog X.w) X.A (setFlight e none)
    (fun _ s₃ => wpAny (model X.prog X.w) X.A (handleBy e X.env [.ExceptHandler (some (.Name x np)) (some n) [.Assign [.Name y py] (.Name n pn) pa] pos']) (SP X pins D) X.xe s₃) X.xe s₂) X.xe s₁) (fun u s' xx => ?_)).run [] s σ H D (I.toTry _) h) (fun f s1 hsp => ?_) fun e s1 he => he)
  · obtain ⟨a, B, sI, pins', σ', H', cls, d, rfl, J', nb, up, sky, na, os, ag, C, rfl, hm1, hyes⟩ := xx
    have J : Inv X pins σ' H' sI := J'.ofTry ok
    have sky2 : Sky B (X.env :: X.outer) a (Zc (.ref C) d) X.env.locals s'.heap := by
      rw [← hs]
      exact sky
    show wpAny _ X.A (noteFrame (.ref a) X.env) _ _ _
    refine Sky.land Zc.steady hfr hf sky2 ?_
    intro h3 fl3 up3
    have J3 : Inv X pins σ' H' { s' with heap := h3 } := J.landed nb fl3.1 (up.trans up3) os ag
    obtain ⟨oe3, vs3, he3, hz3, hd3⟩ := fl3.there
    have notFr : ∀ {h : Heap} {o : Obj} {vs : Array Value}, h.FunFrames B (X.env :: X.outer) → h.get? a = some o → o.data = .fields vs → a ∉ frs (X.env :: X.outer) := by
      intro h o vs ff e dd hm
      obtain ⟨_, o', e2, hnf⟩ := ff.mem hm
      rw [e] at e2
      cases e2
      exact hnf _ dd
    have nfr := notFr fl3.2.2.1 he3 hd3
    have nB : B.get? a = none := fl3.2.1
    have nL : a ≠ X.env.locals := fun z => nfr (List.mem_filterMap.mpr ⟨X.env, List.mem_cons_self, by rw [hf, z]⟩)
    have nF : a ∉ X.fs := by
      intro hm
      obtain ⟨e, he, q⟩ := List.mem_filterMap.mp hm
      exact nfr (List.mem_filterMap.mpr ⟨e, List.mem_cons_of_mem _ he, q⟩)
    have nI : sI.heap.get? a = none := by
      cases z : sI.heap.get? a with
      | none => rfl
      | some o =>
        rw [nb a o z (by rw [hs]; exact nfr)] at nB
        cases nB
    have n0 : X.s_0.heap.get? a = none := by
      cases z : X.s_0.heap.get? a with
      | none => rfl
      | some o =>
        obtain ⟨o', q⟩ := J.base.there a o z (by rw [hex]; exact fun z => nomatch z)
        rw [nI] at q
        cases q
    have npp : ∀ p ∈ X.pn ++ pins, p.1 ≠ a := by
      intro p hp z
      obtain ⟨q, _⟩ := J.pin p hp
      rw [z, nI] at q
      cases q
    have S3 := J3.suite he3 hd3 na nL nF
    refine wpAny_handleBy_cons (codeAny_handlers_test ?_) (by intro q; cases q)
    have LT : PySem.W.Looks (model X.prog X.w) h3 (typeOf (.ref a)) (.ref C) := fun A Q E s k q => wpAny_typeOf_ref (k _ _ he3) (by rw [hz3.1]; exact q)
    have LM := PySem.W.exm_one (M := model X.prog X.w) (J3.kIn) LT hm1
    have test : ∀ {Q : Value → Shared → Prop} {E : Value → Shared → Prop}, Q c { s' with heap := h3 } → wpAny (model X.prog X.w) (X.A.mark (some (.ref a))) (eval (.Name x np) X.env) Q E { s' with heap := h3 } := by
      intro Q E q
      obtain ⟨hg, hdbg, hm | ⟨hm, hv, hnn⟩⟩ := hc
      · exact ld_glob (X := X.suite a ((a, oe3) :: (X.pn ++ pins))) S3 hg hm q hdbg
      · exact ld_blt (X := X.suite a ((a, oe3) :: (X.pn ++ pins))) S3 hg hm hv q hnn hdbg
    refine test (LM.here (codeAny_handlers_suite_as ?_))
    refine HandSPX.lands_againZ fl3 ?_
    intro h4 fl4 up4
    have J4 : Inv X pins σ' H' { s' with heap := h4 } := J.landed nb fl4.1 ((up.trans up3).trans up4) os ag
    obtain ⟨oe4, vs4, he4, hz4, hd4⟩ := fl4.there
    have S4 := J4.suite he4 hd4 na nL nF
    refine store_ok (X := X.suite a ((a, oe4) :: (X.pn ++ pins))) (v := .ref a) S4 hN hi (.inl hln) rfl (fun s5 S5 => ?_) (.inr hln)
    have hli : i < σ'.length := by
      rw [S4.len]
      exact (List.getElem?_eq_some_iff.mp hi).1
    refine wpAny_mono ((pss_one (ps_set (X := X.suite a ((a, oe4) :: (X.pn ++ pins))) hN hj (.inl hlj) (pe_var hi hv hdn hcn) hsw (.inr hlj))).run [] s5 _ H' (D := { nx := fun σ6 H6 => σ6 = (σ'.set i (some (.ref a))).set j (some (.ref a)) ∧ H6 = H', rt := fun _ _ => False }) S5 ?_) (fun f s6 hsp => ?_) (fun _ _ z => False.elim z)
    · exact ⟨.ref a, by rw [List.getElem?_set_self hli], rfl, rfl⟩
    · cases f with
      | next =>
        obtain ⟨σ6, H6, S6, rfl, rfl⟩ := hsp
        have K6 : Inv X ((a, oe4) :: pins) ((σ'.set i (some (.ref a))).set j (some (.ref a))) H6 s6 := ⟨ok, S6.os, S6.bare, S6.base, S6.loc, S6.cell, S6.free, S6.freeC, fun p hp => by
          refine S6.pin p (List.mem_append_left _ ?_)
          rcases List.mem_append.mp hp with z | z
          · exact List.mem_cons_of_mem _ (List.mem_append_left _ z)
          · rcases List.mem_cons.mp z with z | z
            · rw [z]
              exact List.mem_cons_self
            · exact List.mem_cons_of_mem _ (List.mem_append_right _ z), S6.hok, S6.len⟩
        exact gone_ok K6 hN hi hln fun s7 J7 => ⟨_, _, track J7 hex n0 hz4.1 hz4.2 hd4 npp, hyes a na⟩
      | ret u =>
        obtain ⟨v, σ6, H6, S6, r6, q6⟩ := hsp
        exact q6.elim
      | brk =>
        obtain ⟨σ6, H6, S6, q6⟩ := hsp
        exact q6.elim
      | cont =>
        obtain ⟨σ6, H6, S6, q6⟩ := hsp
        exact q6.elim
  · cases f with
    | next =>
      obtain ⟨σ', H', J', q⟩ := hsp
      exact wpAny_execs_nil ⟨σ', H', J'.ofTry ok, q⟩
    | brk =>
      obtain ⟨σ', H', J', q⟩ := hsp
      exact ⟨σ', H', J'.ofTry ok, q⟩
    | cont =>
      obtain ⟨σ', H', J', q⟩ := hsp
      exact ⟨σ', H', J'.ofTry ok, q⟩
    | ret u =>
      obtain ⟨v, σ', H', J', r, q⟩ := hsp
      exact ⟨v, σ', H', J'.ofTry ok, r, q⟩
end

/-! ### the same over data -/
section
variable {X : Cx} {W : Fix} {x n y : Str} {c : Value} {i j : Nat} {body : List Stmt} {np py pn pa pos pos' : Pos} {tb : (Addr → List D → Env' → Prop) → TSD}
/-- what follows a caught exception: its class, what it holds, into slot j -/
def eKeep (K : PySem.W.Frag) (c : Value) (i j : Nat) (D : EndsD) : Addr → List DD.D → Env' → Prop := fun C ds δ => ∃ d, ds = [d] ∧ PySem.W.exmOne K (.ref C) c = some true ∧ D.nx ((δ.set j (some (.p (.exc C [d])))).set i none)
def dTry (K : PySem.W.Frag) (c : Value) (i j : Nat) (tb : (Addr → List D → Env' → Prop) → TSD) : TSD := fun D δ => tb (eKeep K c i j D) D δ
theorem ds_try (hex : X.ex = []) (hs : X.stack = X.env :: X.outer) (hf : X.env.frame = some X.env.locals) (hN : X.N.Nodup) (hi : X.N[i]? = some n) (hln : X.env.kindOf n = some .local) (hj : X.N[j]? = some y) (hlj : X.env.kindOf y = some .local) (hc : Names X x c)
    (hb : ∀ (E0 : Addr → List D → Env' → Prop) (W' : Fix) (pn : List (Addr × Obj)) (xe : Value → Shared → Prop), TkE (X.tr pn xe) W' E0 → DSs (X.tr pn xe) W' body (tb E0))
    (hv : Vis X.env.scope n := by first | exact Or.inl rfl | exact Or.inr (Or.inl rfl) | exact Or.inr (Or.inr rfl)) (hdn : (n == ("__debug__" : Str)) = false := by decide) (hcn : (n == ("__classdict__" : Str)) = false := by decide) (hsw : swapsWith (.Name n pn) (some (.Name y py)) pa.line X.env = pure false := by rfl) (hij : i ≠ j := by decide) :
    DS X W (.Try body [.ExceptHandler (some (.Name x np)) (some n) [.Assign [.Name y py] (.Name n pn) pa] pos'] [] [] pos) (dTry X.K c i j tb) :=
  .of (ps_try_keep (tb := fun W D σ H => ∀ pn xe, Takes (X.tr pn xe) W → cSs (X.tr pn xe) body D σ H) hex hs hf hN hi hln hj hlj hc hv hdn hcn hsw (fun W pn xe tk => ⟨fun pins s σ H D I h => h pn xe tk pins s I⟩)) fun F H σ δ D S q pn xe tk => by
    have tk2 : Takes (X.tr pn xe) (WXd X.K (W.at F (eKeep X.K c i j D))) := tk.imp fun cls dd σ1 H1 z => by
      obtain ⟨F1, δ1, C, ds, T, ⟨rfl, er⟩, d, rfl, hm, q1⟩ := z
      rcases er with ⟨er, _⟩ | ⟨dx, v, d', e1, rfl, hx, rv⟩
      · cases er
      cases e1
      have T1 := S.outof T
      refine ⟨C, rfl, hm, fun a ha => ?_⟩
      have e2 := same_upd (o := ExcAt a C (some dx)) (T1.freshF ha)
      have T2 := T1.new (o := ExcAt a C (some dx)) ha
      have r2 : Rp X.K (upd F1 a (ExcAt a C (some dx))) (.exc C [d]) (.ref a) := by
        unfold Rp
        exact ⟨a, dx, v, [v], rfl, upd_same, e2 _ _ hx, rfl, .cons (Rp.mono e2 _ _ rv) .nil⟩
      refine ⟨upd F1 a (ExcAt a C (some dx)), (δ1.set j (some (.p (.exc C [d])))).set i none, ?_, q1⟩
      have T3 := (T2.put (i := i) (b := .p (.exc C [d])) r2 (fun z => by cases z)).put (i := j) (b := .p (.exc C [d])) r2 (fun z => by cases z)
      have eq1 : (((δ1.set i (some (B.p (.exc C [d])))).set j (some (B.p (.exc C [d])))).set i none) = ((δ1.set j (some (B.p (.exc C [d])))).set i none) := by
        rw [List.set_comm _ _ hij, List.set_set]
      rw [← eq1]
      refine (T3.drop (i := i)).slots (by rw [List.length_set]) fun k b e => ?_
      by_cases hk : k = i
      · subst hk
        have hl := (List.getElem?_eq_some_iff.mp e).1
        rw [List.length_set] at hl
        rw [List.getElem?_set_self hl] at e
        cases e
      · rw [List.getElem?_set_ne (Ne.symm hk)]
    exact ((hb (eKeep X.K c i j D) (W.at F (eKeep X.K c i j D)) pn xe ⟨rfl, tk2⟩).run F H σ δ D (S.into _) q).imp (fun _ _ z => MQ.outof S z) (fun _ _ z => UQ.outof S z) (fun _ _ z => MQ.outof S z) (fun _ _ z => MQ.outof S z)
end
end DD

set_option Elab.async false
set_option linter.all false
set_option maxRecDepth 100000
set_option maxHeartbeats 4000000
/-! DD10: repr over data. -/
namespace DD
open PySem PySem.Spec PyProof.Rows L2

def keyPy : Key → PyData
  | .inl i => .int i
  | .inr x => .str x
mutual
def toPyR : D → Option PyData
  | .non => some .none
  | .bl b => some (.bool b)
  | .int i => some (.int i)
  | .str s => some (.str s)
  | .lst ds => (toPyRL ds).map .list
  | .tup ds => (toPyRL ds).map .tuple
  | .cst ds => (toPyRL ds).map .tuple
  | .dct ks ds => (toPyRL ds).map fun xs => .dict ((ks.map keyPy).zip xs)
  | _ => none
def toPyRL : List D → Option (List PyData)
  | [] => some []
  | d :: ds => (toPyR d).bind fun x => (toPyRL ds).map fun xs => x :: xs
end
section
variable {X : Cx} {pins : List (Addr × Obj)} {σ : L2.St} {F H : Hp} {s : Shared}
theorem sys_ne {o : HO} {a : Addr} (I : Inv X pins σ H s) (hsy : ∃ o, X.K.lookup sysModules = some o) (h : H a = some o) : a ≠ sysModules := fun z => by
  obtain ⟨o', e⟩ := hsy
  have := (I.bs _ _ (I.mod.kin _ _ e)).2
  rw [← z, h] at this
  cases this
/-- which addresses a reading may name -/
def NoSys (as : List Addr) : Prop := sysModules ∉ as
theorem KV.keys {ks : List Key} : ∀ {kvs : List (Key × V)} {vs : List (Key × Value)}, KV kvs vs → vs.map (·.1) = kvs.map (·.1)
  | _, _, .nil => rfl
  | _, _, .cons r t => by
    rw [List.map_cons, List.map_cons, r.1, KV.keys (ks := ks) t]
theorem KV.vals : ∀ {kvs : List (Key × V)} {vs : List (Key × Value)}, KV kvs vs → Vals (kvs.map (·.2)) (vs.map (·.2))
  | _, _, .nil => .nil
  | _, _, .cons r t => .cons r.2 (KV.vals t)
theorem pairs_keys {P : Program} {w : World} : ∀ {es : List DictEntry} {vs : List (Key × Value)}, Pairs (mixKind P w) es vs → ReadsAll s.heap (es.map (·.key)) ((vs.map (·.1)).map keyPy) []
  | _, _, .nil => .nil
  | _, _, .cons (kv := kv) h1 h2 t => by
    rcases keyIs_shape (show keyIs kv.1 _ = true from h1) with ⟨i, u, e1, e2⟩ | ⟨x, u, e1, e2⟩
    · have q : Reads s.heap (Value.int i u) (.int i) [] := .int i u
      rw [List.map_cons, List.map_cons, List.map_cons, e1, e2]
      exact .cons (as := []) (bs := []) q (pairs_keys t)
    · have q : Reads s.heap (Value.str x u) (.str x) [] := .str x u
      rw [List.map_cons, List.map_cons, List.map_cons, e1, e2]
      exact .cons (as := []) (bs := []) q (pairs_keys t)
theorem pairs_vals {P : Program} {w : World} : ∀ {es : List DictEntry} {vs : List (Key × Value)}, Pairs (mixKind P w) es vs → es.map (·.val) = vs.map (·.2)
  | _, _, .nil => rfl
  | _, _, .cons h1 h2 t => by rw [List.map_cons, List.map_cons, h2, pairs_vals t]
mutual
theorem Rp.reads (I : Inv X pins σ H s) (hsy : ∃ o, X.K.lookup sysModules = some o) (e : Same F H) : ∀ (d : D) (v : V) (u : Value) (c : PyData), Rp X.K F d v → toPyR d = some c → RelV v u → ∃ as, Reads s.heap u c as ∧ NoSys as
  | .non, v, u, c, h, t, r => by
    rw [rpNon h] at r
    cases r
    cases t
    exact ⟨_, .none, fun w => nomatch w⟩
  | .bl b, v, u, c, h, t, r => by
    rw [rpBl h] at r
    cases r
    cases t
    exact ⟨_, .bool b, fun w => nomatch w⟩
  | .int i, v, u, c, h, t, r => by
    rw [rpInt h] at r
    obtain ⟨tk, rfl⟩ := r
    cases t
    exact ⟨_, .int i tk, fun w => nomatch w⟩
  | .str x, v, u, c, h, t, r => by
    rw [rpStr h] at r
    obtain ⟨tk, rfl⟩ := r
    cases t
    exact ⟨_, .str x tk, fun w => nomatch w⟩
  | .lst ds, v, u, c, h, t, r => by
    obtain ⟨a, xs, rfl, h1, h2⟩ := rpLst h
    unfold toPyR at t
    cases q : toPyRL ds with
    | none =>
      rw [q] at t
      cases t
    | some cs =>
      rw [q] at t
      cases t
      cases r
      obtain ⟨its, rv, ⟨o, n, ho, hc, _, hd⟩, _⟩ := I.list (SqL.of (K := X.K) (e _ _ h1))
      obtain ⟨as, hr, hn⟩ := RpL.reads I hsy e ds xs its cs h2 q rv
      refine ⟨_, .list ho hc hd hr, fun w => ?_⟩
      rcases List.mem_cons.mp w with w | w
      · exact sys_ne I hsy (e _ _ h1) w.symm
      · exact hn w
  | .tup ds, v, u, c, h, t, r => by
    obtain ⟨a, xs, rfl, h1, h2⟩ := rpTup h
    unfold toPyR at t
    cases q : toPyRL ds with
    | none =>
      rw [q] at t
      cases t
    | some cs =>
      rw [q] at t
      cases t
      cases r
      obtain ⟨its, rv, ⟨o, ho, hc, n, hd⟩, _⟩ := I.tuple (sqT_mono e h1)
      obtain ⟨as, hr, hn⟩ := RpL.reads I hsy e ds xs its cs h2 q rv
      exact ⟨_, .tuple ho hc hd hr, hn⟩
  | .dct ks ds, v, u, c, h, t, r => by
    unfold Rp at h
    obtain ⟨a, xs, rfl, h1, h2, h3⟩ := h
    unfold toPyR at t
    cases q : toPyRL ds with
    | none =>
      rw [q] at t
      cases t
    | some cs =>
      rw [q] at t
      cases t
      cases r
      obtain ⟨_, hs, vs, kv, o, es, ep, ho, ⟨hc, _⟩, hd, _, hp, _⟩ := (show ObjOk X.prog X.w H s.heap a (.dK (ks.zip xs)) from I.hok a _ (e _ _ h1))
      have rv := KV.vals kv
      rw [← pairs_vals hp] at rv
      have hl : xs.length = ks.length := h3.symm
      have e2 : (ks.zip xs).map (·.2) = xs := by
        rw [List.map_snd_zip]
        omega
      have e1 : (ks.zip xs).map (·.1) = ks := by
        rw [List.map_fst_zip]
        omega
      rw [e2] at rv
      obtain ⟨as, hr, hn⟩ := RpL.reads I hsy e ds xs _ cs h2 q rv
      have hk := pairs_keys (s := s) hp
      rw [KV.keys (ks := []) kv, e1] at hk
      have hcl : cs.length = ks.length := by
        have a1 := RpL.length h2
        have a2 : ∀ {ds : List D} {cs : List PyData}, toPyRL ds = some cs → cs.length = ds.length := by
          intro ds
          induction ds with
          | nil =>
            intro cs h
            cases h
            rfl
          | cons d ds ih =>
            intro cs h
            unfold toPyRL at h
            cases q1 : toPyR d with
            | none =>
              rw [q1] at h
              cases h
            | some c =>
              cases q2 : toPyRL ds with
              | none =>
                rw [q1, q2] at h
                cases h
              | some cs' =>
                rw [q1, q2] at h
                cases h
                rw [List.length_cons, List.length_cons, ih q2]
        have a3 := a2 q
        omega
      have hz1 : ((ks.map keyPy).zip cs).map (·.1) = ks.map keyPy := by
        rw [List.map_fst_zip]
        rw [List.length_map]
        omega
      have hz2 : ((ks.map keyPy).zip cs).map (·.2) = cs := by
        rw [List.map_snd_zip]
        rw [List.length_map]
        omega
      refine ⟨_, .dict ho hc hd (by rw [hz1]; exact hk) (by rw [hz2]; exact hr), fun w => ?_⟩
      have w2 : sysModules ∈ a :: as := by simpa using w
      rcases List.mem_cons.mp w2 with w3 | w3
      · exact sys_ne I hsy (e _ _ h1) w3.symm
      · exact hn w3
  | .ty _, _, _, _, _, t, _ => by cases t
  | .ref _, _, _, _, _, t, _ => by cases t
  | .ins _ _ _, _, _, _, _, t, _ => by cases t
  | .iset _ _, _, _, _, _, t, _ => by cases t
  | .exc _ _, _, _, _, _, t, _ => by cases t
  | .scr _, _, _, _, _, t, _ => by cases t
  | .cst ds, v, u, c, h, t, r => by
    obtain ⟨a, xs, rfl, h1, h2⟩ := rpCst h
    unfold toPyR at t
    cases q : toPyRL ds with
    | none =>
      rw [q] at t
      cases t
    | some cs =>
      rw [q] at t
      cases t
      cases r
      obtain ⟨its, rv, ⟨o, ho, hc, n, hd⟩, _⟩ := I.tuple (sqT_mono e h1)
      obtain ⟨as, hr, hn⟩ := RpL.reads I hsy e ds xs its cs h2 q rv
      exact ⟨_, .tuple ho hc hd hr, hn⟩
  | .dcT _ _, _, _, _, _, t, _ => by cases t
theorem RpL.reads (I : Inv X pins σ H s) (hsy : ∃ o, X.K.lookup sysModules = some o) (e : Same F H) : ∀ (ds : List D) (vs : List V) (us : List Value) (cs : List PyData), RpL X.K F ds vs → toPyRL ds = some cs → Vals vs us → ∃ as, ReadsAll s.heap us cs as ∧ NoSys as
  | [], vs, us, cs, h, t, r => by
    unfold RpL at h
    subst h
    cases t
    cases r
    exact ⟨_, .nil, fun w => nomatch w⟩
  | d :: ds, vs, us, cs, h, t, r => by
    unfold RpL at h
    obtain ⟨x, vr, rfl, h1, h2⟩ := h
    unfold toPyRL at t
    cases q1 : toPyR d with
    | none =>
      rw [q1] at t
      cases t
    | some c =>
      cases q2 : toPyRL ds with
      | none =>
        rw [q1, q2] at t
        cases t
      | some cs' =>
        rw [q1, q2] at t
        cases t
        cases r with
        | cons r1 r2 =>
          obtain ⟨as, z1, n1⟩ := Rp.reads I hsy e d x _ c h1 q1 r1
          obtain ⟨bs, z2, n2⟩ := RpL.reads I hsy e ds vr _ cs' h2 q2 r2
          refine ⟨_, .cons z1 z2, fun w => ?_⟩
          rcases List.mem_append.mp w with w | w
          · exact n1 w
          · exact n2 w
end
/-- what may be shown -/
structure Shw (c : PyData) : Prop where
  sh : c.showable = true
  dp : c.depth ≤ 50
  sz : c.shown.length ≤ sizeLine
def rRepr (K : PySem.W.Frag) : List V → Hp → VK → Prop := fun xs H Q => ∃ (v : V) (c : PyData), xs = [v] ∧ (∃ (F : Hp) (d : D), Same F H ∧ Rp K F d v ∧ toPyR d = some c) ∧ Shw c ∧ Q (.str c.shown) H
theorem call_repr (gu : X.A.guards = some []) (hu : X.A.units + 64 < cLine) (hsy : ∃ o, X.K.lookup sysModules = some o) : CallR X (.builtin "repr") (rRepr X.K) := by
  intro pins s σ H xs us Q I r h
  obtain ⟨v, c, rfl, ⟨F, d, e, rd, tc⟩, sh, q⟩ := h
  cases r with
  | cons rv rr =>
    cases rr
    have fin : ∀ tk u, Q (.str c.shown) H → EP X pins σ Q (.str c.shown u) { s with toks := tk } := fun tk u q => ⟨.str c.shown, H, I.tok tk, ⟨u, rfl⟩, q⟩
    cases d with
    | non =>
      rw [rpNon rd] at rv
      cases rv
      cases tc
      exact P.repr_of_none (fin _ _ q)
    | bl b =>
      rw [rpBl rd] at rv
      cases rv
      cases tc
      exact P.repr_of_bool (fin _ _ q)
    | int i =>
      rw [rpInt rd] at rv
      obtain ⟨t, rfl⟩ := rv
      cases tc
      exact P.repr_of_int (of_decide_eq_true (show decide (i.natAbs.log2 < 1920) = true from sh.sh)) (fin _ _ q)
    | str x =>
      rw [rpStr rd] at rv
      obtain ⟨t, rfl⟩ := rv
      cases tc
      exact P.repr_of_str (fin _ _ q) sh.sz
    | lst ds =>
      obtain ⟨a, xs, rfl, h1, h2⟩ := rpLst rd
      cases rv
      obtain ⟨as, hr, hn⟩ := Rp.reads I hsy e (.lst ds) _ _ c rd tc rfl
      have hdp := sh.dp
      exact repr_of_reads' hr sh.sh (fun _ => hn) gu (by omega) (fun _ _ z => z) (fun h' u tk k => ⟨.str c.shown, H, I.kept (t' := tk) k, ⟨u, rfl⟩, q⟩) sh.sz
    | tup ds =>
      obtain ⟨a, xs, rfl, h1, h2⟩ := rpTup rd
      cases rv
      obtain ⟨as, hr, hn⟩ := Rp.reads I hsy e (.tup ds) _ _ c rd tc rfl
      have hdp := sh.dp
      exact repr_of_reads' hr sh.sh (fun _ => hn) gu (by omega) (fun _ _ z => z) (fun h' u tk k => ⟨.str c.shown, H, I.kept (t' := tk) k, ⟨u, rfl⟩, q⟩) sh.sz
    | dct ks ds =>
      have rd' := rd
      unfold Rp at rd'
      obtain ⟨a, xs, rfl, h1, h2⟩ := rd'
      cases rv
      obtain ⟨as, hr, hn⟩ := Rp.reads I hsy e (.dct ks ds) _ _ c rd tc rfl
      have hdp := sh.dp
      exact repr_of_reads' hr sh.sh (fun _ => hn) gu (by omega) (fun _ _ z => z) (fun h' u tk k => ⟨.str c.shown, H, I.kept (t' := tk) k, ⟨u, rfl⟩, q⟩) sh.sz
    | ty n => cases tc
    | ref a => cases tc
    | ins C ns ds => cases tc
    | iset S n => cases tc
    | exc C ds => cases tc
    | scr ns => cases tc
    | cst ds =>
      obtain ⟨a, xs, rfl, h1, h2⟩ := rpCst rd
      cases rv
      obtain ⟨as, hr, hn⟩ := Rp.reads I hsy e (.cst ds) _ _ c rd tc rfl
      have hdp := sh.dp
      exact repr_of_reads' hr sh.sh (fun _ => hn) gu (by omega) (fun _ _ z => z) (fun h' u tk k => ⟨.str c.shown, H, I.kept (t' := tk) k, ⟨u, rfl⟩, q⟩) sh.sz
    | dcT ks ds => cases tc
def reprG : List D → (B → Prop) → Prop := fun ds Q => ∃ d c, ds = [d] ∧ toPyR d = some c ∧ Shw c ∧ Q (.p (.str c.shown))
theorem rc_repr {K : PySem.W.Frag} : RC K (rRepr K) reprG := by
  intro W F H σ δ xs ds Q Z S r g hZ
  obtain ⟨d, c, rfl, tc, sh, q⟩ := g
  obtain ⟨y, rfl, ry⟩ := rpL1x r
  exact ⟨y, c, rfl, ⟨F, d, S.fh, ry, tc⟩, sh, hZ _ _ (mkP S (by unfold Rp; rfl) q)⟩
end

/-! ### small data are shown -/
structure Wk (n k : Nat) (c : PyData) : Prop where
  sh : c.showable = true
  dp : c.depth ≤ k
  lv : c.leavesShort 13 = true
  wt : c.weight ≤ n
theorem Wk.shw {n k : Nat} {c : PyData} (h : Wk n k c) (hk : k ≤ 50) (hn : n ≤ 2 ^ 20) : Shw c := ⟨h.sh, Nat.le_trans h.dp hk, PyData.shown_fits (by decide) (by decide) h.lv (Nat.le_trans h.wt hn)⟩
theorem Wk.mono {n k n' k' : Nat} {c : PyData} (h : Wk n k c) (hn : n ≤ n') (hk : k ≤ k') : Wk n' k' c := ⟨h.sh, Nat.le_trans h.dp hk, h.lv, Nat.le_trans h.wt hn⟩
theorem wk_non : Wk 41 0 .none := ⟨rfl, Nat.le_refl _, rfl, by decide⟩
theorem wk_bl {b : Bool} : Wk 41 0 (.bool b) := ⟨rfl, Nat.le_refl _, rfl, by show 0 ≤ 41; decide⟩
theorem log_lt {i : Int} (h : i.natAbs < 10 ^ 12) : i.natAbs.log2 < 40 := by
  by_cases h0 : i.natAbs = 0
  · rw [h0]
    decide
  · exact (Nat.log2_lt h0).mpr (Nat.lt_of_lt_of_le h (by decide))
theorem wk_int {i : Int} (h : i.natAbs < 10 ^ 12) : Wk 41 0 (.int i) := by
  have hl := log_lt h
  refine ⟨decide_eq_true (by omega), Nat.le_refl _, ?_, ?_⟩
  · show decide _ = true
    exact decide_eq_true (PyData.shown_int_le h)
  · show (if i == 0 then 0 else i.natAbs.log2 + 1) ≤ 41
    split <;> omega
theorem wk_str {x : Str} {n : Nat} (h : ∀ c ∈ x.cps.toList, c < 1114112) (hl : x.length ≤ n) : Wk n 0 (.str x) := by
  refine ⟨rfl, Nat.le_refl _, ?_, hl⟩
  simp only [PyData.leavesShort, List.all_eq_true, decide_eq_true_eq]
  intro c hc
  exact Nat.lt_of_lt_of_le (h c hc) (by decide)
theorem wk_all {n k : Nat} : ∀ {cs : List PyData}, (∀ c ∈ cs, Wk n k c) → PyData.showableAll cs = true ∧ PyData.depthAll cs ≤ k ∧ PyData.leavesShortAll 13 cs = true ∧ PyData.weightAll cs ≤ cs.length * (n + 1)
  | [], _ => ⟨rfl, Nat.zero_le _, rfl, Nat.zero_le _⟩
  | c :: cs, h => by
    obtain ⟨h1, h2, h3, h4⟩ := wk_all (cs := cs) fun d hd => h d (List.mem_cons_of_mem _ hd)
    have g := h c List.mem_cons_self
    have g4 := g.wt
    refine ⟨by simp only [PyData.showableAll, g.sh, h1, Bool.and_self], Nat.max_le.mpr ⟨g.dp, h2⟩, by simp only [PyData.leavesShortAll, g.lv, h3, Bool.and_self], ?_⟩
    show c.weight + 1 + PyData.weightAll cs ≤ (cs.length + 1) * (n + 1)
    rw [Nat.add_mul]
    omega
theorem wk_lst {n k m : Nat} {cs : List PyData} (h : ∀ c ∈ cs, Wk n k c) (hm : cs.length ≤ m) : Wk (m * (n + 1)) (k + 1) (.list cs) := by
  obtain ⟨h1, h2, h3, h4⟩ := wk_all h
  exact ⟨h1, Nat.succ_le_succ h2, h3, Nat.le_trans h4 (Nat.mul_le_mul_right _ hm)⟩
theorem wk_tup {n k m : Nat} {cs : List PyData} (h : ∀ c ∈ cs, Wk n k c) (hm : cs.length ≤ m) : Wk (m * (n + 1)) (k + 1) (.tuple cs) := by
  obtain ⟨h1, h2, h3, h4⟩ := wk_all h
  exact ⟨h1, Nat.succ_le_succ h2, h3, Nat.le_trans h4 (Nat.mul_le_mul_right _ hm)⟩
end DD

set_option Elab.async false
set_option linter.all false
set_option maxRecDepth 100000
set_option maxHeartbeats 4000000
/-! DD11: a call whose arguments are flat gives fresh lists; lists of a fresh tuple changed at the end. -/
namespace DD
open PySem PySem.Spec PyProof.Rows L2

/-! ### data without addresses -/
def litD : D → Bool
  | .non | .bl _ | .int _ | .str _ | .ty _ | .ref _ => true
  | _ => false
def litB : B → Bool
  | .p d => litD d
  | .o (.lst ds) => ds.all litD
  | .o (.iset _ _) => true
  | .u _ _ => true
  | _ => false
def scrB : B → Bool
  | .p (.scr _) => true
  | _ => false
def litE (δ : Env') : Env' := δ.map fun o => o.bind fun b => if (litB b || scrB b) = true then some b else none
/-- what stays frozen: the ground, and what never changes -/
def thin (F0 F : Hp) : Hp := fun a => match F0 a with
  | some o => some o
  | none => match F a with
    | some (.frz o u) => some (.frz o u)
    | _ => none
theorem thin_ground {F0 F : Hp} : Same F0 (thin F0 F) := fun a o h => by
  unfold thin
  rw [h]
theorem thin_some {F0 F : Hp} {a : Addr} {o : HO} (h : thin F0 F a = some o) : F0 a = some o ∨ (∃ ob u, o = .frz ob u) ∧ F a = some o := by
  unfold thin at h
  cases e : F0 a with
  | some u =>
    rw [e] at h
    exact .inl h
  | none =>
    rw [e] at h
    cases q : F a with
    | none =>
      rw [q] at h
      cases h
    | some u =>
      rw [q] at h
      cases u <;> first | (cases h; done) | skip
      rename_i ob v
      have h : some (HO.frz ob v) = some o := h
      cases h
      exact .inr ⟨⟨ob, v, rfl⟩, rfl⟩
theorem thin_free {F0 F : Hp} {a : Addr} (e : Same F0 F) (h : F a = none) : thin F0 F a = none := by
  cases q : thin F0 F a with
  | none => rfl
  | some o =>
    rcases thin_some q with z | ⟨_, z⟩
    · rw [e a o z] at h
      cases h
    · rw [h] at z
      cases z
theorem thin_frz {F0 F : Hp} {a : Addr} {o : Obj} {u : HO} (e : Same F0 F) (h : F a = some (.frz o u)) : thin F0 F a = some (.frz o u) := by
  unfold thin
  cases q : F0 a with
  | some v =>
    have := e a v q
    rw [h] at this
    cases this
    rfl
  | none => rw [h]
section
variable {K : PySem.W.Frag} {W : Fix} {F F' H H' : Hp} {σ : L2.St} {δ : Env'}
theorem lit_any {d : D} {v : V} (h : litD d = true) (r : Rp K F d v) : Rp K F' d v := by
  cases d <;> first | (cases h; done) | (unfold Rp at r ⊢; exact r)
theorem lit_all : ∀ {ds : List D} {vs : List V}, ds.all litD = true → RpL K F ds vs → RpL K F' ds vs
  | [], _, _, r => by
    unfold RpL at r ⊢
    exact r
  | d :: ds, _, h, r => by
    unfold RpL at r
    obtain ⟨x, t, rfl, h1, h2⟩ := r
    rw [List.all_cons, Bool.and_eq_true] at h
    exact .cons (lit_any h.1 h1) (lit_all h.2 h2)
theorem litE_get {i : Nat} {b : B} (h : (litE δ)[i]? = some (some b)) : δ[i]? = some (some b) ∧ (litB b || scrB b) = true := by
  unfold litE at h
  rw [List.getElem?_map] at h
  cases e : δ[i]? with
  | none =>
    rw [e] at h
    cases h
  | some o =>
    rw [e] at h
    cases o with
    | none => cases h
    | some c =>
      by_cases q : (litB c || scrB c) = true
      · have h : some (if (litB c || scrB c) = true then some c else none) = some (some b) := h
        rw [if_pos q] at h
        cases h
        exact ⟨rfl, q⟩
      · have h : some (if (litB c || scrB c) = true then some c else none) = some (some b) := h
        rw [if_neg q] at h
        cases h

/-! ### f(e, ..), flat arguments: the lists of the tuple that comes back are new -/
def lstD : D → Bool
  | .lst _ => true
  | _ => false
def freB : B → B
  | .p (.tup ds) => if ds.all lstD = true then .n ds else .p (.tup ds)
  | b => b
theorem freB_or (d : D) : freB (.p d) = .p d ∨ ∃ ds, d = .tup ds ∧ ds.all lstD = true := by
  cases d <;> first | exact .inl rfl | skip
  rename_i ds
  by_cases h : ds.all lstD = true
  · exact .inr ⟨ds, rfl, h⟩
  · refine .inl ?_
    show (if ds.all lstD = true then B.n ds else B.p (.tup ds)) = _
    rw [if_neg h]
end
section
variable {X : Cx} {W : Fix} {k : Nat} {f : Addr} {fd : FuncData} {ps : List Str} {spd : Spd} {x : Str} {p pos : Pos} {e : Expr} {es : List Expr} {t : TDA}
def dCallF (spd : Spd) (t : TDA) : TD := fun δ Q => t δ fun ds δ1 => ds.all litD = true ∧ spd (ds.map .p) (fun b _ => (∃ d, b = .p d) ∧ Q (freB b) δ1) fun _ _ _ => False
theorem Own.mono {K : PySem.W.Frag} {F F' H : Hp} {d : D} {a : Addr} (e : Same F F') (h : Own K F H d a) : Own K F' H d a := by
  cases d <;> first | exact h.elim | skip
  · obtain ⟨xs, h1, h2⟩ := h
    exact ⟨xs, h1, RpL.mono e _ _ h2⟩
  · obtain ⟨xs, h1, h2, h3⟩ := h
    exact ⟨xs, h1, RpL.mono e _ _ h2, h3⟩
  · obtain ⟨dx, xs, h1, h2, h3⟩ := h
    exact ⟨dx, xs, h1, RpL.mono e _ _ h2, h3⟩
  · exact h
  · obtain ⟨xs, h1, h2, h3⟩ := h
    exact ⟨xs, h1, RpL.mono e _ _ h2, h3⟩
/-- two heaps of frozen objects together -/
def both (F G : Hp) : Hp := fun a => match F a with
  | some o => some o
  | none => G a
theorem both_l {F G : Hp} : Same F (both F G) := fun a o h => by
  unfold both
  rw [h]
theorem both_r {F G : Hp} (h : ∀ a o, G a = some o → F a = none) : Same G (both F G) := fun a o e => by
  unfold both
  rw [h a o e]
  exact e
theorem de_callF (G : GnOk X.prog X.w X.K X.mg X.base k f fd ps (toSp X.K spd)) (gu : X.A.guards = some []) (hr : Room k X.A) (hg : Gl X x) (hm : X.mg x = some (.ref f)) (hk : PySem.W.keepIn X.K (.ref f) = true)
    (hb : Binds X.K fd ps []) (h : DA X W (e :: es) t) (hdb : (x == ("__debug__" : Str)) = false := by decide)
    (he : starEach (e :: es) X.env = (false, eval e X.env) :: starEach es X.env := by rfl) (hpl : (backTo pos (starEach es X.env)).any (·.1) = false := by rfl) :
    DE X W (.Call (.Name x p) (e :: es) [] pos) (dCallF spd t) :=
  .of (pe_callG (Es := fun _ _ _ _ => False) G gu hr hg hm hk hb .nil (fun σ => pass_none) cA_pa hdb he hpl) fun F H σ δ Q S q => by
    refine (h.run F H σ δ _ S q).imp fun vs H1 h1 => ?_
    obtain ⟨F1, ds, δ1, e1, S1, r1, hfl, q1⟩ := h1
    rw [List.append_nil]
    refine ⟨fun _ => none, none, _, _, _, (fun a o z => by cases z), paired_p (lit_all hfl r1), (fun p e => by cases e), q1, fun v H' F' b m a r z => ?_, fun cls d H' F' C ds m a er z => z.elim⟩
    obtain ⟨⟨d, rfl⟩, qb⟩ := z
    have newF : ∀ a o, F' a = some o → H1 a = none := fun c o z => by
      rcases a.new c o z with y | y
      · cases y
      · exact y
    have dis : ∀ a o, F' a = some o → F1 a = none := fun c o z => S1.freshF (newF c o z)
    have aB : Aft F1 H1 none m (both F1 F') H' := {
      ff := both_l
      fh := fun c o z => by
        unfold both at z
        cases y : F1 c with
        | none =>
          rw [y] at z
          exact a.fh c o z
        | some u =>
          rw [y] at z
          cases z
          exact a.keep c o (S1.fh c o y) (fun z => by cases z)
      keep := a.keep
      new := fun c o z => by
        unfold both at z
        cases y : F1 c with
        | none =>
          rw [y] at z
          exact .inr (newF c o z)
        | some u =>
          rw [y] at z
          exact .inl z
      pur := fun p e => by cases e }
    have S2 := S1.after aB
    have sB : Same F' (both F1 F') := both_r dis
    have r : Rp X.K F' d v := r
    refine ⟨both F1 F', freB (.p d), δ1, e1.trans both_l, S2, ?_, ?_, qb⟩
    · have rr := Rp.mono sB _ _ r
      rcases freB_or d with e | ⟨ds', rfl, e⟩
      · rw [e]
        exact rr
      show RB X.K W _ _ (if ds'.all lstD = true then .n ds' else .p (.tup ds')) v
      by_cases hl : ds'.all lstD = true
      · rw [if_pos hl]
        obtain ⟨c, xs, rfl, h2, h3⟩ := rpTupS r
        refine ⟨c, xs, rfl, sB _ _ h2, RpL.mono sB _ _ h3, fun a' ha' => ?_⟩
        have key : ∀ {ds : List D} {xs : List V}, ds.all lstD = true → RpL X.K F' ds xs → V.ref a' ∈ xs → ∃ ys, F' a' = some (.lst ys) := by
          intro ds
          induction ds with
          | nil =>
            intro xs _ r hm
            unfold RpL at r
            rw [r] at hm
            cases hm
          | cons d ds ih =>
            intro xs hl r hm
            unfold RpL at r
            obtain ⟨y, t, rfl, r1, r2⟩ := r
            rw [List.all_cons, Bool.and_eq_true] at hl
            rcases List.mem_cons.mp hm with z | z
            · cases d <;> first | (cases hl.1; done) | skip
              obtain ⟨b, ys, e, g1, _⟩ := rpLst r1
              rw [← z] at e
              cases e
              exact ⟨ys, g1⟩
            · exact ih hl.2 r2 z
        obtain ⟨ys, hy⟩ := key hl h3 ha'
        exact ⟨⟨ys, sB _ _ hy⟩, S1.fresh0 (newF a' _ hy)⟩
      · rw [if_neg hl]
        exact Rp.mono sB _ _ r
    · intro ho
      exfalso
      rcases freB_or d with e | ⟨ds', rfl, e⟩
      · rw [e] at ho
        cases ho
      have ho : (if ds'.all lstD = true then B.n ds' else B.p (.tup ds')).own = true := ho
      by_cases hl : ds'.all lstD = true
      · rw [if_pos hl] at ho
        cases ho
      · rw [if_neg hl] at ho
        cases ho
end

/-! ### lists of a fresh tuple, changed when nothing reads them any more -/
/-- as SD, but for some new lists of F that were changed; at most m items each -/
structure SX (K : PySem.W.Frag) (W : Fix) (m : Nat) (F H : Hp) (σ : L2.St) (δ : Env') : Prop where
  ex : ∃ Ho, SD K W F Ho σ δ ∧ ∀ b, H b = Ho b ∨ (W.H0 b = none ∧ (∃ ys, F b = some (.lst ys)) ∧ ∃ zs, H b = some (.lst zs) ∧ zs.length ≤ m)
section
variable {K : PySem.W.Frag} {W : Fix} {F H : Hp} {σ : L2.St} {δ : Env'} {m : Nat}
theorem SX.done (S : SX K W m F H σ δ) (hW : Same W.F0 W.H0) : SD K W (thin W.F0 F) H σ (litE δ) := by
  obtain ⟨Ho, S, hb⟩ := S.ex
  have keep : ∀ b o, Ho b = some o → (W.H0 b = none → F b = none) → H b = some o := fun b o e n => by
    rcases hb b with z | ⟨z1, ⟨ys, z2⟩, _⟩
    · rw [z]
      exact e
    · rw [n z1] at z2
      cases z2
  have keep0 : ∀ b o, W.H0 b = some o → Ho b = some o → H b = some o := fun b o e q => keep b o q fun z => by
    rw [z] at e
    cases e
  refine ⟨thin_ground, fun b o e n => keep0 b o e (S.h0 b o e n), fun b o e => ?_, fun b o e => ?_, fun b e => ?_, ?_, fun i b e => ?_, fun i j b c v ne h1 h2 h3 h4 h5 => S.sep i j b c v ne (litE_get h1).1 h2 (litE_get h3).1 h4 h5⟩
  · rcases thin_some e with z | ⟨⟨ob, u, rfl⟩, z⟩
    · exact keep0 b o (hW b o z) (S.fh b o (S.f0 b o z))
    · rcases hb b with q | ⟨_, ⟨ys, q⟩, _⟩
      · exact q.trans (S.fh _ _ z)
      · rw [z] at q
        cases q
  · rcases thin_some e with z | ⟨_, z⟩
    · exact .inl z
    · exact S.fr b o z
  · obtain ⟨h1, ⟨o, h2⟩, o', h3⟩ := S.fp b e
    refine ⟨thin_free S.f0 h1, ?_, o', h3⟩
    rcases hb b with z | ⟨z, _⟩
    · exact ⟨o, z.trans h2⟩
    · rw [z] at h3
      cases h3
  · rw [S.len]
    unfold litE
    rw [List.length_map]
  · obtain ⟨e1, e2⟩ := litE_get e
    obtain ⟨v, h1, h2⟩ := S.get i b e1
    refine ⟨v, h1, ?_⟩
    cases b with
    | p d =>
      rcases Bool.or_eq_true_iff.mp e2 with e3 | e3
      · exact lit_any e3 h2
      · cases d <;> first | (cases e3; done) | skip
        rename_i ns
        have h2 : Rp K F (.scr ns) v := h2
        show Rp K (thin W.F0 F) (.scr ns) v
        unfold Rp at h2 ⊢
        obtain ⟨a, rfl, h4⟩ := h2
        exact ⟨a, rfl, h4.mono fun o q => thin_frz S.f0 q⟩
    | n ds => cases e2
    | u w n =>
      obtain ⟨p, x, y, z, rfl, g1, g2, g3, g4⟩ := h2
      exact ⟨p, x, y, z, rfl, thin_free S.f0 g1, g2, keep p _ g3 (fun _ => g1), g4⟩
    | s d => cases e2
    | o d =>
      obtain ⟨a, rfl, g1, g2, g3⟩ := h2
      refine ⟨a, rfl, thin_free S.f0 g1, g2, ?_⟩
      cases d <;> first | (cases e2; done) | skip
      · obtain ⟨xs, g4, g5⟩ := g3
        exact ⟨xs, keep a _ g4 (fun _ => g1), lit_all (by simpa [litB, scrB] using e2) g5⟩
      · exact keep a _ g3 (fun _ => g1)
theorem SX.init (S : SD K W F H σ δ) : SX K W m F H σ δ := ⟨H, S, fun b => .inl rfl⟩
theorem SX.change {m' : Nat} {a : Addr} {ys zs : List V} (S : SX K W m F H σ δ) (hF : F a = some (.lst ys)) (h0 : W.H0 a = none) (hz : zs.length ≤ m') (hm : m ≤ m') : SX K W m' F (upd H a (.lst zs)) σ δ := by
  obtain ⟨Ho, S, hb⟩ := S.ex
  refine ⟨Ho, S, fun b => ?_⟩
  by_cases e : b = a
  · subst e
    exact .inr ⟨h0, ⟨ys, hF⟩, zs, upd_same, hz⟩
  · rw [upd_ne e]
    rcases hb b with z | ⟨z1, z2, zs', z3, z4⟩
    · exact .inl z
    · exact .inr ⟨z1, z2, zs', z3, Nat.le_trans z4 hm⟩
theorem SX.item {i : Nat} {ds d1 : List D} {k : Int} (S : SX K W m F H σ δ) (hi : δ[i]? = some (some (.n ds))) (hk : atI ds k = some (.lst d1)) (hl : d1.length ≤ m) :
    ∃ t xs a zs ys, σ[i]? = some (some (.ref t)) ∧ SqT K H t xs ∧ atI xs k = some (.ref a) ∧ H a = some (.lst zs) ∧ zs.length ≤ m ∧ F a = some (.lst ys) ∧ W.H0 a = none := by
  obtain ⟨Ho, S, hb⟩ := S.ex
  obtain ⟨v, e1, t, xs, rfl, h2, h3, h4⟩ := S.get i _ hi
  obtain ⟨v, h5, h6⟩ := rpL_atI h3 hk
  obtain ⟨a, ys, rfl, h7, h8⟩ := rpLst h6
  have hmem : V.ref a ∈ xs := by
    unfold atI at h5
    cases q : ixN xs.length k with
    | none =>
      rw [q] at h5
      cases h5
    | some j =>
      rw [q] at h5
      exact List.mem_of_getElem? h5
  have tk : ∀ o, F t = some o → (∀ ys, o ≠ .lst ys) → H t = some o := fun o e n => by
    rcases hb t with z | ⟨_, ⟨ys, z⟩, _⟩
    · exact z.trans (S.fh _ _ e)
    · rw [e] at z
      exact absurd (Option.some.inj z) (n ys)
  have hq : SqT K H t xs := .of (tk _ h2 fun ys z => by cases z)
  rcases hb a with z | ⟨_, _, zs, z3, z4⟩
  · exact ⟨t, xs, a, ys, ys, e1, hq, h5, z.trans (S.fh _ _ h7), by rw [h8.length]; exact hl, h7, (h4 a hmem).2⟩
  · exact ⟨t, xs, a, zs, ys, e1, hq, h5, z3, z4, h7, (h4 a hmem).2⟩
end
/-- a statement that changes item k of the tuple in slot i -/
def Spoils (X : Cx) (i : Nat) (k : Int) (st : Stmt) : Prop := ∀ (W : Fix) (m : Nat) (F H : Hp) (σ : L2.St) (δ : Env') (ds d1 : List D), SX X.K W m F H σ δ → δ[i]? = some (some (.n ds)) → atI ds k = some (.lst d1) → d1.length ≤ m → m + 1 ≤ sizeLine →
  cS X st { nx := fun σ' H' => σ' = σ ∧ SX X.K W (m + 1) F H' σ δ, rt := fun _ _ => False } σ H
section
variable {X : Cx} {x : Str} {i : Nat} {k : Int} {e : Expr} {c : V} {p p1 p2 apos cpos pos : Pos} {j : Nat}
theorem sp_append (hN : X.N[i]? = some x) (hv : Vis X.env.scope x) (he : PE X e (tC c)) (hd : (x == ("__debug__" : Str)) = false := by decide) (hcd : (x == ("__classdict__" : Str)) = false := by decide)
    (hpe : ∀ (o : TE) (ta : TE), PE X (.Subscript (.Name x p) (.Constant (.int k) j p1) p2) o → PE X e ta → PE X (.Call (.Attribute (.Subscript (.Name x p) (.Constant (.int k) j p1) p2) "append" apos) [e] [] cpos) (tBM X.K "list" rAppend o (tCons ta tNil)))
    (hs : swapsWith (.Call (.Attribute (.Subscript (.Name x p) (.Constant (.int k) j p1) p2) "append" apos) [e] [] cpos) none pos.line X.env = pure false := by rfl) :
    Spoils X i k (.Expr (.Call (.Attribute (.Subscript (.Name x p) (.Constant (.int k) j p1) p2) "append" apos) [e] [] cpos) pos) := by
  intro W m F H σ δ ds d1 S hi hk hl hm
  obtain ⟨t, xs, a, zs, ys, e1, hq, h5, h6, h7, h8, h9⟩ := S.item hi hk hl
  refine cS_of (ps_expr (hpe _ _ (pe_ix ix_seq (pe_var hN hv hd hcd) pe_int (fun _ _ => rfl)) he) hs) ?_
  refine ⟨_, e1, .inr (.inl ⟨t, xs, k, .ref a, rfl, rfl, hq, h5, ?_⟩)⟩
  refine ⟨.inl ⟨rfl, zs, SqL.of h6⟩, a, zs, c, rfl, rfl, h6, by omega, rfl, S.change h8 h9 ?_ (Nat.le_succ m)⟩
  rw [List.length_append, List.length_singleton]
  omega
theorem sp_clear (hN : X.N[i]? = some x) (hv : Vis X.env.scope x) (hd : (x == ("__debug__" : Str)) = false := by decide) (hcd : (x == ("__classdict__" : Str)) = false := by decide)
    (hpe : ∀ (o : TE), PE X (.Subscript (.Name x p) (.Constant (.int k) j p1) p2) o → PE X (.Call (.Attribute (.Subscript (.Name x p) (.Constant (.int k) j p1) p2) "clear" apos) [] [] cpos) (tBM0 X.K "list" rClear o))
    (hs : swapsWith (.Call (.Attribute (.Subscript (.Name x p) (.Constant (.int k) j p1) p2) "clear" apos) [] [] cpos) none pos.line X.env = pure false := by rfl) :
    Spoils X i k (.Expr (.Call (.Attribute (.Subscript (.Name x p) (.Constant (.int k) j p1) p2) "clear" apos) [] [] cpos) pos) := by
  intro W m F H σ δ ds d1 S hi hk hl hm
  obtain ⟨t, xs, a, zs, ys, e1, hq, h5, h6, h7, h8, h9⟩ := S.item hi hk hl
  refine cS_of (ps_expr (hpe _ (pe_ix ix_seq (pe_var hN hv hd hcd) pe_int (fun _ _ => rfl))) hs) ?_
  refine ⟨_, e1, .inr (.inl ⟨t, xs, k, .ref a, rfl, rfl, hq, h5, ?_⟩)⟩
  exact ⟨.inl ⟨rfl, zs, SqL.of h6⟩, a, zs, rfl, rfl, h6, rfl, S.change h8 h9 (Nat.zero_le _) (Nat.le_succ m)⟩
variable {W : Fix} {k' : Int} {s1 s2 : Stmt} {rest : List Stmt} {u : TSD}
def dSpoil (i : Nat) (k k' : Int) (u : TSD) : TSD := fun Z δ => ∃ ds d1 d2, δ[i]? = some (some (.n ds)) ∧ atI ds k = some (.lst d1) ∧ atI ds k' = some (.lst d2) ∧ d1.length + 2 ≤ sizeLine ∧ d2.length + 2 ≤ sizeLine ∧ u Z (litE δ)
theorem dss_spoil (hW : Same W.F0 W.H0) (h1 : Spoils X i k s1) (h2 : Spoils X i k' s2) (hr : DSs X W rest u) : DSs X W (s1 :: s2 :: rest) (dSpoil i k k' u) := by
  refine ⟨fun F H σ δ Z S q pins s I => ?_⟩
  obtain ⟨ds, d1, d2, hi, ha, hb, l1, l2, q⟩ := q
  have hm : ∃ m, d1.length ≤ m ∧ d2.length ≤ m ∧ m + 2 ≤ sizeLine := ⟨max d1.length d2.length, Nat.le_max_left .., Nat.le_max_right .., by omega⟩
  obtain ⟨m, m1, m2, m3⟩ := hm
  refine (pss_cons (X := X) cS_ps (pss_cons cS_ps cSs_pss)).run pins s σ H _ I ?_
  refine (h1 W m F H σ δ ds d1 (.init S) hi ha m1 (by omega)).imp (fun σ1 H1 z => ?_) (fun _ _ z => z.elim) (fun _ _ z => z.elim) fun _ _ z => z.elim
  obtain ⟨rfl, S1⟩ := z
  refine (h2 W (m + 1) F H1 _ δ ds d2 S1 hi hb (by omega) (by omega)).imp (fun σ2 H2 z => ?_) (fun _ _ z => z.elim) (fun _ _ z => z.elim) fun _ _ z => z.elim
  obtain ⟨rfl, S2⟩ := z
  exact hr.run (thin W.F0 F) _ _ (litE δ) Z (S2.done hW) q
end
end DD

set_option Elab.async false
set_option linter.all false
set_option maxRecDepth 100000
set_option maxHeartbeats 4000000
/-! DD12: enumerate over data. -/
namespace DD
open PySem PySem.Spec PyProof.Rows L2

/-- enumerate(x), x a text -/
def Itx (x : Str) : It :=
  ⟨fun i _ => i < x.cps.size, fun i H v H' => ∃ T c, v = .ref T ∧ H T = none ∧ H' = upd H T (.tup [.int (i : Nat), .str ⟨#[c]⟩]) ∧ x.cps[i]? = some c, fun i _ => x.cps.size ≤ i⟩
theorem draws_str {prog : Program} {w : World} {A : Around} (hh : A.handled = none) (it : Addr) (x : Str) (t : Tok) :
    Draws prog w A it [it] x.cps.size (fun i v => ∃ c u, x.cps[i]? = some c ∧ v = .str ⟨#[c]⟩ u) (fun i h => h.IsStrIter it (strIterType x) x t i) := by
  unfold strIterType
  split
  · exact Draws.strAscii hh it x t
  · exact Draws.strWide hh it x t
theorem draws_end {prog : Program} {w : World} {A : Around} (hh : A.handled = none) (it : Addr) (x : Str) (t : Tok) (i : Nat) (hi : x.cps.size ≤ i) :
    Draws prog w A it [it] i (fun _ _ => False) (fun j h => j = i ∧ h.IsStrIter it (strIterType x) x t i) where
  live := fun _ _ st => by
    obtain ⟨_, o, ho, _⟩ := st
    exact ⟨o, ho⟩
  frame := fun _ _ _ st hk => by
    obtain ⟨e, o, ho, r⟩ := st
    exact ⟨e, o, hk it (by simp) o ho, r⟩
  item := fun j s Q E hj st hQ => absurd st.1 (Nat.ne_of_lt hj)
  done := fun s Q E st hE => by
    obtain ⟨_, st⟩ := st
    have hn : x.cps[i]? = none := by simpa using hi
    unfold strIterType at st
    split at st
    · exact wpAny_nextOf_ascii_end hh st hn hE
    · exact wpAny_nextOf_wide_end hh st hn hE
theorem turn_enumT {P : Program} {w : World} {K : PySem.W.Frag} {elts : List Expr} {kk : Nat} {tpos : Pos} (x : Str) (t : Tok) (e it : Addr) :
    Turn P w K (.Tuple elts kk tpos) (Itx x) [e, it] e (fun i h => (∃ old, IsEnum h e it ((i : Nat) : Int) old) ∧ h.IsStrIter it (strIterType x) x t i ∧ e ≠ it) where
  mem := by simp
  obj := fun i h st b hb => by
    obtain ⟨⟨old, he⟩, ⟨o, ho, hc, hd⟩, _⟩ := st
    have e' : b = e ∨ b = it := by simpa using hb
    rcases e' with z | z
    · rw [z]
      exact ⟨_, he, fun v q => nomatch q⟩
    · rw [z]
      exact ⟨o, ho, fun v q => by rw [hd] at q; cases q⟩
  keep := fun i h h' st k => by
    obtain ⟨⟨old, he⟩, ⟨o, ho, r⟩, hne⟩ := st
    exact ⟨⟨old, k e (by simp) _ he⟩, ⟨o, k it (by simp) o ho, r⟩, hne⟩
  item := by
    intro X hP hw hK hc i pins s σ H E I hf st hg
    subst hP hw hK
    obtain ⟨⟨old, he⟩, hit, hne⟩ := st
    have hel : e < s.heap.objs.size := Heap.lt_size he
    have hil : it < s.heap.objs.size := by
      obtain ⟨_, q, _⟩ := hit
      exact Heap.lt_size q
    refine wpAny_pyNext_enum_itemD (draws_str (show X.A.in1.handled = none from I.ok.hd hc) it x t) he hit hg hne (by simpa using hne) fun v h' tk hP ho hit' hT hsz hk => ?_
    obtain ⟨c, u, hx, rfl⟩ := hP
    refine ⟨_, rfl, wpAny_letOwnedTupleGo_enum (s := { s with heap := h', toks := tk + 1 }) ho fun h'' he' sb => ?_⟩
    have hT2 : h''.get? s.heap.objs.size = some { cls := .type "tuple", data := .seq #[.int i tk, .str ⟨#[c]⟩ u] } := (sb.2 _ (Nat.ne_of_gt hel)).trans hT
    have new : ObjOk X.prog X.w (upd H s.heap.objs.size (.tup [.int (i : Nat), .str ⟨#[c]⟩])) h'' s.heap.objs.size (.tup [.int (i : Nat), .str ⟨#[c]⟩]) :=
      ⟨by show 2 ≤ sizeLine; decide, [.int i tk, .str ⟨#[c]⟩ u], .cons ⟨_, rfl⟩ (.cons ⟨u, rfl⟩ .nil), ⟨_, hT2, rfl, _, rfl⟩⟩
    have I1 : Inv X pins σ (upd H s.heap.objs.size (.tup [.int (i : Nat), .str ⟨#[c]⟩])) { s with heap := h'', toks := tk + 1 } :=
      I.turnedNew (ch := [e, it]) (fun b ob hb q => (sb.2 b (fun z => hb (by simp [z]))).trans (hk b ob (fun z => hb (by simp [z])) (fun z => hb (by simp [z])) q)) hf (Nat.le_refl _) new
    refine ⟨.ref s.heap.objs.size, _, I1, rfl, ⟨_, c, rfl, I.hok.fresh (Nat.le_refl _), rfl, hx⟩, ⟨⟨.str ⟨#[c]⟩ u, ?_⟩, ?_, hne⟩, fun b hb => ?_⟩
    · have e1 : ((i + 1 : Nat) : Int) = (i : Int) + 1 := by omega
      rw [e1]
      exact he'
    · obtain ⟨o, q, r⟩ := hit'
      exact ⟨o, (sb.2 it (Ne.symm hne)).trans q, r⟩
    · have hb' : b < s.heap.objs.size := by
        have e' : b = e ∨ b = it := by simpa using hb
        rcases e' with z | z
        · rw [z]
          exact hel
        · rw [z]
          exact hil
      rw [upd_ne (Nat.ne_of_lt hb')]
      exact (hf b hb).1
  done := by
    intro X hP hw hK hc i pins s σ H E I hf st hg
    subst hP hw hK
    obtain ⟨⟨old, he⟩, hit, hne⟩ := st
    obtain ⟨f0, f1, f2, f3, f4, f5⟩ := hf it (by simp)
    exact wpAny_pyNext_enum_endD (draws_end (show X.A.in1.handled = none from I.ok.hd hc) it x t i hg) he ⟨rfl, hit⟩ fun h' eb => ⟨rfl, I.turned (t' := s.toks) (fun b o hb q => eb b o hb q) f0 f1 f3 f4 f5⟩
  self := fun A i s Q E st h => let ⟨⟨_, he⟩, _⟩ := st; wpAny_pyIter_enum he h

/-- the items with their places -/
def enumD : Nat → List D → List D
  | _, [] => []
  | k, d :: ds => .tup [.int (k : Nat), d] :: enumD (k + 1) ds
theorem enumD_get : ∀ {ds : List D} {k i : Nat}, (enumD k ds)[i]? = (ds[i]?).map fun d => .tup [.int ((k + i : Nat) : Int), d]
  | [], _, _ => by simp [enumD]
  | d :: ds, k, 0 => by simp [enumD]
  | d :: ds, k, i + 1 => by
    show (enumD (k + 1) ds)[i]? = _
    rw [enumD_get, List.getElem?_cons_succ]
    have e : k + 1 + i = k + (i + 1) := by omega
    rw [e]
theorem enumD_len : ∀ {ds : List D} {k : Nat}, (enumD k ds).length = ds.length
  | [], _ => rfl
  | d :: ds, k => by
    show (enumD (k + 1) ds).length + 1 = _
    rw [enumD_len]
    rfl
theorem yield_new {K : PySem.W.Frag} {W : Fix} {F H : Hp} {σ : L2.St} {δ : Env'} {T : Addr} {i : Nat} {x : V} {d : D} (S : SD K W F H σ δ) (hT : H T = none) (r : Rp K F d x) :
    ∃ F'', Same F F'' ∧ SD K W F'' (upd H T (.tup [.int (i : Nat), x])) σ δ ∧ Rp K F'' (.tup [.int (i : Nat), d]) (.ref T) ∧ ∀ b o, H b = some o → (upd H T (.tup [.int (i : Nat), x])) b = some o := by
  have e := same_upd (o := .tup [.int (i : Nat), x]) (S.freshF hT)
  refine ⟨_, e, S.new hT, ?_, same_upd hT⟩
  unfold Rp
  exact ⟨T, _, rfl, upd_same, .cons (by unfold Rp; rfl) (.cons (Rp.mono e _ _ r) .nil)⟩
theorem yields_enumT {K : PySem.W.Frag} {F : Hp} {x : Str} : Yields K F (Itx x) (enumD 0 (signs x)) := by
  intro W F' H' σ δ i S e
  have hs : (signs x)[i]? = (x.cps[i]?).map fun c => D.str ⟨#[c]⟩ := by
    unfold signs
    rw [List.getElem?_map, Array.getElem?_toList]
  refine ⟨fun d hd => ?_, fun hn => ?_⟩
  · rw [enumD_get, hs] at hd
    cases hc : x.cps[i]? with
    | none =>
      rw [hc] at hd
      cases hd
    | some c =>
      rw [hc] at hd
      have hi : i < x.cps.size := (Array.getElem?_eq_some_iff.mp hc).1
      refine ⟨hi, fun y H'' hy => ?_⟩
      obtain ⟨T, c', rfl, hT, rfl, hc'⟩ := hy
      rw [hc] at hc'
      cases hc'
      have hd : some (D.tup [.int ((0 + i : Nat) : Int), .str ⟨#[c]⟩]) = some d := hd
      cases hd
      rw [Nat.zero_add]
      exact yield_new S hT (by unfold Rp; rfl)
  · have := List.getElem?_eq_none_iff.mp hn
    rw [enumD_len] at this
    unfold signs at this
    rw [List.length_map, Array.length_toList] at this
    exact this
theorem yields_enumL {K : PySem.W.Frag} {F : Hp} {a : Addr} {xs : List V} {ds : List D} (h : F a = some (.lst xs)) (r : RpL K F ds xs) : Yields K F (Ite K a) (enumD 0 ds) := by
  intro W F' H' σ δ i S e
  have h1 : SqL K H' a xs := SqL.of (S.fh _ _ (e _ _ h))
  refine ⟨fun d hd => ?_, fun hn => ?_⟩
  · rw [enumD_get] at hd
    cases hc : ds[i]? with
    | none =>
      rw [hc] at hd
      cases hd
    | some d0 =>
      rw [hc] at hd
      have hd : some (D.tup [.int ((0 + i : Nat) : Int), d0]) = some d := hd
      cases hd
      obtain ⟨x, hx, rx⟩ := r.get hc
      refine ⟨⟨xs, x, h1, hx⟩, fun y H'' hy => ?_⟩
      obtain ⟨T, x', rfl, hT, rfl, hy⟩ := hy
      have := hy xs h1
      rw [hx] at this
      cases this
      rw [Nat.zero_add]
      exact yield_new S hT (Rp.mono e _ _ rx)
  · refine ⟨xs, h1, ?_⟩
    have := List.getElem?_eq_none_iff.mp hn
    rw [enumD_len] at this
    rw [r.length]
    exact this
/-- enumerate(e): a text or a list -/
def tEnum (K : PySem.W.Frag) (ta : TA) : TI := fun σ H R => ta σ H fun vs H1 => (∃ x, vs = [.str x] ∧ R (Itx x) H1) ∨ ∃ a xs, vs = [.ref a] ∧ SqL K H1 a xs ∧ R (Ite K a) H1
theorem pi_enumA {X : Cx} {e : Expr} {ta : TA} {p pos tpos : Pos} {elts : List Expr} {kk : Nat} (hg : Gl X "enumerate") (hm : X.mg "enumerate" = none) (ha : PA X [e] ta) (hs : starEach [e] X.env = [(false, eval e X.env)] := by rfl) :
    PI X (.Tuple elts kk tpos) (.Call (.Name "enumerate" p) [e] [] pos) (tEnum X.K ta) := by
  refine ⟨fun pins s σ H R I h => ?_⟩
  refine Call_ (ld_blt I hg hm boot_enumerate (PyProof.Rows.callWith_type1 (thn (ha.run pos pins s σ H _ I h) fun us s1 ⟨vs, H1, I1, r1, q1⟩ => ?_) hs rfl))
  have fp2 : ∀ b ∈ [s1.heap.objs.size + 1, s1.heap.objs.size], s1.heap.objs.size ≤ b := fun b hb => by
    have e' : b = s1.heap.objs.size + 1 ∨ b = s1.heap.objs.size := by simpa using hb
    rcases e' with z | z
    · rw [z]
      exact Nat.le_succ _
    · rw [z]
      exact Nat.le_refl _
  rcases q1 with ⟨x, rfl, q⟩ | ⟨a, xs, rfl, hq, q⟩
  · cases r1 with
    | cons r rr =>
      cases rr
      obtain ⟨t, rfl⟩ := r
      refine call_enumerate_str fun h' he hit hsz hk => wpAny_pyIter_enum he ?_
      have I2 : Inv X pins σ H1 { s1 with heap := h' } := I1.kept (t' := s1.toks) hk
      exact ⟨s1.heap.objs.size + 1, [s1.heap.objs.size + 1, s1.heap.objs.size], _, _, H1, rfl, I2, turn_enumT x t (s1.heap.objs.size + 1) s1.heap.objs.size, ⟨⟨.none, he⟩, hit, Nat.succ_ne_self _⟩, fun b hb => I1.fpOk (fp2 b hb) (I1.hok.fresh (fp2 b hb)), q⟩
  · cases r1 with
    | cons r rr =>
      cases rr
      cases r
      obtain ⟨its, rv, p', hz⟩ := I1.list hq
      refine call_enumerate_list p'.isList fun h' he hit hsz hk => wpAny_pyIter_enum he ?_
      have I2 : Inv X pins σ H1 { s1 with heap := h' } := I1.kept (t' := s1.toks) hk
      exact ⟨s1.heap.objs.size + 1, [s1.heap.objs.size + 1, s1.heap.objs.size], _, _, H1, rfl, I2, turn_enum a (s1.heap.objs.size + 1) s1.heap.objs.size, ⟨⟨.none, he⟩, hit, Nat.succ_ne_self _⟩, fun b hb => I1.fpOk (fp2 b hb) (I1.hok.fresh (fp2 b hb)), q⟩
def iEnumD (t : TDA) : TDI := fun δ Q => t δ fun ds δ1 => (∃ x, ds = [.str x] ∧ Q (enumD 0 (signs x)) δ1) ∨ ∃ es, ds = [.lst es] ∧ Q (enumD 0 es) δ1
theorem di_enum {X : Cx} {W : Fix} {e : Expr} {t : TDA} {p pos tpos : Pos} {elts : List Expr} {kk : Nat} (hg : Gl X "enumerate") (hm : X.mg "enumerate" = none) (h : DA X W [e] t) (hs : starEach [e] X.env = [(false, eval e X.env)] := by rfl) :
    DI X W (.Tuple elts kk tpos) (.Call (.Name "enumerate" p) [e] [] pos) (iEnumD t) := by
  refine ⟨fun F H σ δ Q S q pins s I => (pi_enumA (X := X) (ta := cA X [e]) hg hm cA_pa hs).run pins s σ H _ I ?_⟩
  refine (h.run F H σ δ _ S q).imp fun vs H1 h1 => ?_
  obtain ⟨F1, ds, δ1, e1, S1, r1, q1⟩ := h1
  rcases q1 with ⟨x, rfl, q1⟩ | ⟨es, rfl, q1⟩
  · obtain ⟨v, rfl, rv⟩ := rpL1 r1
    exact .inl ⟨x, by rw [rpStr rv], F1, _, δ1, e1, S1, yields_enumT, q1⟩
  · obtain ⟨v, rfl, rv⟩ := rpL1 r1
    obtain ⟨a, xs, rfl, h2, h3⟩ := rpLst rv
    exact .inr ⟨a, xs, rfl, SqL.of (S1.fh _ _ h2), F1, _, δ1, e1, S1, yields_enumL h2 h3, q1⟩
end DD

set_option Elab.async false
set_option linter.all false
set_option maxRecDepth 100000
set_option maxHeartbeats 4000000
/-! DD13: several new objects at once: a, b = x, y; a dict of one pair. -/
namespace DD
open PySem PySem.Spec PyProof.Rows L2

/-- values with what is known of them; what is one's own is nobody else's -/
structure BsAt (K : PySem.W.Frag) (W : Fix) (F H : Hp) (σ : L2.St) (δ : Env') (bs : List B) (vs : List V) : Prop where
  rb : Paired (RB K W F H) bs vs
  off : ∀ (i : Nat) (b : B) (v : V), bs[i]? = some b → vs[i]? = some v → b.own = true → ∀ (j : Nat) (c : B), δ[j]? = some (some c) → c.own = true → σ[j]? ≠ some (some v)
  sep : ∀ (i j : Nat) (b c : B) (v : V), i ≠ j → bs[i]? = some b → b.own = true → bs[j]? = some c → c.own = true → vs[i]? = some v → vs[j]? ≠ some v
  noU : ∀ b ∈ bs, b.isU = false
def BQ (K : PySem.W.Frag) (W : Fix) (F : Hp) (σ : L2.St) (Q : List B → Env' → Prop) : List V → Hp → Prop := fun vs H' =>
  ∃ (F' : Hp) (bs : List B) (δ' : Env'), Same F F' ∧ SD K W F' H' σ δ' ∧ BsAt K W F' H' σ δ' bs vs ∧ Q bs δ'
abbrev TDB := Env' → (List B → Env' → Prop) → Prop
structure DB (X : Cx) (es : List Expr) (t : TDB) : Prop where
  run : ∀ (W : Fix) (F H : Hp) (σ : L2.St) (δ : Env') (Q : List B → Env' → Prop), SD X.K W F H σ δ → t δ Q → cA X es σ H (BQ X.K W F σ Q)
def bNil : TDB := fun δ Q => Q [] δ
def bCons (te : TD) (t : TDB) : TDB := fun δ Q => te δ fun b δ1 => b.isU = false ∧ t δ1 fun bs δ2 => Q (b :: bs) δ2
section
variable {X : Cx} {W : Fix} {e : Expr} {es : List Expr} {te : TD} {t : TDB}
theorem db_nil : DB X [] bNil := ⟨fun W F H σ δ Q S q pos pins s I => (pa_nil (X := X)).run pos pins s σ H _ I
  ⟨F, [], δ, Same.refl F, S, ⟨.nil, fun i b v h => by simp at h, fun i j b c v _ h => by simp at h, fun b h => by simp at h⟩, q⟩⟩
theorem RB.mono1 {K : PySem.W.Frag} {F F' H H' : Hp} {b : B} {v : V} (h : RB K W F H b v) (hb : b.own = false) (e : Same F F') : RB K W F' H' b v :=
  h.keep e (fun a o _ z => by rw [hb] at z; cases z) (fun a _ z => by rw [hb] at z; cases z)
theorem BsAt.cons {K : PySem.W.Frag} {F H : Hp} {σ : L2.St} {δ : Env'} {b : B} {v : V} {bs : List B} {vs : List V} (T : BsAt K W F H σ δ bs vs) (r : RB K W F H b v) (hu : b.isU = false)
    (ho : b.own = true → ∀ (j : Nat) (c : B), δ[j]? = some (some c) → c.own = true → σ[j]? ≠ some (some v)) (hs : b.own = true → ∀ (j : Nat) (c : B), bs[j]? = some c → c.own = true → vs[j]? ≠ some v) : BsAt K W F H σ δ (b :: bs) (v :: vs) where
  rb := .cons r T.rb
  off := fun i c u h1 h2 h3 => by
    cases i with
    | zero =>
      simp at h1 h2
      subst h1 h2
      exact ho h3
    | succ i => exact T.off i c u (by simpa using h1) (by simpa using h2) h3
  sep := fun i j c d u ne h1 h2 h3 h4 h5 => by
    cases i with
    | zero =>
      cases j with
      | zero => exact absurd rfl ne
      | succ j =>
        simp at h1 h5
        subst h1 h5
        rw [List.getElem?_cons_succ] at h3 ⊢
        exact hs h2 j d h3 h4
    | succ i =>
      cases j with
      | zero =>
        simp at h3
        subst h3
        rw [List.getElem?_cons_succ] at h1 h5
        intro z
        simp at z
        subst z
        exact hs h4 i c h1 h2 h5
      | succ j =>
        rw [List.getElem?_cons_succ] at h1 h3 h5 ⊢
        exact T.sep i j c d u (by omega) h1 h2 h3 h4 h5
  noU := fun c hc => by
    rcases List.mem_cons.mp hc with z | z
    · rw [z]
      exact hu
    · exact T.noU c z
theorem RB.unhold {K : PySem.W.Frag} {F H : Hp} {a : Addr} {o : HO} {b : B} {v : V} (r : RB K (W.hold a o) F H b v) (hu : b.isU = false) (hF : F a = none) : RB K W F H b v ∧ (b.own = true → v ≠ .ref a) := by
  cases b with
  | p d => exact ⟨r, fun z => by cases z⟩
  | u w n => cases hu
  | s d => cases hu
  | n ds =>
    obtain ⟨t, xs, h1, h2, h3, h4⟩ := r
    refine ⟨⟨t, xs, h1, h2, h3, fun c hc => ?_⟩, fun z => by cases z⟩
    obtain ⟨⟨ys, h5⟩, h6⟩ := h4 c hc
    have q : c ≠ a := fun z => by
      rw [z, hF] at h5
      cases h5
    have h6 : upd W.H0 a o c = none := h6
    rw [upd_ne q] at h6
    exact ⟨⟨ys, h5⟩, h6⟩
  | o d =>
    obtain ⟨c, rfl, h1, h2, h3⟩ := r
    have h2 : upd W.H0 a o c = none := h2
    have q : c ≠ a := fun z => by
      rw [z, upd_same] at h2
      cases h2
    rw [upd_ne q] at h2
    exact ⟨⟨c, rfl, h1, h2, h3⟩, fun _ z => q (V.ref.inj z)⟩
theorem db_cons (h : ∀ W, DE X W e te) (g : DB X es t) (hs : starEach (e :: es) X.env = (false, eval e X.env) :: starEach es X.env := by rfl) : DB X (e :: es) (bCons te t) := by
  refine ⟨fun W F H σ δ Q S q pos pins s I => (pa_cons (X := X) cE_pe cA_pa hs).run pos pins s σ H _ I ?_⟩
  refine ((h W).run F H σ δ _ S q).imp fun v H1 h1 => ?_
  obtain ⟨F1, b, δ1, e1, S1, r1, s1, hu, q1⟩ := h1
  by_cases hb : b.own = true
  · obtain ⟨d, rfl⟩ := own_noU hu hb
    obtain ⟨a, rfl, hF, h0, hO⟩ := r1
    obtain ⟨o, ho⟩ := hO.some
    have hP : W.P ≠ some a := fun z => by
      obtain ⟨_, _, o', z2⟩ := S1.fp a z
      rw [h0] at z2
      cases z2
    have Sh := S1.held ho h0 hF hP (s1 rfl)
    refine (g.run (W.hold a o) F1 H1 σ δ1 _ Sh q1).imp fun vs H2 h2 => ?_
    obtain ⟨F2, bs, δ2, e2, S2, T, q2⟩ := h2
    have hF0 : W.F0 a = none := S1.f0.free hF
    obtain ⟨S3, h3, hF2, hn⟩ := S2.unheld h0 hF0 hP
    have rr : ∀ {bs : List B} {vs : List V}, Paired (RB X.K (W.hold a o) F2 H2) bs vs → (∀ b ∈ bs, b.isU = false) → Paired (RB X.K W F2 H2) bs vs ∧ ∀ (j : Nat) (c : B), bs[j]? = some c → c.own = true → vs[j]? ≠ some (V.ref a) := by
      intro bs vs r
      induction r with
      | nil => exact fun _ => ⟨.nil, fun j c z => by simp at z⟩
      | @cons b v bs vs r rs ih =>
        intro hz
        obtain ⟨g1, g2⟩ := r.unhold (hz b List.mem_cons_self) hF2
        obtain ⟨g3, g4⟩ := ih fun c hc => hz c (List.mem_cons_of_mem _ hc)
        refine ⟨.cons g1 g3, fun j c z1 z2 => ?_⟩
        cases j with
        | zero =>
          simp at z1
          subst z1
          intro z
          simp at z
          exact g2 z2 z
        | succ j =>
          rw [List.getElem?_cons_succ] at z1 ⊢
          exact g4 j c z1 z2
    obtain ⟨g1, g2⟩ := rr T.rb T.noU
    have T' : BsAt X.K W F2 H2 σ δ2 bs vs := ⟨g1, T.off, T.sep, T.noU⟩
    have hO2 : Own X.K F2 H2 d a := by
      cases d <;> first | exact hO.elim | skip
      · obtain ⟨xs, z1, z2⟩ := hO
        rw [ho] at z1
        cases z1
        exact ⟨xs, h3, RpL.mono e2 _ _ z2⟩
      · obtain ⟨xs, z1, z2, z3⟩ := hO
        rw [ho] at z1
        cases z1
        exact ⟨xs, h3, RpL.mono e2 _ _ z2, z3⟩
      · obtain ⟨dx, xs, z1, z2, z3⟩ := hO
        rw [ho] at z1
        cases z1
        exact ⟨dx, xs, h3, RpL.mono e2 _ _ z2, z3⟩
      · have z1 : H1 a = some (.set _ _) := hO
        rw [ho] at z1
        cases z1
        exact h3
      · obtain ⟨xs, z1, z2, z3⟩ := hO
        rw [ho] at z1
        cases z1
        exact ⟨xs, h3, RpL.mono e2 _ _ z2, z3⟩
    exact ⟨F2, .o d :: bs, δ2, e1.trans e2, S3, T'.cons ⟨a, rfl, hF2, h0, hO2⟩ rfl (fun _ => hn) (fun _ => g2), q2⟩
  · have hb : b.own = false := by simpa using hb
    refine (g.run W F1 H1 σ δ1 _ S1 q1).imp fun vs H2 h2 => ?_
    obtain ⟨F2, bs, δ2, e2, S2, T, q2⟩ := h2
    exact ⟨F2, b :: bs, δ2, e1.trans e2, S2, T.cons (r1.mono1 hb e2) hu (fun z => by rw [hb] at z; cases z) (fun z => by rw [hb] at z; cases z), q2⟩
end

/-! ### a, b = x, y -/
section
variable {X : Cx} {W : Fix} {t : TDB}
theorem SD.puts {K : PySem.W.Frag} {F H : Hp} {σ : L2.St} {δ : Env'} {is : List Nat} : ∀ {bs : List B} {vs : List V} {ns : List Nat}, ns.Nodup → ns.length = bs.length → SD K W F H σ δ → BsAt K W F H σ δ bs vs →
    ∃ σ' δ', σ' = (ns.zip vs).foldl (fun τ p => τ.set p.1 (some p.2)) σ ∧ δ' = (ns.zip bs).foldl (fun ε p => ε.set p.1 (some p.2)) δ ∧ SD K W F H σ' δ' := by
  suffices h : ∀ (bs : List B) (vs : List V) (ns : List Nat) (σ : L2.St) (δ : Env'), ns.Nodup → ns.length = bs.length → SD K W F H σ δ → BsAt K W F H σ δ bs vs →
      SD K W F H ((ns.zip vs).foldl (fun τ p => τ.set p.1 (some p.2)) σ) ((ns.zip bs).foldl (fun ε p => ε.set p.1 (some p.2)) δ) by
    intro bs vs ns hn hl S T
    exact ⟨_, _, rfl, rfl, h bs vs ns σ δ hn hl S T⟩
  intro bs
  induction bs with
  | nil =>
    intro vs ns σ δ hn hl S T
    have e : ns = [] := List.length_eq_zero_iff.mp hl
    subst e
    exact S
  | cons b bs ih =>
    intro vs ns σ δ hn hl S T
    cases ns with
    | nil => cases hl
    | cons n ns =>
      obtain ⟨rb, off, sep, nu⟩ := T
      cases rb with
      | @cons _ v _ vs r rs =>
        have nd := List.nodup_cons.mp hn
        refine ih vs ns _ _ nd.2 (by simpa using hl) (S.put (i := n) r fun hb j c h1 h2 _ => off 0 b v rfl rfl hb j c h1 h2) ⟨rs, fun i c u h1 h2 h3 j c' h4 h5 h6 => ?_, fun i j c d u ne h1 h2 h3 h4 h5 => ?_, fun c hc => nu c (List.mem_cons_of_mem _ hc)⟩
        · by_cases ej : j = n
          · subst ej
            have hlj : j < δ.length := by
              have := (List.getElem?_eq_some_iff.mp h4).1
              rw [List.length_set] at this
              exact this
            rw [List.getElem?_set_self hlj] at h4
            cases h4
            rw [List.getElem?_set_self (by rw [S.len]; exact hlj)] at h6
            cases h6
            exact sep 0 (i + 1) b c v (by omega) rfl h5 (by simpa using h1) h3 rfl (by simpa using h2)
          · rw [List.getElem?_set_ne (Ne.symm ej)] at h4 h6
            exact off (i + 1) c u (by simpa using h1) (by simpa using h2) h3 j c' h4 h5 h6
        · exact fun h6 => sep (i + 1) (j + 1) c d u (by omega) (by simpa using h1) h2 (by simpa using h3) h4 (by simpa using h5) (by simpa using h6)
def dPar (ns : List Nat) (t : TDB) : TSD := fun Z δ => t δ fun bs δ1 => bs.length = ns.length ∧ Z.nx ((ns.zip bs).foldl (fun ε p => ε.set p.1 (some p.2)) δ1)
theorem ds_par {i j : Nat} {x y : Str} {a b : Expr} {px py pt pos : Pos} {kt k2 : Nat} {pt2 : Pos} (hc : X.calm = true) (hN : X.N.Nodup) (hi : X.N[i]? = some x) (hj : X.N[j]? = some y) (hij : i ≠ j)
    (hx : X.env.scope.names.lookup x = some .local) (hy : X.env.scope.names.lookup y = some .local) (h : DB X [a, b] t)
    (hw : swappedStores [.Tuple [.Name x px, .Name y py] kt pt] (.Tuple [a, b] k2 pt2) X.env = pure (some [x, y]))
    (hs : swapsWithSole [.Tuple [.Name x px, .Name y py] kt pt] (.Tuple [a, b] k2 pt2) pos.line X.env = pure false := by rfl) :
    DS X W (.Assign [.Tuple [.Name x px, .Name y py] kt pt] (.Tuple [a, b] k2 pt2) pos) (dPar [i, j] t) :=
  .of (ps_par (X := X) hc hN hi hj hij hx hy cA_pa hw hs) fun F H σ δ D S q => by
    refine (h.run W F H σ δ _ S q).imp fun vs H1 h1 => ?_
    obtain ⟨F1, bs, δ1, e1, S1, T, hl, q1⟩ := h1
    have hv : vs.length = 2 := by
      rw [← Paired.length T.rb]
      exact hl
    match vs, hv with
    | [v, w], _ =>
      obtain ⟨σ', δ', e2, e3, S2⟩ := S1.puts (is := []) (ns := [i, j]) (by simpa using hij) hl.symm T
      refine ⟨v, w, rfl, F1, δ', ?_, by rw [e3]; exact q1⟩
      rw [e2] at S2
      exact S2
theorem ds_par3 {i j l : Nat} {x y z : Str} {a b c : Expr} {px py pz pt pos : Pos} {kt k2 : Nat} {pt2 : Pos} (hc : X.calm = true) (hN : X.N.Nodup) (hi : X.N[i]? = some x) (hj : X.N[j]? = some y) (hk : X.N[l]? = some z) (hij : i ≠ j) (hil : i ≠ l) (hjl : j ≠ l)
    (hx : X.env.scope.names.lookup x = some .local) (hy : X.env.scope.names.lookup y = some .local) (hz : X.env.scope.names.lookup z = some .local) (h : DB X [a, b, c] t)
    (hw : swappedStores [.Tuple [.Name x px, .Name y py, .Name z pz] kt pt] (.Tuple [a, b, c] k2 pt2) X.env = pure (some [x, y, z]))
    (hs : swapsWithSole [.Tuple [.Name x px, .Name y py, .Name z pz] kt pt] (.Tuple [a, b, c] k2 pt2) pos.line X.env = pure false := by rfl) :
    DS X W (.Assign [.Tuple [.Name x px, .Name y py, .Name z pz] kt pt] (.Tuple [a, b, c] k2 pt2) pos) (dPar [i, j, l] t) :=
  .of (ps_par3 (X := X) hc hN hi hj hk hij hil hjl hx hy hz cA_pa hw hs) fun F H σ δ D S q => by
    refine (h.run W F H σ δ _ S q).imp fun vs H1 h1 => ?_
    obtain ⟨F1, bs, δ1, e1, S1, T, hl, q1⟩ := h1
    have hv : vs.length = 3 := by
      rw [← Paired.length T.rb]
      exact hl
    match vs, hv with
    | [v, w, u], _ =>
      obtain ⟨σ', δ', e2, e3, S2⟩ := S1.puts (is := []) (ns := [i, j, l]) (by simp [hij, hil, hjl]) hl.symm T
      refine ⟨v, w, u, rfl, F1, δ', ?_, by rw [e3]; exact q1⟩
      rw [e2] at S2
      exact S2
end

/-! ### a dict as it is written: none, or one pair -/
section
variable {X : Cx} {W : Fix} {e : Expr} {te : TD} {pos : Pos}
def dDct0 : TD := fun δ Q => Q (.o (.dct [] [])) δ
theorem de_dct0 : DE X W (.Dict [] [] pos) dDct0 := .of (pe_dnewK (X := X)) fun F H σ δ Q S q p hp => .mkO (d := .dct [] []) S hp ⟨[], upd_same, .nil, rfl⟩ q
def keyE : Expr → Option Key
  | .Constant (.int i) _ _ => some (.inl i)
  | .Constant (.str x) _ _ => some (.inr x)
  | _ => none
theorem key_pe {ek : Expr} {k : Key} (h : keyE ek = some k) : PE X ek (tC (kV k)) := by
  unfold keyE at h
  split at h
  · cases h
    exact pe_int
  · cases h
    exact pe_str
  · cases h
def dDct1 (k : Key) (te : TD) : TD := fun δ Q => dp te δ fun d δ1 => Q (.o (.dct [k] [d])) δ1
theorem de_dct1 {ek : Expr} {k : Key} (hk : keyE ek = some k) (h : ∀ W, DE X W e te) : DE X W (.Dict [some ek] [e] pos) (dDct1 k te) :=
  .of (pe_disp (X := X) (pps_cons (key_pe hk) (tv := cE X e) cE_pe pps_nil) rfl rfl (by simp) (by simp)) fun F H σ δ Q S q p hp => by
    have S1 := S.newO (o := .dK []) hp
    have h0 := S.fresh0 hp
    have hF := S.freshF hp
    have hP : W.P ≠ some p := fun z => by
      obtain ⟨_, ⟨o, z2⟩, _⟩ := S.fp p z
      rw [hp] at z2
      cases z2
    have Sh := S1.held (o := .dK []) upd_same h0 hF hP fun j c h1 h2 h3 => by
      obtain ⟨u, h4, h5⟩ := S.get j c h1
      rw [h3] at h4
      cases h4
      obtain ⟨a', o, z, h6, _⟩ := h5.there h2
      cases z
      rw [hp] at h6
      cases h6
    refine ((h (W.hold p (.dK []))).plain Sh q).imp fun v H1 h1 => ?_
    obtain ⟨F1, d, δ1, e1, S2, r1, q1⟩ := h1
    obtain ⟨S3, h3, hF1, hn⟩ := S2.unheld h0 (S.f0.free hF) hP
    refine ⟨h3, [(k, v)], rfl, by simp, ?_⟩
    have em : mergeK [] [(k, v)] = [k].zip [v] := rfl
    rw [em]
    exact ⟨F1, .o (.dct [k] [d]), δ1, e1, S3.turn h0 hF1 hn, ⟨p, rfl, hF1, h0, [v], upd_same, .cons r1 .nil, rfl⟩, fun _ => hn, q1⟩
end
end DD

set_option Elab.async false
set_option linter.all false
set_option maxRecDepth 100000
set_option maxHeartbeats 4000000
/-! DD14: the law's own head, where no repr is under way; the purse. -/
namespace DD
open PySem PySem.Spec PyProof.Rows L2

/-- as law_call, for a def that knows that no repr is under way -/
theorem head_call {P : Program} {w : World} {K : PySem.W.Frag} {mg mb : Str → Option Value} {k : Nat} {fa a : Addr} {x : Str} {sp : Sp} {s1 : Shared} {us : List Value} {ns : List Int}
    (KX : K.In s1.heap) (gl : s1.heap.Ns mainGlobals mg) (bl : s1.heap.Ns builtinsNs mb) (bb : ∀ y : Str, y ≠ "__name__" → mb y = bootBuiltins y) (lim : s1.heap.NoLimit) (ge : s1.gens = #[])
    (ga : s1.heap.get? a = some { cls := .type "list", data := .seq us.toArray }) (hin : IntsAre us ns) (lz : ns.length ≤ sizeLine) (hr : Room k callerA)
    (G : ∀ base : Heap, K.In base → base.Ns mainGlobals mg → ∃ fd : FuncData, GnOk P w K mg base k fa fd [x] sp ∧ BindsTo s1 fd ⟨[.ref a], []⟩ [(x, .ref a)])
    (hsp : ∀ H : Hp, Only H → SqL K H a (ns.map V.int) → sp [.ref a] H (fun v _ => v = .bl true) fun _ _ _ => False) :
    codeAny (model P w) callerA (.call (.ref fa) ⟨[.ref a], []⟩) (fun r s' => r = .ok (.ret (.bool true)) ∧ OldK s1.heap s'.heap ∧ s'.os = s1.os ∧ AllBare s'.gens) s1 := by
  have lenU := hin.length
  have vals : Vals (ns.map V.int) us := vals_ints hin
  suffices core : ∀ H : Hp, Only H → SqL K H a (ns.map V.int) → HOk P w H s1.heap → (∀ c, H c ≠ none → c = a ∧ K.lookup a = none) →
      codeAny (model P w) callerA (.call (.ref fa) ⟨[.ref a], []⟩) (fun r s' => r = .ok (.ret (.bool true)) ∧ OldK s1.heap s'.heap ∧ s'.os = s1.os ∧ AllBare s'.gens) s1 by
    cases hk : K.lookup a with
    | some ob =>
      have e := KX a ob hk
      rw [ga] at e
      cases e
      exact core (fun _ => none) (fun _ => .inl rfl) (.inr ⟨_, us.toArray, _, hk, rfl, rfl, rfl, by rw [List.size_toArray, lenU]; exact lz, by simpa using vals⟩) (fun c u z => by have z' : (none : Option HO) = some u := z; cases z') fun c z => absurd rfl z
    | none =>
      have at1 : ∀ c, c = a → (fun c => if c = a then some (HO.frz { cls := .type "list", data := .seq us.toArray } (.lst (ns.map V.int))) else none) c = some (HO.frz { cls := .type "list", data := .seq us.toArray } (.lst (ns.map V.int))) := fun c e => if_pos e
      refine core (fun c => if c = a then some (.frz { cls := .type "list", data := .seq us.toArray } (.lst (ns.map V.int))) else none) (fun c => ?_) (.inl (.inr ⟨_, at1 a rfl⟩)) (fun c u z => ?_) fun c z => ⟨?_, hk⟩
      · by_cases e : c = a
        · exact .inr ⟨_, _, if_pos e⟩
        · exact .inl (if_neg e)
      · by_cases e : c = a
        · have z2 := (if_pos e).symm.trans z
          cases z2
          rw [e]
          exact ⟨ga, by rw [List.length_map]; exact lz, us, _, vals, ga⟩
        · have z2 := (if_neg e).symm.trans z
          cases z2
      · by_cases e : c = a
        · exact e
        · exact absurd (if_neg e) z
  intro H hO hS hok only
  have up : ∀ {c : Addr} {ob : Obj}, s1.heap.get? c = some ob → H c = none → (hidT s1.heap H).get? c = some ob := fun e n => hidT_get e n
  have dn : ∀ {c : Addr} {ob : Obj} {es : Array DictEntry} {ep : Nat}, s1.heap.get? c = some ob → ob.data = .dict es ep → H c = none := by
    intro c ob es ep e d
    cases q : H c with
    | none => rfl
    | some u =>
      have ea := (only c (by rw [q]; simp)).1
      rw [ea, ga] at e
      cases e
      have d2 : Data.seq us.toArray _ = Data.dict es ep := d
      cases d2
  have nsUp : ∀ {c : Addr} {m : Str → Option Value}, s1.heap.Ns c m → (hidT s1.heap H).Ns c m := by
    rintro c m ⟨ob, es, ep, e, d, r⟩
    exact ⟨ob, es, ep, up e (dn e d), d, r⟩
  have KB : K.In (hidT s1.heap H) := by
    intro c ob e
    refine up (KX c ob e) ?_
    cases q : H c with
    | none => rfl
    | some u =>
      obtain ⟨ea, en⟩ := only c (by rw [q]; simp)
      rw [ea, en] at e
      cases e
  have M : Mod K mg (hidT s1.heap H) := ⟨KB, nsUp gl, ⟨mb, nsUp bl, bb⟩, by obtain ⟨mc, z1, z2⟩ := lim; exact ⟨mc, nsUp z1, z2⟩⟩
  have E0 : Env0 P w K mg (hidT s1.heap H) callerA [] s1 H := ⟨rfl, M, fun c ob e => of_hidT e, Nat.le_of_eq (hidT_size _ _), trivial, fun c z => absurd (show c ∈ ([] : List Addr) from z) (by simp), hok, .of_eq ge⟩
  obtain ⟨fd, G1, hbind⟩ := G _ KB (nsUp gl)
  refine codeAny_mono (G1.run callerA [] s1 H ⟨[.ref a], []⟩ [.ref a] [.ref a] _ _ rfl hr E0 hbind (.cons rfl .nil) (hsp H hO hS)) ?_
  intro r s' h
  cases r with
  | error e =>
    obtain ⟨_, _, _, _, _, _, _, _, _, _, _, _, z⟩ := h
    exact z.elim
  | ok fl =>
    cases fl with
    | next => exact h.elim
    | brk => exact h.elim
    | cont => exact h.elim
    | ret u =>
      obtain ⟨v, H', os, bare, un, hok', rv, q⟩ := h
      have q : v = .bl true := q
      subst q
      obtain rfl : u = Value.bool true := rv
      refine ⟨rfl, OldK.of_keep fun c ob e => ?_, os, bare⟩
      cases q : H c with
      | none => exact un.keep c ob e q (fun z => absurd (show c ∈ ([] : List Addr) from z) (by simp)) (by simp)
      | some u =>
        rcases hO c with z | ⟨ob2, xs, z⟩
        · rw [q] at z
          cases z
        · obtain ⟨e1, _⟩ := hok c _ z
          obtain ⟨e2, _⟩ := hok' c _ (un.frzs c ob2 _ z)
          rw [e] at e1
          cases e1
          exact e2
theorem walk_g {l : PySem.W.OpenLaw} {n k : Nat} {q : Program} {loose : List Str} {XP : (Str → Option Value) → Heap → Prop} {YP : World → Heap → Prop} {d : DefRec} {K : Params → PySem.W.Frag} {spd : Spd} {x : Str}
    (hn : l.most = some n) (hn2 : n ≤ sizeLine) (hdf : d.params.defaults = []) (hr : Room k callerA) (hY : ∀ (w : World) (h : Heap), YP w h → (K w.params).In h)
    (G : ∀ (w : World) (mg : Str → Option Value) (h : Heap), (K w.params).In h → h.Ns mainGlobals mg →
      ∀ base : Heap, (K w.params).In base → base.Ns mainGlobals mg → ∃ (fa : Addr) (fd : FuncData), GnOk l.prog w (K w.params) mg base k fa fd [x] (toSp (K w.params) spd) ∧ mg d.name = some (.ref fa) ∧ Binds (K w.params) fd [x] [])
    (hsp : ∀ ns : List Int, ns.length ≤ n → spd [.p (.scr ns)] (fun b _ => b = .p (.bl true)) fun _ _ _ => False) :
    PySem.W.WalkO q loose XP YP l.row.toRowW d [] (fun f vs => PySem.call f vs) := by
  refine Att.attach_call hn hdf ?_
  intro w s0 s1 mg mb fa o pm cd doc a vs ns GG Y ho hd hcd hmg hobj hints hlen hg
  have KX := hY w _ Y
  refine head_call (sp := toSp (K w.params) spd) (x := x) KX GG.T.g GG.T.b GG.T.builtins GG.T.nolimit hg hobj hints (Nat.le_trans hlen hn2) hr (fun base kb nb => ?_) fun H hO hS => ?_
  · obtain ⟨fa', fd, g1, e, g2⟩ := G w mg _ KX GG.T.g base kb nb
    rw [hmg] at e
    cases e
    exact ⟨fd, g1, g2 s1 [.ref a] KX rfl⟩
  refine ⟨H, none, [.p (.scr ns)], _, _, Same.refl H, .cons (?_ : Rp _ H (.scr ns) (.ref a)) .nil, (fun p e => by cases e), hsp ns hlen, fun v H' F' b m _ r q => ?_, fun cls dx H' F' C ds m _ _ z => z.elim⟩
  · unfold Rp
    refine ⟨a, rfl, ?_⟩
    rcases hS with (q | ⟨o', q⟩) | q
    · rcases hO a with z | ⟨o', xs, z⟩
      · rw [z] at q
        cases q
      · rw [z] at q
        cases q
    · exact .inl ⟨o', q⟩
    · exact .inr q
  · subst q
    exact rpBl (K := K w.params) (F := F') r
end DD

set_option Elab.async false
set_option linter.all false
set_option maxRecDepth 100000
set_option maxHeartbeats 4000000
/-! DD15: rules in short, as a program prints them. -/
namespace DD
open PySem PySem.Spec PyProof.Rows L2

/-! ### a def of the text, by its promise -/
structure DefAt (K : PySem.W.Frag) (mg : Str → Option Value) (x : Str) (st : Stmt) : Prop where
  ex : ∃ f fd, Fun K x x st f fd ∧ mg x = some (.ref f)
structure Cal (P : Program) (w : World) (K : PySem.W.Frag) (mg : Str → Option Value) (base : Heap) (x : Str) (k : Nat) (ps : List Str) (spd : Spd) : Prop where
  ex : ∃ f fd, GnOk P w K mg base k f fd ps (toSp K spd) ∧ mg x = some (.ref f) ∧ PySem.W.keepIn K (.ref f) = true ∧ Binds K fd ps []
theorem vis_any {sc : Scope} {x : Str} (h : sc.names.lookup x = some .local ∨ sc.names.lookup x = some .cell ∨ sc.names.lookup x = some .free) : Vis sc x := h
section
variable {P : Program} {w : World} {K : PySem.W.Frag} {mg : Str → Option Value} {base : Heap}
/-- THE RULE: a def of the text by its body's reading over data -/
theorem cal_mk {x : Str} {st : Stmt} {N ps : List Str} {k : Nat} {spd : Spd} (pi : Option Nat) (D : DefAt K mg x st) (S : FnScope N ps (defScope st))
    (hbd : ∀ (kV doc pm : Value) (an : Option Addr) (cdv ct : Value) (us : List Value), us.length = ps.length → bindArgs (PySem.W.fnOf x x (defArgs st) (defBody st) (defScope st) .none kV doc pm an cdv ct) ⟨us, []⟩ = pure (ps.zip us))
    (len : ∀ bs R E, spd bs R E → bs.length = ps.length) (hpk : ∀ bs R E, spd bs R E → PurK pi bs ∧ (pi = none → ∀ b ∈ bs, b.own = false))
    (hbody : ∀ (f : Addr) (cdv : Value) (A : Around) (outer : List Env) (s : Shared) (H : Hp) (E : XK) (W : Fix) (bs : List B) (R : B → Nat → Prop) (ED : Addr → List DD.D → Nat → Prop), A.guards = some [] →
      Room k (A.deeper (envOfC x (defScope st) s.heap.objs.size f cdv)) → TkE (cxOf (L2.CX P w) P w K mg base N x (defScope st) f cdv A outer s H E) W (fun C ds δ => ∃ m, PC pi δ m ∧ ED C ds m) → spd bs R ED → Same W.F0 W.H0 →
      ∃ t, DSs (cxOf (L2.CX P w) P w K mg base N x (defScope st) f cdv A outer s H E) W (defBody st) t ∧
        t { nx := fun δ => ∃ m, PC pi δ m ∧ R (.p .non) m, rt := fun b δ => b.isU = false ∧ ∃ m, PC pi δ m ∧ R b m } (startD N bs)) :
    Cal P w K mg base x (k + 1) ps spd := by
  obtain ⟨f, fd, F, hm⟩ := D.ex
  exact ⟨f, fd, gd_of pi F S len hpk (hbody f), hm, F.kp, F.binds hbd⟩
theorem pur_none {bs : List B} (h : ∀ b ∈ bs, b.own = false) : PurK none bs ∧ ((none : Option Nat) = none → ∀ b ∈ bs, b.own = false) :=
  ⟨(fun j b e hb => by rw [h b (List.mem_of_getElem? e)] at hb; cases hb), fun _ => h⟩
theorem pur_zero {n : Nat} {w : Bool} {bs : List B} (h : ∀ b ∈ bs, b.own = false) : PurK (some 0) (.u w n :: bs) ∧ ((some 0 : Option Nat) = none → ∀ b ∈ B.u w n :: bs, b.own = false) := by
  refine ⟨fun j b e hb => ?_, fun z => by cases z⟩
  cases j with
  | zero => rfl
  | succ j =>
    rw [List.getElem?_cons_succ] at e
    rw [h b (List.mem_of_getElem? e)] at hb
    cases hb
end
/-- the law by its def's promise -/
theorem walk_c {l : PySem.W.OpenLaw} {n k : Nat} {q : Program} {loose : List Str} {XP : (Str → Option Value) → Heap → Prop} {YP : World → Heap → Prop} {d : DefRec} {K : Params → PySem.W.Frag} {spd : Spd} {x y : Str}
    (hn : l.most = some n) (hn2 : n ≤ sizeLine) (hdf : d.params.defaults = []) (hr : Room k callerA) (hY : ∀ (w : World) (h : Heap), YP w h → (K w.params).In h) (hy : d.name = y)
    (G : ∀ (w : World) (mg : Str → Option Value) (h : Heap), (K w.params).In h → h.Ns mainGlobals mg → ∀ base : Heap, Cal l.prog w (K w.params) mg base y k [x] spd)
    (hsp : ∀ ns : List Int, ns.length ≤ n → spd [.p (.scr ns)] (fun b _ => b = .p (.bl true)) fun _ _ _ => False) :
    PySem.W.WalkO q loose XP YP l.row.toRowW d [] (fun f vs => PySem.call f vs) := by
  subst hy
  refine walk_g (spd := spd) (x := x) hn hn2 hdf hr hY (fun w mg h KX GG base _ _ => ?_) hsp
  obtain ⟨f, fd, g, hm, _, b⟩ := (G w mg h KX GG base).ex
  exact ⟨f, fd, g, hm, b⟩
/-- what the top has written, as k_is tells it -/
theorem defAt_of {K : PySem.W.Frag} {h : Heap} {mg : Str → Option Value} {x : Str} {st : Stmt} {f : Addr} {oc : Value} {od an : Option Addr} {osl : Array (Option Value)} {kV doc pm cdv ct : Value} (X : K.In h) (G : h.Ns mainGlobals mg)
    (a : PySem.W.nsIn K mainGlobals x = some (some (.ref f))) (l : K.lookup f = some ⟨oc, od, .func (PySem.W.fnOf x x (defArgs st) (defBody st) (defScope st) .none kV doc pm an cdv ct), osl⟩)
    (c : PySem.W.codeIn K cdv x = true) (k : PySem.W.keepIn K (.ref f) = true) : DefAt K mg x st := ⟨f, _, fun_mk l c k, PySem.W.mg_of X G a⟩
section
variable {X : Cx} {W : Fix} {E0 : Addr → List D → Env' → Prop} {k k' : Nat} {ps : List Str} {spd : Spd} {x : Str} {p pos : Pos} {e : Expr} {es : List Expr} {t : TDA}
theorem de_c (c : Cal X.prog X.w X.K X.mg X.base x k ps spd) (gu : X.A.guards = some []) (hr : Room k' X.A) (h : DA X W (e :: es) t) (hg : Gl X x := by exact rfl) (hk : k ≤ k' := by decide) (hdb : (x == ("__debug__" : Str)) = false := by decide)
    (he : starEach (e :: es) X.env = (false, eval e X.env) :: starEach es X.env := by rfl) (hpl : (backTo pos (starEach es X.env)).any (·.1) = false := by rfl) : DE X W (.Call (.Name x p) (e :: es) [] pos) (dCall spd [] (fun _ _ _ => False) t) := by
  obtain ⟨f, fd, G, hm, kp, b⟩ := c.ex
  exact de_call G gu (hr.mono hk) hg hm kp b .nil (fun _ => .nil) h hdb he hpl
theorem de_cX (te : TkE X W E0) (c : Cal X.prog X.w X.K X.mg X.base x k ps spd) (gu : X.A.guards = some []) (hr : Room k' X.A) (h : DA X W (e :: es) t) (hg : Gl X x := by exact rfl) (hk : k ≤ k' := by decide) (hdb : (x == ("__debug__" : Str)) = false := by decide)
    (he : starEach (e :: es) X.env = (false, eval e X.env) :: starEach es X.env := by rfl) (hpl : (backTo pos (starEach es X.env)).any (·.1) = false := by rfl) : DE X W (.Call (.Name x p) (e :: es) [] pos) (dCall spd [] E0 t) := by
  obtain ⟨f, fd, G, hm, kp, b⟩ := c.ex
  exact de_callX te G gu (hr.mono hk) hg hm kp b .nil (fun _ => .nil) h hdb he hpl
theorem de_cF (c : Cal X.prog X.w X.K X.mg X.base x k ps spd) (gu : X.A.guards = some []) (hr : Room k' X.A) (h : DA X W (e :: es) t) (hg : Gl X x := by exact rfl) (hk : k ≤ k' := by decide) (hdb : (x == ("__debug__" : Str)) = false := by decide)
    (he : starEach (e :: es) X.env = (false, eval e X.env) :: starEach es X.env := by rfl) (hpl : (backTo pos (starEach es X.env)).any (·.1) = false := by rfl) : DE X W (.Call (.Name x p) (e :: es) [] pos) (dCallF spd t) := by
  obtain ⟨f, fd, G, hm, kp, b⟩ := c.ex
  exact de_callF G gu (hr.mono hk) hg hm kp b h hdb he hpl
theorem de_cP {i : Nat} {xp : Str} {pp : Pos} (c : Cal X.prog X.w X.K X.mg X.base x k ps spd) (gu : X.A.guards = some []) (hr : Room k' X.A) (hN : X.N[i]? = some xp) (h : DA X W es t) (hv : Vis X.env.scope xp := by first | exact Or.inl rfl | exact Or.inr (Or.inl rfl) | exact Or.inr (Or.inr rfl))
    (hg : Gl X x := by exact rfl) (hk : k ≤ k' := by decide) (hdb : (x == ("__debug__" : Str)) = false := by decide) (hd1 : (xp == ("__debug__" : Str)) = false := by decide) (hcd : (xp == ("__classdict__" : Str)) = false := by decide)
    (he : starEach (.Name xp pp :: es) X.env = (false, eval (.Name xp pp) X.env) :: starEach es X.env := by rfl) (hpl : (backTo pos (starEach es X.env)).any (·.1) = false := by rfl) :
    DE X W (.Call (.Name x p) (.Name xp pp :: es) [] pos) (dCallP i spd [] (fun _ _ _ => False) t) := by
  obtain ⟨f, fd, G, hm, kp, b⟩ := c.ex
  exact de_callP G gu (hr.mono hk) hg hm kp hN hv b .nil (fun _ => .nil) h hdb hd1 hcd he hpl
/-- f() -/
def dCall0 (spd : Spd) : TD := fun δ Q => spd [] (fun b _ => b.isU = false ∧ Q b δ) fun _ _ _ => False
theorem de_c0 (c : Cal X.prog X.w X.K X.mg X.base x k ps spd) (gu : X.A.guards = some []) (hr : Room k' X.A) (hg : Gl X x := by exact rfl) (hk : k ≤ k' := by decide) (hdb : (x == ("__debug__" : Str)) = false := by decide) : DE X W (.Call (.Name x p) [] [] pos) (dCall0 spd) := by
  obtain ⟨f, fd, G, hm, kp, b⟩ := c.ex
  refine .of (pe_callG0 (X := X) (Es := fun _ _ _ _ => False) G gu (hr.mono hk) hg hm kp b .nil (fun σ => pass_none) hdb) fun F H σ δ Q S q => ?_
  refine ⟨F, none, _, _, _, S.fh, .nil, (fun p e => by cases e), q, fun v H' F' b m a r z => ?_, fun cls d H' F' C ds m a er z => z.elim⟩
  obtain ⟨r2, r3⟩ := RB.of_res S r
  exact ⟨F', b, δ, a.ff, S.after a, r2, r3, z.2⟩

/-- a new list of three ints is a purse -/
def dAsP (te : TD) : TD := fun δ Q => te δ fun b δ1 => ∃ (x y z : Int) (n : Nat), b = .o (.lst [.int x, .int y, .int z]) ∧ PWF n x y z ∧ Q (.u false n) δ1
theorem de_asPurse {a : Expr} {te : TD} (h : DE X W a te) : DE X W a (dAsP te) := by
  refine ⟨fun F H σ δ Q S q => (h.run F H σ δ _ S q).imp fun v H' z => ?_⟩
  obtain ⟨F', b, δ', e, S', r, hs, x, y, w, n, rfl, hp, q⟩ := z
  obtain ⟨c, rfl, h1, h2, xs, h3, h4⟩ := r
  have e3 : xs = [V.int x, V.int y, V.int w] := RpL.int (ns := [x, y, w]) h4
  rw [e3] at h3
  exact ⟨F', .u false n, δ', e, S', ⟨c, x, y, w, rfl, h1, by rw [if_neg Bool.false_ne_true]; exact h2, h3, hp⟩, hs, q⟩

/-! ### names -/
theorem de_v (i : Nat) {pos : Pos} (hN : X.N[i]? = some x := by rfl) (hv : Vis X.env.scope x := by first | exact Or.inl rfl | exact Or.inr (Or.inl rfl) | exact Or.inr (Or.inr rfl)) (hd : (x == ("__debug__" : Str)) = false := by decide) (hcd : (x == ("__classdict__" : Str)) = false := by decide) :
    DE X W (.Name x pos) (dV i) := de_var hN hv hd hcd
theorem de_m (i : Nat) {pos : Pos} (hN : X.N[i]? = some x := by rfl) (hv : Vis X.env.scope x := by first | exact Or.inl rfl | exact Or.inr (Or.inl rfl) | exact Or.inr (Or.inr rfl)) (hd : (x == ("__debug__" : Str)) = false := by decide) (hcd : (x == ("__classdict__" : Str)) = false := by decide) :
    DE X W (.Name x pos) (dM i) := de_move hN hv hd hcd
/-- a built-in class as a value -/
theorem de_ty {n : String} {pos : Pos} (hm : X.mg x = none) (hv : bootBuiltins x = some (.type n)) (hg : Gl X x := by exact rfl) (hn : x ≠ "__name__" := by decide) (hd : (x == ("__debug__" : Str)) = false := by decide) : DE X W (.Name x pos) (dC (.ty n)) :=
  de_bltn (v := .ty n) hg hm hv rfl (fun F => by unfold Rp; rfl) hn hd
/-- a module's constant -/
structure ConAt (K : PySem.W.Frag) (mg : Str → Option Value) (x : Str) (d : D) : Prop where
  ex : ∃ u v, mg x = some u ∧ RelV v u ∧ ∀ F, Rp K F d v
theorem de_con {d : D} {pos : Pos} (c : ConAt X.K X.mg x d) (hg : Gl X x := by exact rfl) (hd : (x == ("__debug__" : Str)) = false := by decide) : DE X W (.Name x pos) (dC d) := by
  obtain ⟨u, v, h1, h2, h3⟩ := c.ex
  exact de_glob hg h1 h2 h3 hd
theorem con_ref {K : PySem.W.Frag} {mg : Str → Option Value} {a : Addr} (h : mg x = some (.ref a)) : ConAt K mg x (.ref a) := ⟨_, .ref a, h, rfl, fun F => by unfold Rp; rfl⟩
theorem con_str {K : PySem.W.Frag} {mg : Str → Option Value} {z : Str} {tk : Tok} (h : mg x = some (.str z tk)) : ConAt K mg x (.str z) := ⟨_, .str z, h, ⟨tk, rfl⟩, fun F => by unfold Rp; rfl⟩
theorem con_int {K : PySem.W.Frag} {mg : Str → Option Value} {z : Int} {tk : Tok} (h : mg x = some (.int z tk)) : ConAt K mg x (.int z) := ⟨_, .int z, h, ⟨tk, rfl⟩, fun F => by unfold Rp; rfl⟩
theorem vals_strs : ∀ {vs : List Value} {ss : List Str}, Paired (fun (s : Str) (v : Value) => ∃ t, v = .str s t) ss vs → Vals (ss.map V.str) vs
  | _, _, .nil => .nil
  | _, _, .cons h t => .cons h (vals_strs t)
theorem con_strs {K : PySem.W.Frag} {mg : Str → Option Value} {a : Addr} {o : Obj} {vs : List Value} {n : Nat} {ss : List Str} (h : mg x = some (.ref a)) (hk : K.lookup a = some o) (hc : o.cls = .type "tuple") (hd : o.data = .seq vs.toArray n)
    (hz : vs.length ≤ sizeLine) (hs : Paired (fun (s : Str) (v : Value) => ∃ t, v = .str s t) ss vs) : ConAt K mg x (.cst (ss.map D.str)) := by
  refine ⟨_, .ref a, h, rfl, fun F => ?_⟩
  unfold Rp
  exact ⟨a, ss.map V.str, rfl, .inr ⟨o, vs.toArray, n, hk, hc, hd, by simpa using hz, by simpa using vals_strs hs⟩, .ofStr ss⟩

/-! ### built-in functions -/
theorem bt_len : bootBuiltins "len" = some (.builtin "len") := by decide +kernel
theorem bt_isinstance : bootBuiltins "isinstance" = some (.builtin "isinstance") := by decide +kernel
theorem bt_repr : bootBuiltins "repr" = some (.builtin "repr") := by decide +kernel
theorem bt_max : bootBuiltins "max" = some (.builtin "max") := by decide +kernel
theorem bt_sorted : bootBuiltins "sorted" = some (.builtin "sorted") := by decide +kernel
theorem bt_int : bootBuiltins "int" = some (.type "int") := by decide +kernel
theorem bt_bool : bootBuiltins "bool" = some (.type "bool") := by decide +kernel
theorem bt_str : bootBuiltins "str" = some (.type "str") := by decide +kernel
theorem bt_list : bootBuiltins "list" = some (.type "list") := by decide +kernel
theorem bt_tuple : bootBuiltins "tuple" = some (.type "tuple") := by decide +kernel
theorem bt_set : bootBuiltins "set" = some (.type "set") := by decide +kernel
end
end DD

set_option Elab.async false
set_option linter.all false
set_option maxRecDepth 100000
set_option maxHeartbeats 4000000
/-! DD16: what the readings come to. -/
namespace DD
open PySem PySem.Spec PyProof.Rows L2

/-! ### a list comprehension whose test and item are plain -/
theorem lcL_map {g : TGD} {tt : TDT} {te : TD} {vs : List Nat} {Q : List D → Env' → Prop} {δ : Env'} (f : D → Bool) (h : D → D) (e1 e2 : D → Env') : ∀ {ds acc : List D},
    (∀ d ∈ ds, ∀ (Y : D → Env' → Prop) (N : Env' → Prop), (f d = true → Y (h d) (e1 d)) → (f d = false → N (e2 d)) → g d δ fun δ1 => tt δ1 fun k δ2 => if k = true then dp te δ2 Y else N δ2) →
    (∀ d ∈ ds, wipeE (e1 d) vs = δ ∧ wipeE (e2 d) vs = δ) → acc.length + ds.length ≤ sizeLine → Q (acc ++ (ds.filter f).map h) δ → lcL g tt te vs Q ds acc δ
  | [], acc, _, _, _, q => by
    have q : Q (acc ++ []) δ := q
    rw [List.append_nil] at q
    exact q
  | d :: ds, acc, hs, hw, hz, q => by
    obtain ⟨w1, w2⟩ := hw d List.mem_cons_self
    rw [List.length_cons] at hz
    refine hs d List.mem_cons_self _ _ (fun hf => ⟨by omega, ?_⟩) fun hf => ?_
    · rw [w1]
      refine lcL_map f h e1 e2 (fun d' hd' => hs d' (List.mem_cons_of_mem _ hd')) (fun d' hd' => hw d' (List.mem_cons_of_mem _ hd')) (by rw [List.length_append, List.length_singleton]; omega) ?_
      rw [List.filter_cons_of_pos hf, List.map_cons] at q
      rw [List.append_assoc]
      exact q
    · rw [w2]
      refine lcL_map f h e1 e2 (fun d' hd' => hs d' (List.mem_cons_of_mem _ hd')) (fun d' hd' => hw d' (List.mem_cons_of_mem _ hd')) (by omega) ?_
      rw [List.filter_cons_of_neg (by rw [hf]; decide)] at q
      exact q

/-! ### isinstance of data -/
/-- data whose class is built in -/
def dat (d : D) : Bool := (tyD d).isSome
theorem isZ_iff {K : PySem.W.Frag} {d : D} {t u : String} {b : Bool} {Q : B → Prop} (hk : tyD d = some t) (hb : PySem.W.kitOne K (.type t) (.type u) = some b) : isZG K [d, .ty u] Q ↔ Q (.p (.bl b)) := by
  constructor
  · rintro (⟨x, c, t', u', b', e, h1, h2, h3, q⟩ | ⟨C, y, c, u', b', e, _⟩)
    · cases e
      rw [hk] at h1
      cases h1
      cases h2
      rw [hb] at h3
      cases h3
      exact q
    · cases e
      cases hk
  · exact fun q => .inl ⟨d, _, t, _, b, rfl, hk, rfl, hb, q⟩
def isInt : D → Bool
  | .int _ => true
  | .bl _ => true
  | _ => false
theorem isZ_Int {K : PySem.W.Frag} {d : D} {Q : B → Prop} (h : dat d = true) : isZG K [d, .ty "int"] Q ↔ Q (.p (.bl (isInt d))) := by
  cases d <;> first | (cases h; done) | skip
  all_goals exact isZ_iff rfl (by first | rfl | kernel_rfl)
def isBool : D → Bool
  | .bl _ => true
  | _ => false
theorem isZ_Bool {K : PySem.W.Frag} {d : D} {Q : B → Prop} (h : dat d = true) : isZG K [d, .ty "bool"] Q ↔ Q (.p (.bl (isBool d))) := by
  cases d <;> first | (cases h; done) | skip
  all_goals exact isZ_iff rfl (by first | rfl | kernel_rfl)
def isStr : D → Bool
  | .str _ => true
  | _ => false
theorem isZ_Str {K : PySem.W.Frag} {d : D} {Q : B → Prop} (h : dat d = true) : isZG K [d, .ty "str"] Q ↔ Q (.p (.bl (isStr d))) := by
  cases d <;> first | (cases h; done) | skip
  all_goals exact isZ_iff rfl (by first | rfl | kernel_rfl)
def isLst : D → Bool
  | .lst _ => true
  | _ => false
theorem isZ_Lst {K : PySem.W.Frag} {d : D} {Q : B → Prop} (h : dat d = true) : isZG K [d, .ty "list"] Q ↔ Q (.p (.bl (isLst d))) := by
  cases d <;> first | (cases h; done) | skip
  all_goals exact isZ_iff rfl (by first | rfl | kernel_rfl)
def isTup : D → Bool
  | .tup _ => true
  | .cst _ => true
  | _ => false
theorem isZ_Tup {K : PySem.W.Frag} {d : D} {Q : B → Prop} (h : dat d = true) : isZG K [d, .ty "tuple"] Q ↔ Q (.p (.bl (isTup d))) := by
  cases d <;> first | (cases h; done) | skip
  all_goals exact isZ_iff rfl (by first | rfl | kernel_rfl)

/-! ### == of data -/
theorem eqD_str {a b : Str} : eqD (.str a) (.str b) = some (decide (a = b)) := by
  unfold eqD
  have h : (flatD (.str a) && flatD (.str b) && scal (flatV' (.str a)) (flatV' (.str b))) = true := rfl
  rw [if_pos h]
  by_cases e : a = b
  · rw [e]
    simp [flatV']
  · have e2 : ¬ flatV' (.str a) = flatV' (.str b) := fun z => e (V.str.inj z)
    rw [decide_eq_false e, decide_eq_false e2]
theorem eqD_int {a b : Int} : eqD (.int a) (.int b) = some (decide (a = b)) := by
  unfold eqD
  have h : (flatD (.int a) && flatD (.int b) && scal (flatV' (.int a)) (flatV' (.int b))) = true := rfl
  rw [if_pos h]
  by_cases e : a = b
  · rw [e]
    simp [flatV']
  · have e2 : ¬ flatV' (.int a) = flatV' (.int b) := fun z => e (V.int.inj z)
    rw [decide_eq_false e, decide_eq_false e2]
/-- data that == may walk -/
def Sh (k : Nat) (d : D) : Prop := ∃ c, toPy d = some c ∧ c.canLay0 = true ∧ c.depth ≤ k
theorem sh_all {k : Nat} : ∀ {ds : List D}, (∀ d ∈ ds, Sh k d) → ∃ cs, toPyL ds = some cs ∧ PyData.canLayAll0 cs = true ∧ PyData.depthAll cs ≤ k ∧ cs.length = ds.length
  | [], _ => ⟨[], rfl, rfl, Nat.zero_le _, rfl⟩
  | d :: ds, h => by
    obtain ⟨c, h1, h2, h3⟩ := h d List.mem_cons_self
    obtain ⟨cs, h4, h5, h6, h7⟩ := sh_all (ds := ds) fun d' hd => h d' (List.mem_cons_of_mem _ hd)
    refine ⟨c :: cs, ?_, ?_, Nat.max_le.mpr ⟨h3, h6⟩, by rw [List.length_cons, List.length_cons, h7]⟩
    · show (toPy d).bind (fun x => (toPyL ds).map fun xs => x :: xs) = _
      rw [h1, h4]
      rfl
    · show (c.canLay0 && PyData.canLayAll0 cs) = true
      rw [h2, h5]
      rfl
theorem sh_lst {k : Nat} {ds : List D} (h : ∀ d ∈ ds, Sh k d) : Sh (k + 1) (.lst ds) := by
  obtain ⟨cs, h1, h2, h3, _⟩ := sh_all h
  exact ⟨.list cs, by show (toPyL ds).map _ = _; rw [h1]; rfl, h2, Nat.succ_le_succ h3⟩
theorem sh_tup {k : Nat} {ds : List D} (h : ∀ d ∈ ds, Sh k d) : Sh (k + 1) (.tup ds) := by
  obtain ⟨cs, h1, h2, h3, _⟩ := sh_all h
  exact ⟨.tuple cs, by show (toPyL ds).map _ = _; rw [h1]; rfl, h2, Nat.succ_le_succ h3⟩
theorem Sh.mono {k k' : Nat} {d : D} (h : Sh k d) (hk : k ≤ k') : Sh k' d := by
  obtain ⟨c, h1, h2, h3⟩ := h
  exact ⟨c, h1, h2, Nat.le_trans h3 hk⟩
theorem sh_int {i : Int} : Sh 0 (.int i) := ⟨_, rfl, rfl, Nat.le_refl _⟩
theorem sh_bl {i : Bool} : Sh 0 (.bl i) := ⟨_, rfl, rfl, Nat.le_refl _⟩
theorem sh_non : Sh 0 .non := ⟨_, rfl, rfl, Nat.le_refl _⟩
theorem sh_str {x : Str} (h : ∀ c ∈ x.cps.toList, c < 1114112) : Sh 0 (.str x) := by
  refine ⟨_, rfl, ?_, Nat.le_refl _⟩
  show PyData.strOk x = true
  unfold PyData.strOk
  rw [Array.all_eq_true_iff_forall_mem]
  intro c hc
  exact decide_eq_true (h c (Array.mem_toList_iff.mpr hc))
theorem eqD_nil {k : Nat} {ds : List D} (hk : k ≤ 60) (h : ∀ d ∈ ds, Sh k d) : eqD (.lst ds) (.lst []) = some ds.isEmpty := by
  obtain ⟨cs, h1, h2, h3, h4⟩ := sh_all h
  unfold eqD
  rw [if_neg (by simp [flatD])]
  have e1 : toPy (.lst ds) = some (.list cs) := by
    show (toPyL ds).map _ = _
    rw [h1]
    rfl
  rw [e1]
  show (if (SeqAt.shaped (.list cs) && SeqAt.shaped (.list [])) = true then some (PyData.eqv (.list cs) (.list [])) else none) = _
  have s1 : SeqAt.shaped (.list cs) = true := by
    unfold SeqAt.shaped
    rw [Bool.and_eq_true]
    exact ⟨h2, decide_eq_true (by show PyData.depthAll cs + 1 ≤ 64; omega)⟩
  rw [s1, if_pos (by rfl)]
  cases ds with
  | nil =>
    have : cs = [] := List.length_eq_zero_iff.mp h4
    rw [this]
    rfl
  | cons d ds =>
    cases cs with
    | nil => cases h4
    | cons c cs => rfl

/-! ### for, by what stays true -/
theorem forL_inv (I : Env' → Prop) {g : TGD} {tb : TSD} {Z : EndsD} : ∀ {ds : List D}, (∀ d ∈ ds, ∀ δ, I δ → ∀ N : Env' → Prop, (∀ δ', I δ' → N δ') → g d δ fun δ1 => tb { Z with nx := N, ct := N, bk := Z.nx } δ1) → (∀ δ, I δ → Z.nx δ) → ∀ {δ}, I δ → forL g tb Z ds δ
  | [], _, hz, δ, h => hz δ h
  | d :: ds, hs, hz, δ, h => hs d List.mem_cons_self δ h _ fun δ' h' => forL_inv I (ds := ds) (fun d' hd => hs d' (List.mem_cons_of_mem _ hd)) hz h'
end DD

set_option Elab.async false
set_option linter.all false
set_option maxRecDepth 100000
set_option maxHeartbeats 4000000
/-! DD17: repr((x, y)) of two names, which stay one's own. -/
namespace DD
open PySem PySem.Spec PyProof.Rows L2
section
variable {K : PySem.W.Frag} {W : Fix} {F H : Hp} {σ : L2.St} {δ : Env'}
/-- data of a slot, read over a larger frozen part -/
theorem RB.reads {b : B} {v : V} (h : RB K W F H b v) (hu : b.isU = false) (fh : Same F H) : ∃ F', Same F F' ∧ Same F' H ∧ Rp K F' b.d v := by
  cases b with
  | p d => exact ⟨F, Same.refl F, fh, h⟩
  | u w n => cases hu
  | s d => cases hu
  | n ds =>
    obtain ⟨t, xs, rfl, h1, h2, _⟩ := h
    refine ⟨F, Same.refl F, fh, ?_⟩
    show Rp K F (.tup ds) (.ref t)
    unfold Rp
    exact ⟨t, xs, rfl, h1, h2⟩
  | o d =>
    obtain ⟨a, rfl, h1, h2, h3⟩ := h
    obtain ⟨o, ho⟩ := h3.some
    refine ⟨upd F a o, same_upd h1, fun c u e => ?_, own_frozen h3 ho h1⟩
    by_cases q : c = a
    · subst q
      rw [upd_same] at e
      rw [ho]
      exact e
    · rw [upd_ne q] at e
      exact fh c u e
end
section
variable {X : Cx} {W : Fix} {x y : Str} {i j : Nat} {p p1 p2 p3 pos : Pos} {kk : Nat}
def dReprPair (i j : Nat) : TD := fun δ Q => ∃ b1 b2 c, δ[i]? = some (some b1) ∧ δ[j]? = some (some b2) ∧ b1.isU = false ∧ b2.isU = false ∧ toPyR (.tup [b1.d, b2.d]) = some c ∧ Shw c ∧ Q (.p (.str c.shown)) δ
theorem de_reprPair (gu : X.A.guards = some []) (hu : X.A.units + 64 < cLine) (hsy : ∃ o, X.K.lookup sysModules = some o) (hm : X.mg "repr" = none) (hi : X.N[i]? = some x) (hj : X.N[j]? = some y) (hg : Gl X "repr" := by exact rfl)
    (hv : Vis X.env.scope x := by first | exact Or.inl rfl | exact Or.inr (Or.inl rfl) | exact Or.inr (Or.inr rfl)) (hw : Vis X.env.scope y := by first | exact Or.inl rfl | exact Or.inr (Or.inl rfl) | exact Or.inr (Or.inr rfl))
    (d1 : (x == ("__debug__" : Str)) = false := by decide) (d2 : (x == ("__classdict__" : Str)) = false := by decide) (d3 : (y == ("__debug__" : Str)) = false := by decide) (d4 : (y == ("__classdict__" : Str)) = false := by decide) :
    DE X W (.Call (.Name "repr" p) [.Tuple [.Name x p1, .Name y p2] kk p3] [] pos) (dReprPair i j) :=
  .of (pe_callB (X := X) (call_repr gu hu hsy) hg hm bt_repr (pa_cons (pe_tup (pa_cons (pe_var hi hv d1 d2) (pa_cons (pe_var hj hw d3 d4) pa_nil))) pa_nil)) fun F H σ δ Q S q => by
    obtain ⟨b1, b2, c, e1, e2, u1, u2, tc, sh, q⟩ := q
    obtain ⟨v1, g1, r1⟩ := S.get i _ e1
    obtain ⟨v2, g2, r2⟩ := S.get j _ e2
    refine ⟨v1, g1, v2, g2, by show 2 ≤ sizeLine; decide, fun t ht => ?_⟩
    obtain ⟨F1, s1, s2, z1⟩ := r1.reads u1 S.fh
    have r2' : ∃ F2, Same F1 F2 ∧ Same F2 H ∧ Rp X.K F2 b2.d v2 := by
      obtain ⟨F2, t1, t2, z2⟩ := r2.reads u2 S.fh
      refine ⟨fun a => match F1 a with | some o => some o | none => F2 a, fun a o h => by simp only [h], fun a o h => ?_, Rp.mono (fun a o h => ?_) _ _ z2⟩
      · cases e : F1 a with
        | some u =>
          simp only [e] at h
          cases h
          exact s2 a o e
        | none =>
          simp only [e] at h
          exact t2 a o h
      · cases e : F1 a with
        | some u =>
          have h3 := s2 a u e
          rw [t2 a o h] at h3
          exact h3.symm
        | none => exact h
    obtain ⟨F2, s3, s4, z2⟩ := r2'
    have nF2 : F2 t = none := s4.free ht
    refine ⟨.ref t, c, rfl, ⟨upd F2 t (.tup [v1, v2]), .tup [b1.d, b2.d], fun a o h => ?_, ?_, tc⟩, sh, ?_⟩
    · by_cases e : a = t
      · subst e
        rw [upd_same] at h ⊢
        exact h
      · rw [upd_ne e] at h ⊢
        exact s4 a o h
    · unfold Rp
      have m := same_upd (o := .tup [v1, v2]) nF2
      exact ⟨t, _, rfl, upd_same, .cons (Rp.mono (s3.trans m) _ _ z1) (.cons (Rp.mono m _ _ z2) .nil)⟩
    · exact .mk (S.newO ht) (by unfold Rp; rfl) q
end
end DD

set_option Elab.async false
set_option linter.all false
set_option maxRecDepth 100000
set_option maxHeartbeats 4000000
/-! DD18: what may be shown, by data; dict displays; d[k]; str(int). -/
namespace DD
open PySem PySem.Spec PyProof.Rows L2

/-! ### data that may be shown -/
structure Rs (n k : Nat) (d : D) : Prop where
  ex : ∃ c, toPyR d = some c ∧ c.showable = true ∧ c.depth ≤ k ∧ c.leavesShort 60 = true ∧ c.bulk ≤ n
theorem Rs.mono {n k n' k' : Nat} {d : D} (h : Rs n k d) (hn : n ≤ n') (hk : k ≤ k') : Rs n' k' d := by
  obtain ⟨c, h1, h2, h3, h4, h5⟩ := h.ex
  exact ⟨c, h1, h2, Nat.le_trans h3 hk, h4, Nat.le_trans h5 hn⟩
theorem Rs.shw {n k : Nat} {d : D} (h : Rs n k d) (hk : k ≤ 50) (hn : n ≤ 100000) : ∃ c, toPyR d = some c ∧ Shw c := by
  obtain ⟨c, h1, h2, h3, h4, h5⟩ := h.ex
  refine ⟨c, h1, h2, Nat.le_trans h3 hk, ?_⟩
  have := PyData.shown_le_bulk 60 (by decide) c h4
  rw [sizeLine_eq]
  have h6 : (60 + 2) * c.bulk ≤ 62 * 100000 := Nat.mul_le_mul (Nat.le_refl _) (Nat.le_trans h5 hn)
  omega
theorem rs_non : Rs 0 0 .non := ⟨_, rfl, rfl, Nat.le_refl _, rfl, Nat.le_refl _⟩
theorem rs_bl {b : Bool} : Rs 0 0 (.bl b) := ⟨_, rfl, rfl, Nat.le_refl _, rfl, Nat.le_refl _⟩
theorem rs_int {i : Int} (h : i.natAbs < 10 ^ 50) : Rs 0 0 (.int i) := by
  refine ⟨_, rfl, ?_, Nat.le_refl _, ?_, Nat.le_refl _⟩
  · refine decide_eq_true ?_
    by_cases h0 : i.natAbs = 0
    · rw [h0]
      decide
    · exact (Nat.log2_lt h0).mpr (Nat.lt_of_lt_of_le h (by decide +kernel))
  · show decide _ = true
    refine decide_eq_true ?_
    have := int_text_length_le10 (k := 50) (by decide) h
    show (Str.ofString (toString i)).length ≤ 60
    rw [PySem.ofString_length]
    omega
theorem rs_str {x : Str} {n : Nat} (h : ∀ c ∈ x.cps.toList, c < 1114112) (hl : x.length ≤ n) : Rs n 0 (.str x) := by
  refine ⟨_, rfl, rfl, Nat.le_refl _, ?_, hl⟩
  simp only [PyData.leavesShort, List.all_eq_true, decide_eq_true_eq]
  intro c hc
  exact Nat.lt_of_lt_of_le (h c hc) (by decide)
theorem rs_all {n k : Nat} : ∀ {ds : List D}, (∀ d ∈ ds, Rs n k d) → ∃ cs, toPyRL ds = some cs ∧ PyData.showableAll cs = true ∧ PyData.depthAll cs ≤ k ∧ PyData.leavesShortAll 60 cs = true ∧ PyData.bulkAll cs ≤ ds.length * (n + 1)
  | [], _ => ⟨[], rfl, rfl, Nat.zero_le _, rfl, Nat.zero_le _⟩
  | d :: ds, h => by
    obtain ⟨cs, h1, h2, h3, h4, h5⟩ := rs_all (ds := ds) fun d hd => h d (List.mem_cons_of_mem _ hd)
    obtain ⟨c, g1, g2, g3, g4, g5⟩ := (h d List.mem_cons_self).ex
    refine ⟨c :: cs, ?_, by simp only [PyData.showableAll, g2, h2, Bool.and_self], Nat.max_le.mpr ⟨g3, h3⟩, by simp only [PyData.leavesShortAll, g4, h4, Bool.and_self], ?_⟩
    · show (toPyR d).bind _ = _
      rw [g1, Option.bind_some, h1] <;> rfl
    · show c.bulk + 1 + PyData.bulkAll cs ≤ (ds.length + 1) * (n + 1)
      rw [Nat.add_mul]
      omega
theorem rs_lst {n k m : Nat} {ds : List D} (h : ∀ d ∈ ds, Rs n k d) (hm : ds.length ≤ m) : Rs (m * (n + 1)) (k + 1) (.lst ds) := by
  obtain ⟨cs, h1, h2, h3, h4, h5⟩ := rs_all h
  refine ⟨.list cs, ?_, h2, Nat.succ_le_succ h3, h4, Nat.le_trans h5 (Nat.mul_le_mul_right _ hm)⟩
  show (toPyRL ds).map _ = _
  rw [h1] <;> rfl
theorem rs_tup {n k m : Nat} {ds : List D} (h : ∀ d ∈ ds, Rs n k d) (hm : ds.length ≤ m) : Rs (m * (n + 1)) (k + 1) (.tup ds) := by
  obtain ⟨cs, h1, h2, h3, h4, h5⟩ := rs_all h
  refine ⟨.tuple cs, ?_, h2, Nat.succ_le_succ h3, h4, Nat.le_trans h5 (Nat.mul_le_mul_right _ hm)⟩
  show (toPyRL ds).map _ = _
  rw [h1] <;> rfl
theorem rs_dct0 : Rs 0 1 (.dct [] []) := ⟨_, rfl, rfl, by decide, rfl, Nat.le_refl _⟩

/-! ### == of equal data -/
theorem eqD_same {k : Nat} {d : D} (hk : k ≤ 60) (h : Sh k d) : eqD d d = some true := by
  obtain ⟨c, h1, h2, h3⟩ := h
  unfold eqD
  split
  · rw [decide_eq_true rfl]
  · have hs : SeqAt.shaped c = true := by
      unfold SeqAt.shaped
      rw [h2, decide_eq_true (show c.depth ≤ 64 by omega)]
      rfl
    rw [h1, Option.bind_some, Option.bind_some, hs, if_pos (by rfl), SeqAt.eqv_refl c h2]

/-! ### dicts as they are written -/
section
variable {X : Cx} {W : Fix} {pos : Pos}
structure DV (X : Cx) (ks : List Key) (keys : List (Option Expr)) (values : List Expr) (trs : List (TE × TE)) (t : TDA) : Prop where
  pp : ∀ pos, PPs X pos keys values trs
  run : ∀ (W : Fix) (F H : Hp) (σ : L2.St) (δ : Env') (Q : List D → Env' → Prop), SD X.K W F H σ δ → t δ Q →
    tPairs trs σ H fun ps H' => ∃ (F' : Hp) (xs : List V) (ds : List D) (δ' : Env'), ps = (ks.zip xs).map (fun kv => (kV kv.1, kv.2)) ∧ xs.length = ks.length ∧ Same F F' ∧ SD X.K W F' H' σ δ' ∧ RpL X.K F' ds xs ∧ Q ds δ'
theorem tPairs_imp : ∀ {trs : List (TE × TE)} {σ : L2.St} {H : Hp} {Q Q' : List (V × V) → Hp → Prop}, (∀ p ∈ trs, ∀ (σ : L2.St) (H : Hp) (Q Q' : VK), p.1 σ H Q → (∀ v H', Q v H' → Q' v H') → p.1 σ H Q') → (∀ p ∈ trs, ∀ (σ : L2.St) (H : Hp) (Q Q' : VK), p.2 σ H Q → (∀ v H', Q v H' → Q' v H') → p.2 σ H Q') →
    tPairs trs σ H Q → (∀ ps H', Q ps H' → Q' ps H') → tPairs trs σ H Q'
  | [], _, _, _, _, _, _, h, i => i _ _ h
  | (tk, tv) :: r, σ, H, Q, Q', m1, m2, h, i => m1 _ List.mem_cons_self _ _ _ _ h fun x H1 h1 => m2 _ List.mem_cons_self _ _ _ _ h1 fun y H2 h2 =>
    tPairs_imp (fun p hp => m1 p (List.mem_cons_of_mem _ hp)) (fun p hp => m2 p (List.mem_cons_of_mem _ hp)) h2 fun ps H3 h3 => i _ _ h3
structure DVm (trs : List (TE × TE)) : Prop where
  m1 : ∀ p ∈ trs, ∀ (σ : L2.St) (H : Hp) (Q Q' : VK), p.1 σ H Q → (∀ v H', Q v H' → Q' v H') → p.1 σ H Q'
  m2 : ∀ p ∈ trs, ∀ (σ : L2.St) (H : Hp) (Q Q' : VK), p.2 σ H Q → (∀ v H', Q v H' → Q' v H') → p.2 σ H Q'
structure DVs (X : Cx) (ks : List Key) (keys : List (Option Expr)) (values : List Expr) (t : TDA) : Prop where
  ex : ∃ trs, DV X ks keys values trs t ∧ DVm trs
theorem dv_nil : DVs X [] [] [] dNil := ⟨[], ⟨fun _ => pps_nil, fun W F H σ δ Q S q => ⟨F, [], [], δ, rfl, rfl, Same.refl F, S, .nil, q⟩⟩, ⟨(fun _ h => by cases h), fun _ h => by cases h⟩⟩
theorem dv_cons {ek e : Expr} {k : Key} {ks : List Key} {keys : List (Option Expr)} {values : List Expr} {te : TD} {t : TDA} (hk : keyE ek = some k) (h : ∀ W, DE X W e te) (g : DVs X ks keys values t) : DVs X (k :: ks) (some ek :: keys) (e :: values) (dCons te t) := by
  obtain ⟨trs, g, m⟩ := g.ex
  refine ⟨(tC (kV k), cE X e) :: trs, ⟨fun pos => pps_cons (key_pe hk) cE_pe (g.pp pos), fun W F H σ δ Q S q => ?_⟩, ⟨fun p hp => ?_, fun p hp => ?_⟩⟩
  · refine ((h W).plain S q).imp fun y H2 h2 => ?_
    obtain ⟨F1, d, δ1, e1, S1, r1, q1⟩ := h2
    refine tPairs_imp m.m1 m.m2 (g.run W F1 H2 σ δ1 _ S1 q1) fun ps H3 h3 => ?_
    obtain ⟨F2, xs, ds, δ2, rfl, hl, e2, S2, r2, q2⟩ := h3
    exact ⟨F2, y :: xs, d :: ds, δ2, rfl, by rw [List.length_cons, List.length_cons, hl], e1.trans e2, S2, .cons (Rp.mono e2 d y r1) r2, q2⟩
  · rcases List.mem_cons.mp hp with rfl | hp
    · exact fun σ H Q Q' h i => i _ _ h
    · exact m.m1 p hp
  · rcases List.mem_cons.mp hp with rfl | hp
    · exact fun σ H Q Q' h i => cE.imp h i
    · exact m.m2 p hp
theorem mergeK_new : ∀ {more kvs : List (Key × V)}, (more.map (·.1)).Nodup → (∀ kv ∈ more, valV kvs kv.1 = none) → mergeK kvs more = kvs ++ more
  | [], kvs, _, _ => (List.append_nil _).symm
  | (k, v) :: more, kvs, nd, hn => by
    have e : mergeK kvs ((k, v) :: more) = mergeK (putK kvs k v) more := rfl
    rw [e, putK_new v (hn _ List.mem_cons_self)]
    have nd' := List.nodup_cons.mp (show (k :: more.map (·.1)).Nodup from nd)
    rw [mergeK_new nd'.2 fun kv hkv => ?_, List.append_assoc]
    · rfl
    · have h1 := hn kv (List.mem_cons_of_mem _ hkv)
      have h2 : ¬ k = kv.1 := fun z => nd'.1 (by rw [z]; exact List.mem_map_of_mem hkv)
      unfold valV at h1 ⊢
      rw [List.find?_append]
      cases hf : kvs.find? fun p => decide (p.1 = kv.1) with
      | some p =>
        rw [hf] at h1
        cases h1
      | none => simp [h2]
theorem zip_keys : ∀ {ks : List Key} {xs : List V}, xs.length = ks.length → (ks.zip xs).map (·.1) = ks
  | [], _, _ => rfl
  | k :: ks, [], h => by simp at h
  | k :: ks, x :: xs, h => by rw [List.zip_cons_cons, List.map_cons, zip_keys (ks := ks) (xs := xs) (by simpa using h)]
def dDctN (ks : List Key) (t : TDA) : TD := fun δ Q => t δ fun ds δ1 => Q (.o (.dct ks ds)) δ1
theorem de_dctN {keys : List (Option Expr)} {values : List Expr} {ks : List Key} {t : TDA} (g : DVs X ks keys values t) (nd : ks.Nodup) (hall : keys.all (·.isSome) = true) (hl : keys.length = values.length) (h0 : keys ≠ []) (h15 : keys.length ≤ 15) (hk : ks.length ≤ 15) : DE X W (.Dict keys values pos) (dDctN ks t) := by
  obtain ⟨trs, g, m⟩ := g.ex
  refine .of (pe_disp (X := X) (g.pp pos) hall hl h0 h15) fun F H σ δ Q S q p hp => ?_
  have S1 := S.newO (o := .dK []) hp
  have h0 := S.fresh0 hp
  have hF := S.freshF hp
  have hP : W.P ≠ some p := fun z => by
    obtain ⟨_, ⟨o, z2⟩, _⟩ := S.fp p z
    rw [hp] at z2
    cases z2
  have Sh := S1.held (o := .dK []) upd_same h0 hF hP fun j c h1 h2 h3 => by
    obtain ⟨u, h4, h5⟩ := S.get j c h1
    rw [h3] at h4
    cases h4
    obtain ⟨a', o, z, h6, _⟩ := h5.there h2
    cases z
    rw [hp] at h6
    cases h6
  refine tPairs_imp m.m1 m.m2 (g.run (W.hold p (.dK [])) F _ σ δ _ Sh q) fun ps H1 h1 => ?_
  obtain ⟨F1, xs, ds, δ1, rfl, hlx, e1, S2, r1, q1⟩ := h1
  obtain ⟨S3, h3, hF1, hn⟩ := S2.unheld h0 (S.f0.free hF) hP
  refine ⟨h3, ks.zip xs, rfl, by rw [List.length_zip]; omega, ?_⟩
  have em : mergeK [] (ks.zip xs) = ks.zip xs := by
    rw [mergeK_new (by rw [zip_keys hlx]; exact nd) (fun _ _ => rfl), List.nil_append]
  rw [em]
  exact ⟨F1, .o (.dct ks ds), δ1, e1, S3.turn h0 hF1 hn, ⟨p, rfl, hF1, h0, xs, upd_same, r1, hlx.symm⟩, fun _ => hn, q1⟩

/-! ### d[k], too -/
def keyD : D → Option Key
  | .int i => some (.inl i)
  | .str x => some (.inr x)
  | _ => none
def lookD : List Key → List D → Key → Option D
  | k :: ks, d :: ds, j => if k = j then some d else lookD ks ds j
  | _, _, _ => none
theorem rp_key {K : PySem.W.Frag} {F : Hp} {d : D} {v : V} {k : Key} (h : Rp K F d v) (e : keyD d = some k) : v = kV k := by
  cases d <;> first | (cases e; done) | skip
  · cases e
    exact rpInt h
  · cases e
    exact rpStr h
theorem look_val {K : PySem.W.Frag} {F : Hp} : ∀ {ks : List Key} {ds : List D} {xs : List V} {k : Key} {d : D}, RpL K F ds xs → lookD ks ds k = some d → ∃ x, valV (ks.zip xs) k = some x ∧ Rp K F d x
  | [], _, _, _, _, _, e => by cases e
  | _ :: _, [], _, _, _, _, e => by cases e
  | j :: ks, d' :: ds, xs, k, d, h, e => by
    unfold RpL at h
    obtain ⟨x, r, rfl, h1, h2⟩ := h
    unfold lookD at e
    rw [List.zip_cons_cons]
    by_cases hj : j = k
    · rw [if_pos hj] at e
      cases e
      exact ⟨x, valV_pos hj, h1⟩
    · rw [if_neg hj] at e
      obtain ⟨y, e1, e2⟩ := look_val h2 e
      exact ⟨y, by rw [valV_neg hj]; exact e1, e2⟩
def rIxDct : R2 := fun x y H Q => ∃ a v, x = .ref a ∧ DGet H a y (some v) ∧ Q v H
theorem ix_dct (hu : X.A.units + 64 < cLine) : IxR X rIxDct := by
  intro value slice pins s σ H x y v u Q I rx ry h hs
  obtain ⟨a, z, rfl, g, q⟩ := h
  cases rx
  exact tail_any (dict_typeIs I g) PySem.F.slot_dict_getitem.lookup (d_getItem (by omega) I g ry fun w' s' I' r' => ⟨z, H, I', r', q⟩) hs
def itemD2 : D → D → Option D
  | .dct ks ds, y => (keyD y).bind (lookD ks ds)
  | x, y => itemD x y
def ixG2 : D → D → (B → Prop) → Prop := fun x y Q => ∃ d, itemD2 x y = some d ∧ Q (.p d)
theorem rd_ix2 {K : PySem.W.Frag} : RD K (fun x y H Q => rIx K x y H Q ∨ rIxDct x y H Q) ixG2 := by
  intro W F H σ δ x y c d Q Z S rc rd g hZ
  obtain ⟨e, he, q⟩ := g
  have other : itemD c d = some e → rIx K x y H Z := fun he => rd_ix W F H σ δ x y c d Q Z S rc rd ⟨e, he, q⟩ hZ
  cases c <;> first | exact .inl (other he) | skip
  rename_i ks ds
  have he : (keyD d).bind (lookD ks ds) = some e := he
  cases hk : keyD d with
  | none =>
    rw [hk] at he
    cases he
  | some k =>
    rw [hk] at he
    unfold Rp at rc
    obtain ⟨a, xs, rfl, h1, h2, _⟩ := rc
    obtain ⟨v, e1, e2⟩ := look_val h2 (show lookD ks ds k = some e from he)
    have ey := rp_key rd hk
    subst ey
    refine .inr ⟨a, v, rfl, ?_, hZ _ _ (mkP S e2 q)⟩
    rw [← e1]
    exact DGet.k (S.fh _ _ h1)
theorem de_ix2 {a b : Expr} {ta tb : TD} (hu : X.A.units + 64 < cLine) (ha : DE X W a ta) (hb : DE X W b tb) (hs : PlainIx b) : DE X W (.Subscript a b pos) (dOp ixG2 ta tb) :=
  .of (pe_ix (X := X) (ix_seq.or (ix_dct hu)) cE_pe cE_pe hs) fun _ _ _ _ _ S q => two ha hb rd_ix2 S q

/-! ### str(i) -/
def rStr2 : List V → Hp → VK → Prop := fun xs H Q => (∃ a, xs = [.str a] ∧ Q (.str a) H) ∨ ∃ i, xs = [.int i] ∧ i.natAbs.log2 < 1920 ∧ Q (.str (toString i)) H
theorem call_str2 : CallR X (.type "str") rStr2 := by
  intro pins s σ H xs us Q I r h
  rcases h with h | h
  · exact SkE.call_str_str pins s σ H xs us Q I r h
  · exact call_str_int pins s σ H xs us Q I r h
def strG2 : List D → (B → Prop) → Prop := fun ds Q => ∃ d, ds = [d] ∧ match d with
  | .str s => Q (.p (.str s))
  | .int i => i.natAbs.log2 < 1920 ∧ Q (.p (.str (Str.ofString (toString i))))
  | _ => False
theorem rc_str2 {K : PySem.W.Frag} : RC K rStr2 strG2 := by
  intro W F H σ δ xs ds Q Z S r g hZ
  obtain ⟨d, rfl, g⟩ := g
  obtain ⟨y, rfl, ry⟩ := rpL1x r
  cases d <;> first | exact g.elim | skip
  · rename_i i
    rw [rpInt ry]
    exact .inr ⟨i, rfl, g.1, hZ _ _ (mkP S (by unfold Rp; rfl) g.2)⟩
  · rename_i x
    rw [rpStr ry]
    exact .inl ⟨x, rfl, hZ _ _ (mkP S (by unfold Rp; rfl) g)⟩
end
/-! ### slices from the start, to the end -/
theorem cutD_take {ds : List D} {k : Nat} (h : k ≤ ds.length) : cutD ds none (some (k : Int)) = ds.take k := by
  unfold cutD
  rw [HT.sIx_nat, HT.sIx_none, List.drop_zero, Nat.sub_zero, Nat.min_eq_left h]
theorem cutD_drop {ds : List D} {k : Nat} (h : k ≤ ds.length) : cutD ds (some (k : Int)) none = ds.drop k := by
  unfold cutD
  rw [HT.sIx_nat, HT.sIx_none, Nat.min_eq_left h]
  exact List.take_of_length_le (by rw [List.length_drop]; omega)
/-! ### for, by what stays true of what was walked -/
theorem forL_pre (I : List D → Env' → Prop) {g : TGD} {tb : TSD} {Z : EndsD} : ∀ {ds pre : List D}, (∀ (p : List D) (d : D) (r : List D) (δ : Env'), pre ++ ds = p ++ d :: r → I p δ → ∀ N : Env' → Prop, (∀ δ', I (p ++ [d]) δ' → N δ') → g d δ fun δ1 => tb { Z with nx := N, ct := N, bk := Z.nx } δ1) → (∀ δ, I (pre ++ ds) δ → Z.nx δ) → ∀ {δ}, I pre δ → forL g tb Z ds δ
  | [], pre, _, hz, δ, h => hz δ (by rw [List.append_nil]; exact h)
  | d :: ds, pre, hs, hz, δ, h => hs pre d ds δ rfl h _ fun δ' h' => forL_pre I (ds := ds) (pre := pre ++ [d]) (fun p d' r δ e => hs p d' r δ (by rw [← e, List.append_assoc]; rfl)) (fun δ q => hz δ (by rw [List.append_assoc] at q; exact q)) h'
/-- one statement at a time -/
theorem dseq {t u : TSD} {Z : EndsD} {δ : Env'} (h : t { Z with nx := u Z } δ) : dSeq t u Z δ := h
/-- a comprehension, by what stays true of what was walked and made -/
theorem lcL_pre (I : List D → List D → Env' → Prop) {g : TGD} {tt : TDT} {te : TD} {vs : List Nat} {Q : List D → Env' → Prop} (hz : ∀ p acc δ, I p acc δ → acc.length < sizeLine) : ∀ {ds pre acc : List D} {δ : Env'},
    (∀ (p : List D) (d : D) (r acc : List D) (δ : Env'), pre ++ ds = p ++ d :: r → I p acc δ → ∀ (N : D → Env' → Prop) (M : Env' → Prop), (∀ y δ', I (p ++ [d]) (acc ++ [y]) (wipeE δ' vs) → N y δ') → (∀ δ', I (p ++ [d]) acc (wipeE δ' vs) → M δ') → g d δ fun δ1 => tt δ1 fun k δ2 => if k = true then dp te δ2 N else M δ2) →
    (∀ acc δ, I (pre ++ ds) acc δ → Q acc δ) → I pre acc δ → lcL g tt te vs Q ds acc δ
  | [], pre, acc, δ, _, hq, h => hq acc δ (by rw [List.append_nil]; exact h)
  | d :: ds, pre, acc, δ, hs, hq, h => by
    have more : ∀ acc' δ', I (pre ++ [d]) acc' δ' → lcL g tt te vs Q ds acc' δ' := fun acc' δ' h' => lcL_pre I hz (pre := pre ++ [d]) (fun p d' r a e q => hs p d' r a e (by rw [← q, List.append_assoc]; rfl)) (fun a e q => hq a e (by rw [List.append_assoc] at q; exact q)) h'
    exact hs pre d ds acc δ rfl h (fun y δ3 => acc.length < sizeLine ∧ lcL g tt te vs Q ds (acc ++ [y]) (wipeE δ3 vs)) (fun δ2 => lcL g tt te vs Q ds acc (wipeE δ2 vs)) (fun y δ' q => ⟨hz _ _ _ h, more _ _ q⟩) fun δ' q => more _ _ q
end DD

set_option Elab.async false
set_option linter.all false
set_option maxRecDepth 100000
set_option maxHeartbeats 4000000
/-! DD19: instances of own classes: fields, properties, methods, __init__, isinstance. -/
namespace DD
open PySem PySem.Spec PyProof.Rows L2

/-! ### fields -/
def lookF : List Str → List D → Str → Option D
  | n :: ns, d :: ds, f => if f = n then some d else lookF ns ds f
  | _, _, _ => none
theorem lookF_val {K : PySem.W.Frag} {F : Hp} : ∀ {ns : List Str} {ds : List D} {xs : List V} {f : Str} {d : D}, RpL K F ds xs → lookF ns ds f = some d → ∃ x, (ns.zip xs).lookup f = some x ∧ Rp K F d x
  | [], _, _, _, _, _, e => by cases e
  | _ :: _, [], _, _, _, _, e => by cases e
  | n :: ns, d' :: ds, xs, f, d, h, e => by
    unfold RpL at h
    obtain ⟨x, r, rfl, h1, h2⟩ := h
    unfold lookF at e
    rw [List.zip_cons_cons, List.lookup_cons]
    by_cases hj : f = n
    · rw [if_pos hj] at e
      cases e
      have hb : (f == n) = true := beq_iff_eq.mpr hj
      rw [hb]
      exact ⟨x, rfl, h1⟩
    · rw [if_neg hj] at e
      obtain ⟨y, e1, e2⟩ := lookF_val h2 e
      have hb : (f == n) = false := beq_eq_false_iff_ne.mpr hj
      rw [hb]
      exact ⟨y, e1, e2⟩
structure FldOk (K : PySem.W.Frag) (C : Addr) (f : Str) : Prop where
  c : Cls K C
  n : NoAttr K C f
section
variable {X : Cx} {W : Fix} {e : Expr} {te : TD} {f : Str} {pos : Pos}
def dFld (K : PySem.W.Frag) (f : Str) (te : TD) : TD := fun δ Q => dp te δ fun d δ1 => ∃ C ns ds y, d = .ins C ns ds ∧ FldOk K C f ∧ lookF ns ds f = some y ∧ Q (.p y) δ1
theorem de_fld (h : DE X W e te) (hb : attributeBase e f X.env (eval e X.env) = eval e X.env := by rfl) : DE X W (.Attribute e f pos) (dFld X.K f te) :=
  .of (pe_fld (X := X) cE_pe hb) fun F H σ δ Q S q => by
    refine (h.plain S q).imp fun v H1 h1 => ?_
    obtain ⟨F1, d, δ1, e1, S1, r1, C, ns, ds, y, rfl, ok, l, q1⟩ := h1
    unfold Rp at r1
    obtain ⟨a, dx, xs, rfl, g1, g2, _⟩ := r1
    obtain ⟨x, g4, g5⟩ := lookF_val g2 l
    exact ⟨a, C, dx, _, x, rfl, S1.fh _ _ g1, ok.c, ok.n, g4, (DQ.mk S1 g5 q1).back e1⟩
end

/-! ### the field of a slot's own object is set -/
def setF (f : Str) (y : D) : List Str → List D → List Str × List D
  | n :: ns, d :: ds => if n = f then (n :: ns, y :: ds) else ((n :: (setF f y ns ds).1), d :: (setF f y ns ds).2)
  | _, _ => ([f], [y])
theorem setF_ok {K : PySem.W.Frag} {F : Hp} {f : Str} {y : D} {v : V} (hy : Rp K F y v) : ∀ {ns : List Str} {ds : List D} {xs : List V}, RpL K F ds xs → ns.length = xs.length →
    ∃ ys, putF f v (ns.zip xs) = (setF f y ns ds).1.zip ys ∧ RpL K F (setF f y ns ds).2 ys ∧ (setF f y ns ds).1.length = ys.length
  | [], ds, xs, h, hl => by
    cases xs with
    | cons x xs => cases hl
    | nil =>
      have : ds = [] := List.length_eq_zero_iff.mp (by rw [← h.length]; rfl)
      subst this
      exact ⟨[v], rfl, .cons hy .nil, rfl⟩
  | n :: ns, [], xs, h, hl => by
    unfold RpL at h
    subst h
    cases hl
  | n :: ns, d :: ds, xs, h, hl => by
    unfold RpL at h
    obtain ⟨x, r, rfl, h1, h2⟩ := h
    by_cases e : n = f
    · refine ⟨v :: r, ?_, ?_, ?_⟩
      · show (if n = f then (n, v) :: ns.zip r else (n, x) :: putF f v (ns.zip r)) = (if n = f then (n :: ns, y :: ds) else _).1.zip (v :: r)
        rw [if_pos e, if_pos e]
        rfl
      · show RpL K F (if n = f then (n :: ns, y :: ds) else _).2 (v :: r)
        rw [if_pos e]
        exact .cons hy h2
      · show (if n = f then (n :: ns, y :: ds) else _).1.length = _
        rw [if_pos e]
        exact hl
    · obtain ⟨ys, g1, g2, g3⟩ := setF_ok (f := f) (y := y) hy h2 (by simpa using hl)
      refine ⟨x :: ys, ?_, ?_, ?_⟩
      · show (if n = f then (n, v) :: ns.zip r else (n, x) :: putF f v (ns.zip r)) = (if n = f then _ else (n :: (setF f y ns ds).1, d :: (setF f y ns ds).2)).1.zip (x :: ys)
        rw [if_neg e, if_neg e, g1]
        rfl
      · show RpL K F (if n = f then _ else (n :: (setF f y ns ds).1, d :: (setF f y ns ds).2)).2 (x :: ys)
        rw [if_neg e]
        exact .cons h1 g2
      · show (if n = f then _ else (n :: (setF f y ns ds).1, d :: (setF f y ns ds).2)).1.length = _
        rw [if_neg e]
        show (setF f y ns ds).1.length + 1 = ys.length + 1
        rw [g3]
/-- a slot's borrowed object turns -/
theorem SD.s_turn {K : PySem.W.Frag} {W : Fix} {F H : Hp} {σ : L2.St} {δ : Env'} {i : Nat} {d d' : D} {a : Addr} {o : HO} (S : SD K W F H σ δ) (hi : δ[i]? = some (some (.s d))) (ha : σ[i]? = some (some (.ref a))) (ho : Own K F (upd H a o) d' a) :
    SD K W F (upd H a o) σ (δ.set i (some (.s d'))) := by
  obtain ⟨v, e1, a', rfl, hF, hP, hO⟩ := S.get i _ hi
  rw [ha] at e1
  cases e1
  have hli : i < δ.length := (List.getElem?_eq_some_iff.mp hi).1
  have aux : ∀ (j : Nat) (c : B), (δ.set i (some (.s d')))[j]? = some (some c) → (j = i ∧ c = .s d') ∨ (j ≠ i ∧ δ[j]? = some (some c)) := fun j c h => by
    by_cases e : j = i
    · subst e
      rw [List.getElem?_set_self hli] at h
      cases h
      exact .inl ⟨rfl, rfl⟩
    · rw [List.getElem?_set_ne (Ne.symm e)] at h
      exact .inr ⟨e, h⟩
  refine ⟨S.f0, fun b u h n => ?_, fun b u h => ?_, S.fr, fun b h => ?_, by rw [List.length_set]; exact S.len, fun j c h => ?_, fun j k c e v ne h1 h2 h3 h4 h5 => ?_⟩
  · rw [upd_ne (fun z => n (by rw [z, hP]))]
    exact S.h0 b u h n
  · rw [upd_ne (fun z => by rw [z, hF] at h; cases h)]
    exact S.fh b u h
  · obtain ⟨h1, ⟨u, h2⟩, h3⟩ := S.fp b h
    refine ⟨h1, ?_, h3⟩
    by_cases e : b = a
    · rw [e]
      exact ⟨o, upd_same⟩
    · exact ⟨u, by rw [upd_ne e]; exact h2⟩
  · rcases aux j c h with ⟨rfl, rfl⟩ | ⟨hj, h⟩
    · exact ⟨.ref a, ha, a, rfl, hF, hP, ho⟩
    · obtain ⟨v, h1, h2⟩ := S.get j c h
      refine ⟨v, h1, h2.keep (Same.refl F) (fun b u hv hb h3 => ?_) fun b hv hb h3 => h3⟩
      rw [upd_ne (fun z => ?_)]
      · exact h3
      · subst z
        rw [hv] at h1
        exact S.sep i j _ c _ (Ne.symm hj) hi rfl h hb ha h1
  · have g1 : ∃ c', δ[j]? = some (some c') ∧ c'.own = true := by
      rcases aux j c h1 with ⟨rfl, rfl⟩ | ⟨_, h⟩
      · exact ⟨_, hi, rfl⟩
      · exact ⟨c, h, h2⟩
    have g2 : ∃ c', δ[k]? = some (some c') ∧ c'.own = true := by
      rcases aux k e h3 with ⟨rfl, rfl⟩ | ⟨_, h⟩
      · exact ⟨_, hi, rfl⟩
      · exact ⟨e, h, h4⟩
    obtain ⟨c', g1, g1'⟩ := g1
    obtain ⟨d', g2, g2'⟩ := g2
    exact S.sep j k c' d' v ne g1 g1' g2 g2' h5
section
variable {X : Cx} {W : Fix} {x : Str} {i : Nat} {e : Expr} {te : TD} {f : Str} {px pos' pos : Pos}
/-- self.f = e, self borrowed in slot i -/
def dSetF (K : PySem.W.Frag) (i : Nat) (f : Str) (te : TD) : TSD := fun Z δ => dp te δ fun y δ1 => ∃ C ns ds, δ1[i]? = some (some (.s (.ins C ns ds))) ∧ FldOk K C f ∧ ns.length < 1000 ∧ Z.nx (δ1.set i (some (.s (.ins C (setF f y ns ds).1 (setF f y ns ds).2))))
theorem ds_setF (hN : X.N[i]? = some x) (h : DE X W e te) (hv : Vis X.env.scope x := by first | exact Or.inl rfl | exact Or.inr (Or.inl rfl) | exact Or.inr (Or.inr rfl)) (hd : (x == ("__debug__" : Str)) = false := by decide) (hcd : (x == ("__classdict__" : Str)) = false := by decide)
    (hs : swapsWith e (some (.Attribute (.Name x px) f pos')) pos.line X.env = pure false := by rfl) : DS X W (.Assign [.Attribute (.Name x px) f pos'] e pos) (dSetF X.K i f te) :=
  .of (ps_fld (X := X) (pe_var (X := X) hN hv hd hcd) cE_pe hs) fun F H σ δ Z S q => by
    refine (h.plain S q).imp fun v H1 h1 => ?_
    obtain ⟨F1, y, δ1, e1, S1, r1, C, ns, ds, hi, ok, hl, q1⟩ := h1
    obtain ⟨u, hu, a, rfl, hF, hP, dx, xs, g1, g2, g3⟩ := S1.get i _ hi
    obtain ⟨ys, g4, g5, g6⟩ := setF_ok (f := f) r1 g2 g3
    refine ⟨.ref a, hu, a, C, dx, _, rfl, g1, ok.c, ok.n, by rw [List.length_zip]; omega, ?_⟩
    rw [g4]
    exact ⟨F1, _, S1.s_turn (d' := .ins C (setF f y ns ds).1 (setF f y ns ds).2) hi hu ⟨dx, ys, upd_same, g5, g6⟩, q1⟩
end
end DD

set_option Elab.async false
set_option linter.all false
set_option maxRecDepth 100000
set_option maxHeartbeats 4000000
/-! DD20: defs with a borrowed self (an __init__, a method that changes its object); C(..); properties; methods. -/
namespace DD
open PySem PySem.Spec PyProof.Rows L2

/-- a promise: self's data, the arguments, the wish for the answer and self's data behind it, the wish for an exception -/
abbrev SpdS := D → List D → (B → D → Prop) → (Addr → List D → D → Prop) → Prop
structure AftS (F H : Hp) (x : Addr) (F' H' : Hp) : Prop where
  ff : Same F F'
  fh : Same F' H'
  keep : ∀ a o, H a = some o → a ≠ x → H' a = some o
  new : ∀ a o, F' a = some o → F a = some o ∨ H a = none
def toSpS (K : PySem.W.Frag) (spd : SpdS) : Sp := fun vs H Q E => ∃ (x : Addr) (F : Hp) (d0 : D) (ds : List D) (us : List V) (R : B → D → Prop) (ED : Addr → List D → D → Prop),
  vs = .ref x :: us ∧ Same F H ∧ F x = none ∧ Own K F H d0 x ∧ RpL K F ds us ∧ spd d0 ds R ED ∧
  (∀ v H' F' b d', AftS F H x F' H' → Own K F' H' d' x → F' x = none → Res K H F' H' b v → R b d' → Q v H') ∧
  (∀ cls d H' F' C es d', AftS F H x F' H' → Own K F' H' d' x → F' x = none → ExcRep K F' C es cls d → ED C es d' → E cls d H')
/-- THE RULE -/
theorem gs_of {P : Program} {w : World} {K : PySem.W.Frag} {mg : Str → Option Value} {base : Heap} {y qual : Str} {params : Arguments} {body : List Stmt} {scope : Scope} {dvs : List V} {kws : List (Str × V)} {f : Addr} {fd : FuncData} {N ps : List Str} {k : Nat} {spd : SpdS}
    (F : FunD K y qual params body scope dvs kws f fd) (S : FnScope N ps scope) (len : ∀ d0 ds R E, spd d0 ds R E → ds.length + 1 = ps.length)
    (hbody : ∀ (cdv : Value) (A : Around) (outer : List Env) (s : Shared) (H : Hp) (E : XK) (W : Fix) (d0 : D) (ds : List D) (R : B → D → Prop) (ED : Addr → List D → D → Prop), A.guards = some [] →
      Room k (A.deeper (envOfC qual scope s.heap.objs.size f cdv)) → TkE (cxOf (L2.CX P w) P w K mg base N qual scope f cdv A outer s H E) W (fun C es δ => ∃ d', δ[0]? = some (some (.s d')) ∧ ED C es d') → spd d0 ds R ED → Same W.F0 W.H0 →
      ∃ t, DSs (cxOf (L2.CX P w) P w K mg base N qual scope f cdv A outer s H E) W body t ∧
        t { nx := fun δ => ∃ d', δ[0]? = some (some (.s d')) ∧ R (.p .non) d', rt := fun b δ => b.isU = false ∧ ∃ d', δ[0]? = some (some (.s d')) ∧ R b d' } (startD N (.s d0 :: ds.map .p))) :
    GnOk P w K mg base (k + 1) f fd ps (toSpS K spd) := by
  obtain ⟨oc, od, dV, kV, doc, pm, an, cdv, ct, osl, rfl, lk, hcd, hD, hK⟩ := F.ex
  refine ⟨fun vs H Q E h => ?_, ?_⟩
  · obtain ⟨x, F0, d0, ds, us, R, ED, rfl, _, _, _, r, h, _⟩ := h
    rw [List.length_cons, r.length]
    exact len d0 ds R ED h
  intro A outer s H args us' vs Q E hg hr e0 hb r hsp
  obtain ⟨x, F0, d0, ds, us, R, ED, rfl, fh, hF, hO, ra, h, hQ, hE⟩ := hsp
  have kin : K.In s.heap := e0.mod.kin.keeps fun b o e => (e0.bs b o e).1
  refine codeAny_call_function hr.depth (kin _ _ lk) rfl S.co S.gen rfl (PySem.W.codeRec_of kin hcd) (hb _ _ _ _ ?_)
  have hk : ∀ y ∈ ps.zip us', scope.names.lookup y.1 = some .local ∨ (scope.names.lookup y.1 = some .cell ∧ ((cellsFrom (s.heap.objs.size + 1) scope.names []).lookup y.1).isSome = true) := by
    rintro ⟨n, v⟩ hy
    rcases S.par n (List.of_mem_zip hy).1 with q | q
    · exact Or.inl q
    · exact Or.inr ⟨q, PySem.W.cellsFrom_some _ _ _ (Or.inl q)⟩
  refine wpAny_newFunctionEnv_cells S.kind hk ?_
  intro env he s1 x1
  subst he
  refine ⟨(e0.mod.nolimit.keeps fun b o e => (e0.bs b o e).1).keeps x1.toInCall.keep, codeAny_func ?_⟩
  have S0 : SD K ⟨F0, H, some x, fun C es δ => ∃ d', δ[0]? = some (some (.s d')) ∧ ED C es d'⟩ F0 H (L2.start N (.ref x :: us)) (startD N (.s d0 :: ds.map .p)) := by
    refine .start fh (.cons (show Arg K F0 H (some x) (.s d0) (.ref x) from ⟨x, rfl, hF, rfl, hO⟩) (paired_p ra)) (fun p e => by cases e; exact ⟨hF, hO.some⟩) (pi := some 0) fun j b e hb => ?_
    cases j with
    | zero => rfl
    | succ j =>
      rw [List.getElem?_cons_succ, List.getElem?_map] at e
      cases q : ds[j]? with
      | none =>
        rw [q] at e
        cases e
      | some d =>
        rw [q] at e
        cases e
        cases hb
  have aft : ∀ {F' H' : Hp} {σ' : L2.St} {δ' : Env'} {d' : D}, SD K ⟨F0, H, some x, fun C es δ => ∃ d', δ[0]? = some (some (.s d')) ∧ ED C es d'⟩ F' H' σ' δ' → δ'[0]? = some (some (.s d')) → AftS F0 H x F' H' ∧ Own K F' H' d' x ∧ F' x = none := fun {F' H' σ' δ' d'} S' hi => by
    obtain ⟨v, h1, a, rfl, h2, h3, h4⟩ := S'.get 0 _ hi
    have h3 : some x = some a := h3
    cases h3
    exact ⟨⟨S'.f0, S'.fh, fun a o e n => S'.h0 a o e (fun z => n (Option.some.inj z).symm), S'.fr⟩, h4, h2⟩
  have tk : Takes (cxOf (L2.CX P w) P w K mg base N qual scope f cdv A outer s H E) (WXd K ⟨F0, H, some x, fun C es δ => ∃ d', δ[0]? = some (some (.s d')) ∧ ED C es d'⟩) := by
    refine (takes_of rfl rfl rfl rfl).imp fun cls d σ H' z => ?_
    obtain ⟨F', δ', C, es, S', er, d', hm, he⟩ := z
    obtain ⟨g1, g2, g3⟩ := aft S' hm
    exact hE cls d H' F' C es d' g1 g2 g3 er he
  obtain ⟨t, ht, q⟩ := hbody cdv A outer s H E _ d0 ds R ED hg (hr.deeper _) ⟨rfl, tk⟩ h fh
  have I := inv_start (CX := L2.CX P w) (P := P) (w := w) (mg := mg) (base := base) (E := E) S hr.hd e0 (show (V.ref x :: us).length = ps.length by rw [List.length_cons, ra.length]; exact len d0 ds R ED h) r x1
  refine wpAny_mono (ht.run F0 H _ _ _ S0 q [] s1 I) ?_ (fun e s' hs => hs)
  intro fl s' hs
  cases fl with
  | ret u =>
    obtain ⟨v, σ', H', J, rv, q⟩ := hs
    refine ⟨v, H', J.os, J.bare, J.base, J.hok, rv, ?_⟩
    obtain ⟨_, σ2, F', b, δ', e', S', rb, _, hu, d', hm, r'⟩ := q
    obtain ⟨g1, g2, g3⟩ := aft S' hm
    refine hQ v H' F' b d' g1 g2 g3 ?_ r'
    cases b with
    | p d => exact rb
    | n ds => exact rb
    | o d => exact rb
    | u w n => cases hu
    | s d => cases hu
  | next =>
    obtain ⟨σ', H', J, q⟩ := hs
    refine ⟨V.non, H', J.os, J.bare, J.base, J.hok, rfl, ?_⟩
    obtain ⟨F', δ', S', d', hm, r'⟩ := q
    obtain ⟨g1, g2, g3⟩ := aft S' hm
    exact hQ .non H' F' (.p .non) d' g1 g2 g3 (by unfold Res Rp; rfl) r'
  | brk =>
    obtain ⟨_, _, _, q⟩ := hs
    obtain ⟨_, _, _, q⟩ := q
    exact q.elim
  | cont =>
    obtain ⟨_, _, _, q⟩ := hs
    obtain ⟨_, _, _, q⟩ := q
    exact q.elim
end DD

set_option Elab.async false
set_option linter.all false
set_option maxRecDepth 100000
set_option maxHeartbeats 4000000
/-! DD21: C(..), properties, methods of frozen objects, isinstance, over data. -/
namespace DD
open PySem PySem.Spec PyProof.Rows L2

/-- behind a call that may change the object at x, which no slot owns -/
theorem SD.afterX {K : PySem.W.Frag} {W : Fix} {F H F' H' : Hp} {σ : L2.St} {δ : Env'} {x : Addr} (S : SD K W F H σ δ) (h0 : W.H0 x = none) (hP : W.P ≠ some x)
    (hn : ∀ (j : Nat) (c : B), δ[j]? = some (some c) → c.own = true → σ[j]? ≠ some (some (.ref x))) (a : AftS F H x F' H') : SD K W F' H' σ δ where
  f0 := S.f0.trans a.ff
  h0 := fun b o h n => a.keep b o (S.h0 b o h n) fun z => by rw [z, h0] at h; cases h
  fh := a.fh
  fr := fun b o h => by
    rcases a.new b o h with h1 | h1
    · exact S.fr b o h1
    · exact .inr (S.fresh0 h1)
  fp := fun b h => by
    obtain ⟨h1, ⟨o, h2⟩, h3⟩ := S.fp b h
    refine ⟨?_, ⟨o, a.keep b o h2 fun z => hP (by rw [h, z])⟩, h3⟩
    cases q : F' b with
    | none => rfl
    | some u =>
      rcases a.new b u q with h4 | h4
      · rw [h1] at h4
        cases h4
      · rw [h2] at h4
        cases h4
  len := S.len
  get := fun i b h => by
    obtain ⟨v, h1, h2⟩ := S.get i b h
    refine ⟨v, h1, h2.keep a.ff (fun c o hv hb h3 => a.keep c o h3 fun z => ?_) fun c hv hb h3 => ?_⟩
    · rw [z] at hv
      rw [hv] at h1
      exact hn i b h hb h1
    · obtain ⟨c', o, e1, h4, _⟩ := h2.there hb
      rw [hv] at e1
      cases e1
      cases q : F' c with
      | none => rfl
      | some u =>
        rcases a.new c u q with h5 | h5
        · rw [h3] at h5
          cases h5
        · rw [h4] at h5
          cases h5
  sep := S.sep
theorem free_slots {K : PySem.W.Frag} {W : Fix} {F H : Hp} {σ : L2.St} {δ : Env'} {x : Addr} (S : SD K W F H σ δ) (hx : H x = none) : ∀ (j : Nat) (c : B), δ[j]? = some (some c) → c.own = true → σ[j]? ≠ some (some (.ref x)) := fun j c h1 h2 h3 => by
  obtain ⟨u, h4, h5⟩ := S.get j c h1
  rw [h3] at h4
  cases h4
  obtain ⟨a', o, e, h6, _⟩ := h5.there h2
  cases e
  rw [hx] at h6
  cases h6
theorem make_guards {A : Around} {C : Addr} {us : List Value} {kw : List (Str × Value)} : (A.under (.builtin "type.__call__" ⟨.ref C :: us, kw⟩)).guards = A.guards := by
  first | rfl | simp [Around.under, Code.weight, Code.isCreation, Code.isGuard, Code.isCaller, Code.frames, Code.isFrame, guardIds]

/-! ### C(..) -/
section
variable {X : Cx} {k : Nat} {f C : Addr} {fd : FuncData} {ps ks : List Str} {sp : Sp} {E : XK} {x : Str} {p pos : Pos} {e : Expr} {es : List Expr} {kws : List Keyword} {t tk : TA} {g : List Value → List Value → List Value} {gV : List V → List V → List V} {dvs : List V} {dfs : List Value}
theorem run_makeG {pins : List (Addr × Obj)} {σ : L2.St} {H : Hp} {s : Shared} {Q : VK} {us ws : List Value} {binds : List Value} {vs : List V} (gu : X.A.guards = some []) (M : Mk X.K C f) (G : GnOk X.prog X.w X.K X.mg X.base k f fd ps sp) (hr : Room (k + 1) X.A)
    (hb : ∀ (s : Shared) (y : Value), X.K.In s.heap → BindsTo s fd ⟨y :: us, ks.zip ws⟩ (ps.zip (y :: binds))) (hx : PassesAt (L2.CX X.prog X.w) X σ E)
    (I : Inv X pins σ H s) (r : Vals vs binds)
    (h : ∀ x dx, H x = none → H dx = none → dx ≠ x → sp (.ref x :: vs) (upd (upd H dx (.own x)) x (.ins C dx [])) (fun v H2 => v = .non ∧ Q (.ref x) H2) E) :
    wpAny (model X.prog X.w) X.A (call (.ref C) us (ks.zip ws)) (EP X pins σ Q) X.xe s := by
  have hq := h (s.heap.objs.size + 1) s.heap.objs.size (I.hok.fresh (Nat.le_succ _)) (I.hok.fresh (Nat.le_refl _)) (Nat.ne_of_lt (Nat.lt_succ_self _))
  have I2 := Inv.made (C := C) I
  have r1 : Vals (V.ref (s.heap.objs.size + 1) :: vs) (Value.ref (s.heap.objs.size + 1) :: binds) := .cons rfl r
  refine wpAny_call (make_map (f := f) I.kIn M.makes M.init (beq_iff_eq.mp M.fn) (codeAny_mono (G.run _ X.stack _ _ ⟨Value.ref (s.heap.objs.size + 1) :: us, ks.zip ws⟩ (Value.ref (s.heap.objs.size + 1) :: binds) _ _ E (by rw [make_guards]; exact gu) (hr.make C us (ks.zip ws))
    (I2.env0.make C us (ks.zip ws)) (hb _ _ I2.kIn) r1 hq) fun r s' hq' => ?_))
  cases r with
  | error e => exact hx pins _ _ e s' I2 hq'
  | ok fl =>
    cases fl with
    | ret u =>
      obtain ⟨v, H', I3, rv, ev, q3⟩ := I2.after hq'
      subst ev
      exact ⟨rv, ⟨V.ref (s.heap.objs.size + 1), H', I3, rfl, q3⟩⟩
    | next => exact False.elim hq'
    | brk => exact False.elim hq'
    | cont => exact False.elim hq'
/-- C(e, ..), the rest by defaults -/
def tMakeG (C : Addr) (sp : Sp) (dvs : List V) (Es : L2.St → XK) (t : TA) : TE := fun σ H Q => t σ H fun vs H1 => ∀ x dx, H1 x = none → H1 dx = none → dx ≠ x →
  sp (.ref x :: (vs ++ dvs)) (upd (upd H1 dx (.own x)) x (.ins C dx [])) (fun v H2 => v = .non ∧ Q (.ref x) H2) (Es σ)
theorem pe_makeG {Es : L2.St → XK} (gu : X.A.guards = some []) (M : Mk X.K C f) (G : GnOk X.prog X.w X.K X.mg X.base k f fd ps sp) (hr : Room (k + 1) X.A) (hg : Gl X x) (hm : X.mg x = some (.ref C)) (hb : Binds X.K fd ps dfs) (hd : Vals dvs dfs) (hx : ∀ σ, PassesAt (L2.CX X.prog X.w) X σ (Es σ))
    (ha : PA X (e :: es) t) (hdb : (x == ("__debug__" : Str)) = false := by decide) (he : starEach (e :: es) X.env = (false, eval e X.env) :: starEach es X.env := by rfl) (hpl : (backTo pos (starEach es X.env)).any (·.1) = false := by rfl) :
    PE X (.Call (.Name x p) (e :: es) [] pos) (tMakeG C sp dvs Es t) := by
  refine ⟨fun pins s σ H Q I h => ?_⟩
  refine wpAny_Call_Name_kw (ld_glob I hg hm ?_ hdb)
  refine PySem.W.callWith_K (h₀ := X.base) I.ok.mod.kin M.kp (thn (ha.run pos pins s σ H _ I h) fun us s1 ⟨vs, H1, I1, r, q⟩ => ⟨I1.kIn, ?_⟩) he hpl
  have hq := q (s1.heap.objs.size + 1) s1.heap.objs.size (I1.hok.fresh (Nat.le_succ _)) (I1.hok.fresh (Nat.le_refl _)) (Nat.ne_of_lt (Nat.lt_succ_self _))
  have r2 : Vals (vs ++ dvs) (us ++ dfs) := r.append hd
  have hl : ∀ y : Value, ((y :: us) ++ dfs).length = ps.length := fun y => by
    have := G.len _ _ _ _ hq
    rw [List.length_cons, r2.length] at this
    exact this
  exact run_makeG (us := us) (ws := []) (ks := []) (binds := us ++ dfs) gu M G hr (fun s y kin => hb s (y :: us) kin (hl y)) (hx σ) I1 r2 q
/-- C(e, .., k = v, ..) -/
def tMakeKG (C : Addr) (n m : Nat) (sp : Sp) (gV : List V → List V → List V) (Es : L2.St → XK) (t tk : TA) : TE := fun σ H Q => t σ H fun vs H1 => tk σ H1 fun zs H2 => vs.length = n ∧ zs.length = m ∧ ∀ x dx, H2 x = none → H2 dx = none → dx ≠ x →
  sp (.ref x :: gV vs zs) (upd (upd H2 dx (.own x)) x (.ins C dx [])) (fun v H3 => v = .non ∧ Q (.ref x) H3) (Es σ)
/-- how a call's values become the parameters: n behind self, keywords ks -/
structure KBg (K : PySem.W.Frag) (fd : FuncData) (ps : List Str) (n : Nat) (ks : List Str) (gV : List V → List V → List V) (gD : List D → List D → List D) : Prop where
  ex : ∃ g : List Value → List Value → List Value, (∀ (s : Shared) (y : Value) (us ws : List Value), K.In s.heap → us.length = n → ws.length = ks.length → BindsTo s fd ⟨y :: us, ks.zip ws⟩ (ps.zip (y :: g us ws))) ∧
    (∀ {vs : List V} {us : List Value} {zs : List V} {ws : List Value}, Vals vs us → Vals zs ws → us.length = n → ws.length = ks.length → Vals (gV vs zs) (g us ws))
  rp : ∀ {F : Hp} {ds es : List D} {us zs : List V}, RpL K F ds us → RpL K F es zs → us.length = n → zs.length = ks.length → RpL K F (gD ds es) (gV us zs)
theorem pe_makeKG {Es : L2.St → XK} {n : Nat} {gD : List D → List D → List D} (gu : X.A.guards = some []) (M : Mk X.K C f) (G : GnOk X.prog X.w X.K X.mg X.base k f fd ps sp) (hr : Room (k + 1) X.A) (hg : Gl X x) (hm : X.mg x = some (.ref C)) (hb : KBg X.K fd ps n ks gV gD) (hx : ∀ σ, PassesAt (L2.CX X.prog X.w) X σ (Es σ))
    (ha : PA X (e :: es) t) (hkw : PK X kws tk)
    (hall : (backToKw pos (keywordEach kws X.env)).all (·.1.isSome) = true := by rfl) (hks : (backToKw pos (keywordEach kws X.env)).filterMap (·.1) = ks := by rfl) (hdb : (x == ("__debug__" : Str)) = false := by decide)
    (he : starEach (e :: es) X.env = (false, eval e X.env) :: starEach es X.env := by rfl) (hpl : ((backTo pos (starEach (e :: es) X.env)).any (·.1) || (backToKw pos (keywordEach kws X.env)).any (·.1.isNone)) = false := by rfl) :
    PE X (.Call (.Name x p) (e :: es) kws pos) (tMakeKG C n ks.length sp gV Es t tk) := by
  refine ⟨fun pins s σ H Q I h => ?_⟩
  refine wpAny_Call_Name_kw (ld_glob I hg hm ?_ hdb)
  refine PySem.W.callWith_KW (h₀ := X.base) I.ok.mod.kin M.kp hall (thn (ha.run pos pins s σ H _ I h) fun us s1 ⟨vs, H1, I1, r, q⟩ => ?_) hpl he
  refine thn (hkw.run pos pins s1 σ H1 _ I1 q) fun ws s2 ⟨zs, H2, I2, rz, l1, l2, q2⟩ => ⟨I2.kIn, ?_⟩
  rw [hks]
  obtain ⟨g, b1, b2⟩ := hb.ex
  have n1 : us.length = n := r.length.symm.trans l1
  have n2 : ws.length = ks.length := rz.length.symm.trans l2
  exact run_makeG (us := us) (ws := ws) (binds := g us ws) gu M G hr (fun s y kin => b1 s y us ws kin n1 n2) (hx σ) I2 (b2 r rz n1 n2) q2
end
/-- a class of the text: its __init__'s promise -/
structure MakC (P : Program) (w : World) (K : PySem.W.Frag) (mg : Str → Option Value) (base : Heap) (x : Str) (C : Addr) (k : Nat) (ps : List Str) (dds : List D) (spd : SpdS) : Prop where
  ex : ∃ f fd dfs dvs, GnOk P w K mg base k f fd ps (toSpS K spd) ∧ Mk K C f ∧ mg x = some (.ref C) ∧ Binds K fd ps dfs ∧ Vals dvs dfs ∧ ∀ F, RpL K F dds dvs
structure MakK (P : Program) (w : World) (K : PySem.W.Frag) (mg : Str → Option Value) (base : Heap) (x : Str) (C : Addr) (k n : Nat) (ks : List Str) (gD : List D → List D → List D) (spd : SpdS) : Prop where
  ex : ∃ f fd ps gV, GnOk P w K mg base k f fd ps (toSpS K spd) ∧ Mk K C f ∧ mg x = some (.ref C) ∧ KBg K fd ps n ks gV gD
section
variable {X : Cx} {W : Fix} {E0 : Addr → List D → Env' → Prop} {k k' n : Nat} {C : Addr} {ps ks : List Str} {dds : List D} {spd : SpdS} {x : Str} {p pos : Pos} {e : Expr} {es : List Expr} {kws : List Keyword} {t tk : TDA} {gD : List D → List D → List D}
def dMake (C : Addr) (spd : SpdS) (dds : List D) (Ew : Addr → List D → Env' → Prop) (t : TDA) : TD := fun δ Q => t δ fun ds δ1 => spd (.ins C [] []) (ds ++ dds) (fun b d => b = .p .non ∧ Q (.o d) δ1) fun C' es _ => Ew C' es δ1
/-- what comes of the making -/
theorem make_fin {K : PySem.W.Frag} {P : Program} {F1 H1 : Hp} {σ : L2.St} {δ1 : Env'} {ds : List D} {vs : List V} {Q : B → Env' → Prop} {Ew : Addr → List D → Env' → Prop} {Z : VK} {Ex : XK} (S1 : SD K W F1 H1 σ δ1) (r : RpL K F1 ds vs)
    (h : spd (.ins C [] []) ds (fun b d => b = .p .non ∧ Q (.o d) δ1) fun C' es _ => Ew C' es δ1)
    (hZ : ∀ v H', DQ K W F1 σ Q v H' → Z v H') (hE : ∀ cls d H', (∃ (F' : Hp) (C' : Addr) (es : List D), Same F1 F' ∧ SD K W F' H' σ δ1 ∧ ExcRep K F' C' es cls d ∧ Ew C' es δ1) → Ex cls d H') :
    ∀ x dx, H1 x = none → H1 dx = none → dx ≠ x → toSpS K spd (.ref x :: vs) (upd (upd H1 dx (.own x)) x (.ins C dx [])) (fun v H2 => v = .non ∧ Z (.ref x) H2) Ex := by
  intro x dx hx hdx ne
  have hx2 : (upd H1 dx (HO.own x)) x = none := by rw [upd_ne (Ne.symm ne)]; exact hx
  have S2 : SD K W F1 (upd (upd H1 dx (.own x)) x (.ins C dx [])) σ δ1 := (S1.newO hdx).newO hx2
  have hP : W.P ≠ some x := fun z => by
    obtain ⟨_, ⟨o, z2⟩, _⟩ := S1.fp x z
    rw [hx] at z2
    cases z2
  have hn := free_slots S1 hx
  refine ⟨x, F1, .ins C [] [], ds, vs, _, _, rfl, S2.fh, S1.freshF hx, ⟨dx, [], upd_same, .nil, rfl⟩, r, h, fun v H' F' b d' a ow hF r z => ?_, fun cls d H' F' C' es d' a ow hF er z => ?_⟩
  · obtain ⟨rfl, q⟩ := z
    have S3 := S2.afterX (S1.fresh0 hx) hP hn a
    have rv : v = .non := by
      have r : Rp K F' .non v := r
      unfold Rp at r
      exact r
    exact ⟨rv, hZ _ _ ⟨F', .o d', δ1, a.ff, S3, ⟨x, rfl, hF, S1.fresh0 hx, ow⟩, fun _ => hn, q⟩⟩
  · have S3 := S2.afterX (S1.fresh0 hx) hP hn a
    exact hE cls d H' ⟨F', C', es, a.ff, S3, er, z⟩
theorem de_make (c : MakC X.prog X.w X.K X.mg X.base x C k ps dds spd) (gu : X.A.guards = some []) (hr : Room k' X.A) (h : DA X W (e :: es) t) (hg : Gl X x := by exact rfl) (hk : k + 1 ≤ k' := by decide) (hdb : (x == ("__debug__" : Str)) = false := by decide)
    (he : starEach (e :: es) X.env = (false, eval e X.env) :: starEach es X.env := by rfl) (hpl : (backTo pos (starEach es X.env)).any (·.1) = false := by rfl) : DE X W (.Call (.Name x p) (e :: es) [] pos) (dMake C spd dds (fun _ _ _ => False) t) := by
  obtain ⟨f, fd, dfs, dvs, G, M, hm, b, hd, hdd⟩ := c.ex
  refine .of (pe_makeG (X := X) (Es := fun _ _ _ _ => False) gu M G (hr.mono hk) hg hm b hd (fun σ => pass_none) cA_pa hdb he hpl) fun F H σ δ Q S q => ?_
  refine (h.run F H σ δ _ S q).imp fun vs H1 h1 => ?_
  obtain ⟨F1, ds, δ1, e1, S1, r1, q1⟩ := h1
  exact make_fin (P := X.prog) (Ew := fun _ _ _ => False) S1 (r1.append (hdd F1)) q1 (fun v H' z => z.back e1) fun cls d H' z => by
    obtain ⟨_, _, _, _, _, _, z⟩ := z
    exact z
theorem de_makeX (te : TkE X W E0) (c : MakC X.prog X.w X.K X.mg X.base x C k ps dds spd) (gu : X.A.guards = some []) (hr : Room k' X.A) (h : DA X W (e :: es) t) (hg : Gl X x := by exact rfl) (hk : k + 1 ≤ k' := by decide) (hdb : (x == ("__debug__" : Str)) = false := by decide)
    (he : starEach (e :: es) X.env = (false, eval e X.env) :: starEach es X.env := by rfl) (hpl : (backTo pos (starEach es X.env)).any (·.1) = false := by rfl) : DE X W (.Call (.Name x p) (e :: es) [] pos) (dMake C spd dds E0 t) := by
  obtain ⟨f, fd, dfs, dvs, G, M, hm, b, hd, hdd⟩ := c.ex
  refine .of (pe_makeG (X := X) (Es := WE (WXd X.K W)) gu M G (hr.mono hk) hg hm b hd (fun σ => passAt te.tk σ) cA_pa hdb he hpl) fun F H σ δ Q S q => ?_
  refine (h.run F H σ δ _ S q).imp fun vs H1 h1 => ?_
  obtain ⟨F1, ds, δ1, e1, S1, r1, q1⟩ := h1
  exact make_fin (P := X.prog) S1 (r1.append (hdd F1)) q1 (fun v H' z => z.back e1) fun cls d H' z => by
    obtain ⟨F', C', es, _, S3, er, z⟩ := z
    exact ⟨F', δ1, C', es, S3, er, by rw [te.eq]; exact z⟩
/-- C(e, .., k = v, ..) -/
def dMakeK (C : Addr) (spd : SpdS) (n m : Nat) (gD : List D → List D → List D) (Ew : Addr → List D → Env' → Prop) (t tk : TDA) : TD := fun δ Q => t δ fun ds δ1 => tk δ1 fun es δ2 => ds.length = n ∧ es.length = m ∧ spd (.ins C [] []) (gD ds es) (fun b d => b = .p .non ∧ Q (.o d) δ2) fun C' es _ => Ew C' es δ2
theorem de_makeK (c : MakK X.prog X.w X.K X.mg X.base x C k n ks gD spd) (gu : X.A.guards = some []) (hr : Room k' X.A) (h : DA X W (e :: es) t) (hkw : DK X W kws tk) (hg : Gl X x := by exact rfl) (hk : k + 1 ≤ k' := by decide)
    (hall : (backToKw pos (keywordEach kws X.env)).all (·.1.isSome) = true := by rfl) (hks : (backToKw pos (keywordEach kws X.env)).filterMap (·.1) = ks := by rfl) (hdb : (x == ("__debug__" : Str)) = false := by decide)
    (he : starEach (e :: es) X.env = (false, eval e X.env) :: starEach es X.env := by rfl) (hpl : ((backTo pos (starEach (e :: es) X.env)).any (·.1) || (backToKw pos (keywordEach kws X.env)).any (·.1.isNone)) = false := by rfl) :
    DE X W (.Call (.Name x p) (e :: es) kws pos) (dMakeK C spd n ks.length gD (fun _ _ _ => False) t tk) := by
  obtain ⟨f, fd, ps, gV, G, M, hm, kb⟩ := c.ex
  refine .of (pe_makeKG (X := X) (tk := cK X kws) (Es := fun _ _ _ _ => False) gu M G (hr.mono hk) hg hm kb (fun σ => pass_none) cA_pa ⟨fun pos pins s _ _ _ I h => h pos pins s I⟩ hall hks hdb he hpl) fun F H σ δ Q S q => ?_
  refine (h.run F H σ δ _ S q).imp fun vs H1 h1 => ?_
  obtain ⟨F1, ds, δ1, e1, S1, r1, q1⟩ := h1
  intro pos pins s I
  refine thn (hkw.run F1 H1 σ δ1 _ S1 q1 pos pins s I) fun ws s2 h2 => ?_
  obtain ⟨zs, H2, I2, rz, F2, es', δ2, e2, S2, r2, n1, n2, q2⟩ := h2
  have r1' := RpL.mono e2 _ _ r1
  exact ⟨zs, H2, I2, rz, by rw [r1.length]; exact n1, by rw [r2.length]; exact n2, make_fin (P := X.prog) (Ew := fun _ _ _ => False) S2 (kb.rp r1' r2 (by rw [r1.length]; exact n1) (by rw [r2.length]; exact n2)) q2 (fun v H' z => z.back (e1.trans e2)) fun cls d H' z => by
    obtain ⟨_, _, _, _, _, _, z⟩ := z
    exact z⟩
theorem de_makeKX (te : TkE X W E0) (c : MakK X.prog X.w X.K X.mg X.base x C k n ks gD spd) (gu : X.A.guards = some []) (hr : Room k' X.A) (h : DA X W (e :: es) t) (hkw : DK X W kws tk) (hg : Gl X x := by exact rfl) (hk : k + 1 ≤ k' := by decide)
    (hall : (backToKw pos (keywordEach kws X.env)).all (·.1.isSome) = true := by rfl) (hks : (backToKw pos (keywordEach kws X.env)).filterMap (·.1) = ks := by rfl) (hdb : (x == ("__debug__" : Str)) = false := by decide)
    (he : starEach (e :: es) X.env = (false, eval e X.env) :: starEach es X.env := by rfl) (hpl : ((backTo pos (starEach (e :: es) X.env)).any (·.1) || (backToKw pos (keywordEach kws X.env)).any (·.1.isNone)) = false := by rfl) :
    DE X W (.Call (.Name x p) (e :: es) kws pos) (dMakeK C spd n ks.length gD E0 t tk) := by
  obtain ⟨f, fd, ps, gV, G, M, hm, kb⟩ := c.ex
  refine .of (pe_makeKG (X := X) (tk := cK X kws) (Es := WE (WXd X.K W)) gu M G (hr.mono hk) hg hm kb (fun σ => passAt te.tk σ) cA_pa ⟨fun pos pins s _ _ _ I h => h pos pins s I⟩ hall hks hdb he hpl) fun F H σ δ Q S q => ?_
  refine (h.run F H σ δ _ S q).imp fun vs H1 h1 => ?_
  obtain ⟨F1, ds, δ1, e1, S1, r1, q1⟩ := h1
  intro pos pins s I
  refine thn (hkw.run F1 H1 σ δ1 _ S1 q1 pos pins s I) fun ws s2 h2 => ?_
  obtain ⟨zs, H2, I2, rz, F2, es', δ2, e2, S2, r2, n1, n2, q2⟩ := h2
  have r1' := RpL.mono e2 _ _ r1
  exact ⟨zs, H2, I2, rz, by rw [r1.length]; exact n1, by rw [r2.length]; exact n2, make_fin (P := X.prog) S2 (kb.rp r1' r2 (by rw [r1.length]; exact n1) (by rw [r2.length]; exact n2)) q2 (fun v H' z => z.back (e1.trans e2)) fun cls d H' z => by
    obtain ⟨F', C', es, _, S3, er, z⟩ := z
    exact ⟨F', δ2, C', es, S3, er, by rw [te.eq]; exact z⟩⟩
end

/-! ### e.f, a property -/
structure PropC (P : Program) (w : World) (K : PySem.W.Frag) (mg : Str → Option Value) (base : Heap) (C : Addr) (f : Str) (k : Nat) (spd : Spd) : Prop where
  ex : ∃ p g fd, Cls K C ∧ PropOf K C f p g ∧ GnOk P w K mg base k g fd ["self"] (toSp K spd) ∧ Binds K fd ["self"] []
theorem in1_guards {A : Around} : A.in1.guards = A.guards := by
  first | rfl | simp [Around.in1]
section
variable {X : Cx} {k k' : Nat} {C p g a dx : Addr} {fs : List (Str × V)} {f : Str} {fd : FuncData} {ps : List Str} {sp : Sp} {E : XK} {e : Expr} {pos : Pos} {ta : TE}
theorem getprop_g {pins : List (Addr × Obj)} {σ : L2.St} {H : Hp} {s : Shared} {Q : VK} {b : Bool} (gu : X.A.guards = some []) (I : Inv X pins σ H s) (ea : H a = some (.ins C dx fs)) (c : Cls X.K C) (hp : PropOf X.K C f p g)
    (G : GnOk X.prog X.w X.K X.mg X.base k g fd ps sp) (hr : Room (k + 1) X.A) (hb : Binds X.K fd ps []) (h : sp [.ref a] H Q (fun _ _ _ => False)) :
    wpAny (model X.prog X.w) X.A (getAttr (.ref a) f b) (EP X pins σ Q) X.xe s := by
  obtain ⟨mA, O, _, _, _, _⟩ := ins_get I.hok ea
  obtain ⟨od, J, _⟩ := O.look
  obtain ⟨rest, hrec⟩ := hp.rec_
  have I1 := I.tok (s.toks + 1)
  have hl : ([Value.ref a] ++ []).length = ps.length := (G.len _ _ _ _ h)
  have hc : (PySem.W.clsIn X.K C).isSome = true := by
    obtain ⟨cd, hc, _⟩ := PySem.W.any_some c.hd
    rw [hc]
    rfl
  refine PySem.W.get_bind I.kIn J (PySem.W.plainGet_of (c.get f)).1 (PySem.W.findObj_data hc hp.at_ hp.get hp.tak) (PySem.W.plainGet_of (c.get f)).2 (wpAny_call (PySem.W.prop_get (s := { s with toks := s.toks + 1 }) I.kIn hrec ?_))
  refine codeAny_mono (G.run X.A.in1 X.stack { s with toks := s.toks + 1 } H ⟨[.ref a], []⟩ [.ref a] [.ref a] Q _ (by rw [in1_guards]; exact gu) hr.in1 I1.env0.in1 (hb _ [.ref a] I1.kIn hl) (.cons rfl .nil) h) fun r s' hq => ?_
  cases r with
  | error er =>
    obtain ⟨_, _, _, _, _, _, _, _, _, _, _, _, z⟩ := hq
    exact z.elim
  | ok fl =>
    cases fl with
    | ret u =>
      obtain ⟨v, H', I3, rv, q3⟩ := I1.after hq
      show wpAny _ _ (handedOut u) _ _ _
      rw [PySem.W.handedOut_of (handed_of rv)]
      exact wpAny_pure ⟨v, H', I3, rv, q3⟩
    | next => exact False.elim hq
    | brk => exact False.elim hq
    | cont => exact False.elim hq
def tPropG (C : Addr) (sp : Sp) (ta : TE) : TE := fun σ H Q => ta σ H fun x H1 => ∃ a dx fs, x = .ref a ∧ H1 a = some (.ins C dx fs) ∧ sp [.ref a] H1 Q (fun _ _ _ => False)
theorem pe_propG (gu : X.A.guards = some []) (he : PE X e ta) (c : Cls X.K C) (hp : PropOf X.K C f p g) (G : GnOk X.prog X.w X.K X.mg X.base k g fd ps sp) (hr : Room (k + 1) X.A) (hb : Binds X.K fd ps [])
    (hab : attributeBase e f X.env (eval e X.env) = eval e X.env) : PE X (.Attribute e f pos) (tPropG C sp ta) := by
  refine ⟨fun pins s σ H Q I h => ?_⟩
  refine attr_of hab (thn (he.run pins s σ H _ I h) fun u s1 ⟨x, H1, I1, rx, a, dx, fs, ex, ea, q⟩ => ?_)
  subst ex
  obtain rfl : u = Value.ref a := rx
  exact getprop_g gu I1 ea c hp G hr hb q
end
section
variable {X : Cx} {W : Fix} {k k' : Nat} {C : Addr} {f : Str} {spd : Spd} {e : Expr} {te : TD} {pos : Pos}
def dProp (C : Addr) (spd : Spd) (te : TD) : TD := fun δ Q => dp te δ fun d δ1 => (∃ ns ds, d = .ins C ns ds) ∧ spd [.p d] (fun b _ => b.isU = false ∧ Q b δ1) fun _ _ _ => False
theorem de_prop (c : PropC X.prog X.w X.K X.mg X.base C f k spd) (gu : X.A.guards = some []) (hr : Room k' X.A) (h : DE X W e te) (hk : k + 1 ≤ k' := by decide) (hab : attributeBase e f X.env (eval e X.env) = eval e X.env := by rfl) : DE X W (.Attribute e f pos) (dProp C spd te) := by
  obtain ⟨p, g, fd, cl, hp, G, b⟩ := c.ex
  refine .of (pe_propG (X := X) gu cE_pe cl hp G (hr.mono hk) b hab) fun F H σ δ Q S q => ?_
  refine (h.plain S q).imp fun v H1 h1 => ?_
  obtain ⟨F1, d, δ1, e1, S1, r1, ⟨ns, ds, rfl⟩, q1⟩ := h1
  have r0 := r1
  unfold Rp at r1
  obtain ⟨a, dx, xs, rfl, g1, g2, _⟩ := r1
  refine ⟨a, dx, _, rfl, S1.fh _ _ g1, F1, none, [.p (.ins C ns ds)], _, _, S1.fh, .cons r0 .nil, (fun p e => by cases e), q1, fun v H' F' b m af r z => ?_, fun cls d H' F' C' es m _ _ z => z.elim⟩
  obtain ⟨r2, r3⟩ := RB.of_res S1 r
  exact ⟨F', b, δ1, e1.trans af.ff, S1.after af, r2, r3, z.2⟩
end

/-! ### o.m(e, ..), o frozen -/
structure MethC (P : Program) (w : World) (K : PySem.W.Frag) (mg : Str → Option Value) (base : Heap) (C : Addr) (m : Str) (k : Nat) (ps : List Str) (spd : Spd) : Prop where
  ex : ∃ f fd, Cls K C ∧ Meth K C m f ∧ GnOk P w K mg base k f fd ps (toSp K spd) ∧ Binds K fd ps []
section
variable {X : Cx} {k : Nat} {C f : Addr} {m : Str} {fd : FuncData} {ps : List Str} {sp : Sp} {e o : Expr} {es : List Expr} {apos pos : Pos} {ta : TE} {t : TA} {Es : L2.St → XK}
def tMethG (C : Addr) (m : Str) (sp : Sp) (Es : L2.St → XK) (ta : TE) (t : TA) : TE := fun σ H Q => ta σ H fun x H1 => ∃ a dx fs, x = .ref a ∧ H1 a = some (.ins C dx fs) ∧ fs.lookup m = none ∧ t σ H1 fun vs H2 => sp (x :: vs) H2 Q (Es σ)
theorem pe_methG {pl : Sem Bool} (gu : X.A.guards = some []) (he : PE X o ta) (c : Cls X.K C) (hm : Meth X.K C m f) (G : GnOk X.prog X.w X.K X.mg X.base k f fd ps sp) (hr : Room k X.A) (hb : Binds X.K fd ps []) (hx : ∀ σ, PassesAt (L2.CX X.prog X.w) X σ (Es σ)) (ha : PA X (e :: es) t)
    (hst : starEach (e :: es) X.env = (false, eval e X.env) :: starEach es X.env) (hpl : (backTo pos (starEach es X.env)).any (·.1) = false)
    (ht : eval (.Call (.Attribute o m apos) (e :: es) [] pos) X.env = (do
      let ov ← eval o X.env
      standAt apos.atName
      let (f, first) ← holding [ov] (getMethod ov m pl)
      callWith pos f first (backTo pos (starEach (e :: es) X.env)) (backToKw pos (keywordEach [] X.env)))) :
    PE X (.Call (.Attribute o m apos) (e :: es) [] pos) (tMethG C m sp Es ta t) := by
  refine ⟨fun pins s σ H Q I h => ?_⟩
  refine PySem.W.methodCall_KW (pl := pl) (thn (he.run pins s σ H _ I h) fun u s1 ⟨x, H1, I1, rx, a, dx, fs, ex, ea, l, q⟩ => ?_) ht
  subst ex
  obtain rfl : u = Value.ref a := rx
  refine getmeth_ok I1 ea c hm l ?_
  refine PySem.W.callWith_K (first := [.ref a]) (h₀ := X.base) I.ok.mod.kin hm.kp (thn (ha.run pos pins s1 σ H1 _ I1 q) fun us s2 ⟨vs, H2, I2, r, q2⟩ => ⟨I2.kIn, ?_⟩) hst hpl
  exact run_g (dvs := []) (dfs := []) (us := .ref a :: us) (vs := .ref a :: vs) G gu hr hb .nil (fun e s' c => hx σ pins H2 s2 e s' I2 c) I2 (.cons rfl r) (by rw [List.append_nil]; exact q2)
theorem pe_methG0 {pl : Sem Bool} (gu : X.A.guards = some []) (he : PE X o ta) (c : Cls X.K C) (hm : Meth X.K C m f) (G : GnOk X.prog X.w X.K X.mg X.base k f fd ps sp) (hr : Room k X.A) (hb : Binds X.K fd ps []) (hx : ∀ σ, PassesAt (L2.CX X.prog X.w) X σ (Es σ))
    (ht : eval (.Call (.Attribute o m apos) [] [] pos) X.env = (do
      let ov ← eval o X.env
      standAt apos.atName
      let (f, first) ← holding [ov] (getMethod ov m pl)
      callWith pos f first (backTo pos (starEach [] X.env)) (backToKw pos (keywordEach [] X.env)))) :
    PE X (.Call (.Attribute o m apos) [] [] pos) (tMethG C m sp Es ta tNil) := by
  refine ⟨fun pins s σ H Q I h => ?_⟩
  refine PySem.W.methodCall_KW (pl := pl) (thn (he.run pins s σ H _ I h) fun u s1 ⟨x, H1, I1, rx, a, dx, fs, ex, ea, l, q⟩ => ?_) ht
  subst ex
  obtain rfl : u = Value.ref a := rx
  refine getmeth_ok I1 ea c hm l ?_
  exact PySem.W.callWith_K0 (first := [.ref a]) I1.kIn hm.kp (run_g (dvs := []) (dfs := []) (us := [.ref a]) (vs := [.ref a]) G gu hr hb .nil (fun e s' c => hx σ pins H1 s1 e s' I1 c) I1 (.cons rfl .nil) (by rw [List.append_nil]; exact q))
end
end DD

set_option Elab.async false
set_option linter.all false
set_option maxRecDepth 100000
set_option maxHeartbeats 4000000
/-! DD22: methods over data; isinstance by its answer; == and != by an own __eq__. -/
namespace DD
open PySem PySem.Spec PyProof.Rows L2

section
variable {X : Cx} {W : Fix} {E0 : Addr → List D → Env' → Prop} {k k' : Nat} {C : Addr} {m : Str} {ps : List Str} {spd : Spd} {o e : Expr} {es : List Expr} {te : TD} {t : TDA} {apos pos : Pos}
def dMeth (C : Addr) (m : Str) (spd : Spd) (Ew : Addr → List D → Env' → Prop) (te : TD) (t : TDA) : TD := fun δ Q => dp te δ fun d δ1 => (∃ ns ds, d = .ins C ns ds ∧ m ∉ ns) ∧ t δ1 fun es δ2 => spd ((d :: es).map .p) (fun b _ => b.isU = false ∧ Q b δ2) fun C' es' _ => Ew C' es' δ2
theorem no_field {m : Str} : ∀ {ns : List Str} {xs : List V}, m ∉ ns → (ns.zip xs).lookup m = none
  | [], _, _ => rfl
  | n :: ns, [], _ => rfl
  | n :: ns, x :: xs, h => by
    have h1 : ¬ m = n := fun z => h (by rw [z]; exact List.mem_cons_self)
    have hb : (m == n) = false := beq_eq_false_iff_ne.mpr h1
    rw [List.zip_cons_cons, List.lookup_cons, hb]
    exact no_field fun z => h (List.mem_cons_of_mem _ z)
theorem de_meth {pl : Sem Bool} (c : MethC X.prog X.w X.K X.mg X.base C m k ps spd) (gu : X.A.guards = some []) (hr : Room k' X.A) (ho : DE X W o te) (h : DA X W (e :: es) t) (hk : k ≤ k' := by decide)
    (hst : starEach (e :: es) X.env = (false, eval e X.env) :: starEach es X.env := by rfl) (hpl : (backTo pos (starEach es X.env)).any (·.1) = false := by rfl)
    (ht : eval (.Call (.Attribute o m apos) (e :: es) [] pos) X.env = (do
      let ov ← eval o X.env
      standAt apos.atName
      let (f, first) ← holding [ov] (getMethod ov m pl)
      callWith pos f first (backTo pos (starEach (e :: es) X.env)) (backToKw pos (keywordEach [] X.env))) := by rfl) : DE X W (.Call (.Attribute o m apos) (e :: es) [] pos) (dMeth C m spd (fun _ _ _ => False) te t) := by
  obtain ⟨f, fd, cl, hm, G, b⟩ := c.ex
  refine .of (pe_methG (X := X) (Es := fun _ _ _ _ => False) gu cE_pe cl hm G (hr.mono hk) b (fun σ => pass_none) cA_pa hst hpl ht) fun F H σ δ Q S q => ?_
  refine (ho.plain S q).imp fun v H1 h1 => ?_
  obtain ⟨F1, d, δ1, e1, S1, r1, ⟨ns, ds, rfl, nf⟩, q1⟩ := h1
  have r0 := r1
  unfold Rp at r1
  obtain ⟨a, dx, xs, rfl, g1, g2, _⟩ := r1
  refine ⟨a, dx, _, rfl, S1.fh _ _ g1, no_field nf, ?_⟩
  refine (h.run F1 H1 σ δ1 _ S1 q1).imp fun vs H2 h2 => ?_
  obtain ⟨F2, es', δ2, e2, S2, r2, q2⟩ := h2
  refine ⟨F2, none, _, _, _, S2.fh, paired_p (.cons (Rp.mono e2 _ _ r0) r2), (fun p e => by cases e), q2, fun v H' F' b m a r z => ?_, fun cls d H' F' C ds m a er z => z.elim⟩
  obtain ⟨r3, r4⟩ := RB.of_res S2 r
  exact ⟨F', b, δ2, (e1.trans e2).trans a.ff, S2.after a, r3, r4, z.2⟩
theorem de_methX {pl : Sem Bool} (te' : TkE X W E0) (c : MethC X.prog X.w X.K X.mg X.base C m k ps spd) (gu : X.A.guards = some []) (hr : Room k' X.A) (ho : DE X W o te) (h : DA X W (e :: es) t) (hk : k ≤ k' := by decide)
    (hst : starEach (e :: es) X.env = (false, eval e X.env) :: starEach es X.env := by rfl) (hpl : (backTo pos (starEach es X.env)).any (·.1) = false := by rfl)
    (ht : eval (.Call (.Attribute o m apos) (e :: es) [] pos) X.env = (do
      let ov ← eval o X.env
      standAt apos.atName
      let (f, first) ← holding [ov] (getMethod ov m pl)
      callWith pos f first (backTo pos (starEach (e :: es) X.env)) (backToKw pos (keywordEach [] X.env))) := by rfl) : DE X W (.Call (.Attribute o m apos) (e :: es) [] pos) (dMeth C m spd E0 te t) := by
  obtain ⟨f, fd, cl, hm, G, b⟩ := c.ex
  refine .of (pe_methG (X := X) (Es := WE (WXd X.K W)) gu cE_pe cl hm G (hr.mono hk) b (fun σ => passAt te'.tk σ) cA_pa hst hpl ht) fun F H σ δ Q S q => ?_
  refine (ho.plain S q).imp fun v H1 h1 => ?_
  obtain ⟨F1, d, δ1, e1, S1, r1, ⟨ns, ds, rfl, nf⟩, q1⟩ := h1
  have r0 := r1
  unfold Rp at r1
  obtain ⟨a, dx, xs, rfl, g1, g2, _⟩ := r1
  refine ⟨a, dx, _, rfl, S1.fh _ _ g1, no_field nf, ?_⟩
  refine (h.run F1 H1 σ δ1 _ S1 q1).imp fun vs H2 h2 => ?_
  obtain ⟨F2, es', δ2, e2, S2, r2, q2⟩ := h2
  refine ⟨F2, none, _, _, _, S2.fh, paired_p (.cons (Rp.mono e2 _ _ r0) r2), (fun p e => by cases e), q2, fun v H' F' b m a r z => ?_, fun cls d H' F' C ds m a er z => ?_⟩
  · obtain ⟨r3, r4⟩ := RB.of_res S2 r
    exact ⟨F', b, δ2, (e1.trans e2).trans a.ff, S2.after a, r3, r4, z.2⟩
  · exact ⟨F', δ2, C, ds, S2.after a, er, by rw [te'.eq]; exact z⟩
theorem de_meth0 {pl : Sem Bool} (c : MethC X.prog X.w X.K X.mg X.base C m k ps spd) (gu : X.A.guards = some []) (hr : Room k' X.A) (ho : DE X W o te) (hk : k ≤ k' := by decide)
    (ht : eval (.Call (.Attribute o m apos) [] [] pos) X.env = (do
      let ov ← eval o X.env
      standAt apos.atName
      let (f, first) ← holding [ov] (getMethod ov m pl)
      callWith pos f first (backTo pos (starEach [] X.env)) (backToKw pos (keywordEach [] X.env))) := by rfl) : DE X W (.Call (.Attribute o m apos) [] [] pos) (dMeth C m spd (fun _ _ _ => False) te dNil) := by
  obtain ⟨f, fd, cl, hm, G, b⟩ := c.ex
  refine .of (pe_methG0 (X := X) (Es := fun _ _ _ _ => False) gu cE_pe cl hm G (hr.mono hk) b (fun σ => pass_none) ht) fun F H σ δ Q S q => ?_
  refine (ho.plain S q).imp fun v H1 h1 => ?_
  obtain ⟨F1, d, δ1, e1, S1, r1, ⟨ns, ds, rfl, nf⟩, q1⟩ := h1
  have r0 := r1
  unfold Rp at r1
  obtain ⟨a, dx, xs, rfl, g1, g2, _⟩ := r1
  refine ⟨a, dx, _, rfl, S1.fh _ _ g1, no_field nf, ?_⟩
  show toSp X.K spd [.ref a] _ _ _
  refine ⟨F1, none, _, _, _, S1.fh, paired_p (.cons r0 .nil), (fun p e => by cases e), q1, fun v H' F' b m a r z => ?_, fun cls d H' F' C ds m a er z => z.elim⟩
  obtain ⟨r3, r4⟩ := RB.of_res S1 r
  exact ⟨F', b, δ1, e1.trans a.ff, S1.after a, r3, r4, z.2⟩
end

/-! ### isinstance -/
structure InsOk (K : PySem.W.Frag) (C : Addr) : Prop where
  c : Cls K C
  ha : PySem.W.findIn K (.ref C) "__class__" = some (some (.builtin "object.__class__"))
  hn : PySem.W.specialIn K (.builtin "object.__class__") "__get__" = some (some (.builtin "getset_descriptor.__get__"))
  htk : PySem.W.takesIn K (.builtin "object.__class__") = some true
  hm : PySem.W.mroIn K C (.type "object") = some true
def isaD (K : PySem.W.Frag) : D → D → Option Bool
  | .exc C _, c => (clsD c).bind fun u => PySem.W.kitOne K (.ref C) u
  | .ins C _ _, c => (clsD c).bind fun u => PySem.W.kitOne K (.ref C) u
  | d, c => (tyD d).bind fun t => (clsD c).bind fun u => PySem.W.kitOne K (.type t) u
def OkI (K : PySem.W.Frag) : D → Prop
  | .exc C ds => XfE K C ∧ ds.length = 1
  | .ins C _ _ => InsOk K C
  | _ => True
def isaG (K : PySem.W.Frag) : List D → (B → Prop) → Prop := fun ds Q => ∃ d c b, ds = [d, c] ∧ isaD K d c = some b ∧ OkI K d ∧ Q (.p (.bl b))
theorem rc_isa {K : PySem.W.Frag} : RC K (rIsZ K) (isaG K) := by
  intro W F H σ δ xs ds Q Z S r g hZ
  obtain ⟨d, c, b, rfl, he, ok, q⟩ := g
  have base : ∀ t u, tyD d = some t → clsD c = some u → PySem.W.kitOne K (.type t) u = some b → rIsZ K xs H Z := fun t u h1 h2 h3 =>
    rc_isZ W F H σ δ xs [d, c] Q Z S r (.inl ⟨d, c, t, u, b, rfl, h1, h2, h3, q⟩) hZ
  have gen : (tyD d).bind (fun t => (clsD c).bind fun u => PySem.W.kitOne K (.type t) u) = some b → rIsZ K xs H Z := fun he => by
    cases h1 : tyD d with
    | none =>
      rw [h1] at he
      cases he
    | some t =>
      rw [h1] at he
      cases h2 : clsD c with
      | none =>
        rw [h2] at he
        cases he
      | some u =>
        rw [h2] at he
        exact base t u h1 h2 he
  cases d <;> first | exact gen he | skip
  · rename_i C ns fs
    obtain ⟨x, y, rfl, rx, ry⟩ := rpL2 r
    have he : (clsD c).bind (fun u => PySem.W.kitOne K (.ref C) u) = some b := he
    cases h2 : clsD c with
    | none =>
      rw [h2] at he
      cases he
    | some u =>
      rw [h2] at he
      have ok : InsOk K C := ok
      have rx' := rx
      unfold Rp at rx
      obtain ⟨a, dx, zs, rfl, g1, _⟩ := rx
      have cu : ClsV y u := by
        cases c <;> first | (cases h2; done) | skip
        all_goals
          cases h2
          unfold Rp at ry
          rw [ry]
          constructor
      exact ⟨_, y, _, u, b, rfl, cu, .base (.base (.ins (S.fh _ _ g1) ok.c ok.ha ok.hn ok.htk ok.hm)), he, hZ _ _ (mkP S (by unfold Rp; rfl) q)⟩
  · rename_i C es
    obtain ⟨ox, ol⟩ := ok
    match es, ol with
    | [y], _ =>
      have he : (clsD c).bind (fun u => PySem.W.kitOne K (.ref C) u) = some b := he
      cases h2 : clsD c with
      | none =>
        rw [h2] at he
        cases he
      | some u =>
        rw [h2] at he
        exact rc_isZ W F H σ δ xs _ Q Z S r (.inr ⟨C, y, c, u, b, rfl, ox, h2, he, q⟩) hZ
end DD

set_option Elab.async false
set_option linter.all false
set_option maxRecDepth 100000
set_option maxHeartbeats 4000000
/-! DD23: == , <= and the like, != by an own dunder. -/
namespace DD
open PySem PySem.Spec PyProof.Rows L2

theorem cmp_own {prog : Program} {w : World} {A : Around} {E : Value → Shared → Prop} {s : Shared} {K : PySem.W.Frag} {x C f : Addr} {ox : Obj} {od : Option Obj} {b tb : Value} {op : CmpOp} {Q : Value → Shared → Prop} (hu : A.units < cLine) (X : K.In s.heap) (I : PySem.W.InstAt s.heap x ox C od)
    (hb : PySem.W.Looks (model prog w) s.heap (typeOf b) tb) (hn : PySem.W.notFirst K C tb = true)
    (hs : PySem.W.findIn K (.ref C) (cmpInfo op).2.1 = some (some (.ref f))) (hf : PySem.W.isFn K (.ref f) = true)
    (h : wpAny (model prog w) A (call (.ref f) [.ref x, b]) (PySem.W.CmpBack Q) E s) : wpAny (model prog w) A (richCompare op (.ref x) b) Q E s := by
  have one : wpAny (model prog w) A (tryCompare (.ref x) (cmpInfo op).2.1 b) (fun r s' => ∃ v, r = some v ∧ Q v s') E s := by
    unfold tryCompare
    refine wpAny_bind (PySem.W.ifBound_K X I hs hf (wpAny_mono h (fun v s' hv => ?_) fun _ _ e => e))
    cases v <;> first | exact hv.elim | exact wpAny_pure ⟨_, rfl, hv⟩
  unfold richCompare
  simp only [PySem.oneThing_ref]
  refine wpAny_holding (wpAny_bind (wpAny_cRoomFor hu ?_))
  refine wpAny_bind (I.type.here (wpAny_bind (hb.here ?_)))
  split
  · rename_i q
    have e : PySem.W.subIn K tb (.ref C) = some false := by
      rcases Bool.or_eq_true_iff.mp hn with e | e
      · rw [beq_iff_eq.mp e] at q
        simp at q
      · exact beq_iff_eq.mp e
    refine wpAny_bind ((PySem.W.looks_subIn X e).here ?_)
    simp only [Bool.false_eq_true, if_false]
    refine wpAny_bind (wpAny_mono one (fun r s' z => ?_) fun _ _ e => e)
    obtain ⟨v, rfl, hq⟩ := z
    exact wpAny_pure hq
  · refine wpAny_bind (wpAny_pure ?_)
    simp only [Bool.false_eq_true, if_false]
    refine wpAny_bind (wpAny_mono one (fun r s' z => ?_) fun _ _ e => e)
    obtain ⟨v, rfl, hq⟩ := z
    exact wpAny_pure hq

/-- a class with an own dunder m -/
structure CmpC (P : Program) (w : World) (K : PySem.W.Frag) (mg : Str → Option Value) (base : Heap) (C : Addr) (m : Str) (k : Nat) (spd : Spd) : Prop where
  ex : ∃ f fd, PySem.W.findIn K (.ref C) m = some (some (.ref f)) ∧ PySem.W.isFn K (.ref f) = true ∧ GnOk P w K mg base k f fd ["self", "other"] (toSp K spd) ∧ Binds K fd ["self", "other"] []
  cl : Cls K C
/-- data whose type is known, and that does not go first against the class at C -/
inductive TyF (K : PySem.W.Frag) (C : Addr) : D → Prop where
  | dat {d : D} {t : String} (h : tyD d = some t) (n : PySem.W.notFirst K C (.type t) = true) : TyF K C d
  | ins {C' : Addr} {ns : List Str} {ds : List D} (h : InsOk K C') (n : PySem.W.notFirst K C (.ref C') = true) : TyF K C (.ins C' ns ds)
theorem TyF.ty {K : PySem.W.Frag} {C : Addr} {d : D} {F H : Hp} {v : V} (h : TyF K C d) (e : Same F H) (r : Rp K F d v) : ∃ t, TyX K H v t ∧ PySem.W.notFirst K C t = true := by
  cases h with
  | dat h n => exact ⟨_, rp_tyX e r h, n⟩
  | ins h n =>
    unfold Rp at r
    obtain ⟨a, dx, zs, rfl, g1, _⟩ := r
    exact ⟨_, .base (.ins (e _ _ g1) h.c h.ha h.hn h.htk h.hm), n⟩
section
variable {X : Cx} {W : Fix} {k k' : Nat} {C : Addr} {op : CmpOp} {m : Str} {spd : Spd} {a b : Expr} {ta tb : TD} {pos : Pos}
def rCmpI (C : Addr) (K : PySem.W.Frag) (sp : Sp) : R2 := fun x y H Q => ∃ a dx fs t, x = .ref a ∧ H a = some (.ins C dx fs) ∧ TyX K H y t ∧ PySem.W.notFirst K C t = true ∧ sp [x, y] H (fun v H' => (∃ b, v = .bl b) ∧ Q v H') fun _ _ _ => False
theorem op_cmpI (hop : ∀ {M : Model} {A : Around} {E : Value → Shared → Prop} {s : Shared} {a b : Value} {Q : Value → Shared → Prop}, wpAny M A (richCompare op a b) Q E s → wpAny M A (compareOp op a b) Q E s) (hm : (cmpInfo op).2.1 = m) {f : Addr} {fd : FuncData} {sp : Sp}
    (gu : X.A.guards = some []) (hr : Room k X.A) (cl : Cls X.K C) (h1 : PySem.W.findIn X.K (.ref C) m = some (some (.ref f))) (h2 : PySem.W.isFn X.K (.ref f) = true) (G : GnOk X.prog X.w X.K X.mg X.base k f fd ["self", "other"] sp) (hb : Binds X.K fd ["self", "other"] []) :
    OpR X (compareOp op) (rCmpI C X.K sp) := by
  intro pins s σ H x y u v Q I rx ry h
  obtain ⟨a, dx, fs, t, rfl, ha, ty, nf, q⟩ := h
  obtain rfl : u = Value.ref a := rx
  obtain ⟨mA, O, _⟩ := ins_get I.hok ha
  obtain ⟨od, J, _⟩ := O.look
  obtain ⟨P, z, hp, _⟩ := kit_of I ry ty
  subst hm
  refine hop (cmp_own (hr.units0) I.kIn J (z.ty _ _ I.kIn hp) nf h1 h2 (wpAny_mono (run_g (dvs := []) (dfs := []) (us := [.ref a, v]) (vs := [.ref a, y]) G gu hr hb .nil (fun e s' c => ?_) I (.cons rfl (.cons ry .nil)) (by rw [List.append_nil]; exact q)) (fun r s' hq => ?_) fun _ _ e => e))
  · obtain ⟨_, _, _, _, _, _, _, _, _, _, _, _, z⟩ := c
    exact z.elim
  · obtain ⟨w, H', I', rw', ⟨b, rfl⟩, q'⟩ := hq
    obtain rfl : r = Value.bool b := rw'
    exact ⟨.bl b, H', I', rfl, q'⟩
def cmpIG (K : PySem.W.Frag) (C : Addr) (spd : Spd) : D → D → (B → Prop) → Prop := fun x y Q => (∃ ns ds, x = .ins C ns ds) ∧ TyF K C y ∧ spd [.p x, .p y] (fun b _ => ∃ k, b = .p (.bl k) ∧ Q b) fun _ _ _ => False
theorem rd_cmpI {K : PySem.W.Frag} : RD K (rCmpI C K (toSp K spd)) (cmpIG K C spd) := by
  intro W F H σ δ x y c d Q Z S rc rd g hZ
  obtain ⟨⟨ns, ds, rfl⟩, ty, q⟩ := g
  have rc' := rc
  unfold Rp at rc
  obtain ⟨a, dx, zs, rfl, g1, _⟩ := rc
  obtain ⟨t, g2, g3⟩ := ty.ty S.fh rd
  refine ⟨a, dx, _, t, rfl, S.fh _ _ g1, g2, g3, F, none, [.p (.ins C ns ds), .p d], _, _, S.fh, .cons rc' (.cons rd .nil), (fun p e => by cases e), q, fun v H' F' b m af r z => ?_, fun cls dd H' F' C es m _ _ z => z.elim⟩
  obtain ⟨k, rfl, q'⟩ := z
  have r : Rp K F' (.bl k) v := r
  have e := rpBl r
  subst e
  exact ⟨⟨k, rfl⟩, hZ _ _ ⟨F', .p (.bl k), δ, af.ff, S.after af, r, (fun z => by cases z), rfl, q'⟩⟩
theorem de_eqI (c : CmpC X.prog X.w X.K X.mg X.base C "__eq__" k spd) (gu : X.A.guards = some []) (hr : Room k' X.A) (ha : DE X W a ta) (hb : DE X W b tb) (hk : k ≤ k' := by decide) (hm : behindInMarks .Eq b = false := by rfl) : DE X W (.Compare a [.Eq] [b] pos) (dOp (cmpIG X.K C spd) ta tb) := by
  obtain ⟨f, fd, h1, h2, G, bb⟩ := c.ex
  exact de_cmp (op_cmpI (m := "__eq__") PySem.W.cmp_ofEq (by decide +kernel) gu (hr.mono hk) c.cl h1 h2 G bb) rd_cmpI ha hb hm
theorem dt_eqI (c : CmpC X.prog X.w X.K X.mg X.base C "__eq__" k spd) (gu : X.A.guards = some []) (hr : Room k' X.A) (ha : DE X W a ta) (hb : DE X W b tb) (hk : k ≤ k' := by decide) (hm : behindInMarks .Eq b = false := by rfl) : DT X W (.Compare a [.Eq] [b] pos) (dT (dOp (cmpIG X.K C spd) ta tb)) := by
  obtain ⟨f, fd, h1, h2, G, bb⟩ := c.ex
  exact dt_cmp (op_cmpI (m := "__eq__") PySem.W.cmp_ofEq (by decide +kernel) gu (hr.mono hk) c.cl h1 h2 G bb) rd_cmpI ha hb hm
end

/-! ### != of two instances of one class that has an own == -/
structure NeC (K : PySem.W.Frag) (C : Addr) : Prop where
  ex : ∃ (f N : Addr) (nm q : Str) (bs : List Value) (sn : List Str) (sub : List Value) (ab : Bool) (col : Option Bool) (dd : Option Addr) (k0 k1 k2 k3 k5 : Option Value) (newId : String),
    K.lookup C = some (excClassObj nm q C N bs [.type "object"] true sn sub ab col dd k0 k1 k2 k3 k5 newId) ∧ PySem.W.nsOkIn K N = true ∧ PySem.W.nsIn K N "__eq__" = some (some (.ref f)) ∧ PySem.W.nsIn K N "__ne__" = some none ∧ PySem.W.findIn K (.ref C) "__eq__" = some (some (.ref f)) ∧
    ∃ o, K.lookup f = some o ∧ o.cls = .type "function"
section
variable {X : Cx} {W : Fix} {k k' : Nat} {C : Addr} {spd : Spd} {a b : Expr} {ta tb : TD} {pos : Pos}
def rNeI (C : Addr) (sp : Sp) : R2 := fun x y H Q => ∃ a dx fs a' dx' fs', x = .ref a ∧ H a = some (.ins C dx fs) ∧ y = .ref a' ∧ H a' = some (.ins C dx' fs') ∧ sp [x, y] H (fun v H' => ∃ b, v = .bl b ∧ Q (.bl (!b)) H') fun _ _ _ => False
theorem op_neI {f : Addr} {fd : FuncData} {sp : Sp} (gu : X.A.guards = some []) (hr : Room (k + 1) X.A) (ne : NeC X.K C) (h1 : PySem.W.findIn X.K (.ref C) "__eq__" = some (some (.ref f))) (G : GnOk X.prog X.w X.K X.mg X.base k f fd ["self", "other"] sp) (hb : Binds X.K fd ["self", "other"] []) :
    OpR X (compareOp .NotEq) (rNeI C sp) := by
  intro pins s σ H x y u v Q I rx ry h
  obtain ⟨a, dx, fs, a', dx', fs', rfl, ha, rfl, ha', q⟩ := h
  obtain rfl : u = Value.ref a := rx
  obtain rfl : v = Value.ref a' := ry
  obtain ⟨f', N, nm, qn, bs, sn, sub, ab, col, dd, k0, k1, k2, k3, k5, newId, hC, hN, he, hne, hf, of, hof, hoc⟩ := ne.ex
  rw [h1] at hf
  cases hf
  obtain ⟨mA, O, _⟩ := ins_get I.hok ha
  obtain ⟨od, J, _⟩ := O.look
  obtain ⟨mA', O', _⟩ := ins_get I.hok ha'
  obtain ⟨od', J', _⟩ := O'.look
  have hns : s.heap.Ns N (s.heap.nsMap N) := Heap.Ns.of_isNs (PySem.W.isNs_of_in I.kIn hN)
  have eqm : s.heap.nsMap N "__eq__" = some (.ref f) := by
    obtain ⟨o, es, ep, ho, hd, _, hfnd⟩ := hns
    unfold PySem.W.nsIn at he
    split at he
    · rename_i c d es' n' sl z
      have := I.kIn _ _ z
      rw [ho] at this
      cases this
      cases hd
      split at he
      · rename_i e hx
        have e2 := Option.some.inj (Option.some.inj he)
        rw [← hfnd]
        unfold nsFind findBy
        rw [← Array.find?_toList, hx]
        show some e.val = _
        rw [e2]
      · split at he <;> cases he
    · cases he
  have nem : s.heap.nsMap N "__ne__" = none := PySem.W.ns_none_of I.kIn hns hne
  have X0 : s.heap.OwnEqNoNe a C f "object" [.type "object"] := ⟨_, of, nm, qn, N, bs, true, sn, sub, ab, col, dd, k0, k1, k2, k3, k5, newId, s.heap.nsMap N, _, J.at_, J.cls, I.kIn _ _ hC, hns, eqm, I.kIn _ _ hof, hoc, F.cmp_object.mro, F.cmp_object.eq.lookup, nem⟩
  have hu := hr.units
  have hj := J'.at_
  have hjc := J'.cls
  have run : wpAny (model X.prog X.w) X.A.in1 (call (.ref f) [.ref a, .ref a']) (fun v s' => ∃ b, v = .bool b ∧ EP X pins σ Q (.bool (!b)) s') X.xe s := by
    have hl : ([Value.ref a, .ref a'] ++ []).length = ["self", "other"].length := rfl
    have b2 := hb s [.ref a, .ref a'] I.kIn rfl
    refine wpAny_call (codeAny_mono (G.run X.A.in1 X.stack s H ⟨[.ref a, .ref a'], []⟩ [.ref a, .ref a'] [.ref a, .ref a'] _ _ (by rw [in1_guards]; exact gu) hr.in1 I.env0.in1 b2 (.cons rfl (.cons rfl .nil)) q) fun r s' hq => ?_)
    cases r with
    | error er =>
      obtain ⟨_, _, _, _, _, _, _, _, _, _, _, _, z⟩ := hq
      exact z.elim
    | ok fl =>
      cases fl with
      | ret u =>
        obtain ⟨v, H', I3, rv, b, rfl, q3⟩ := I.after hq
        obtain rfl : u = Value.bool b := rv
        exact ⟨b, rfl, .bl (!b), H', I3, rfl, q3⟩
      | next => exact False.elim hq
      | brk => exact False.elim hq
      | cont => exact False.elim hq
  obtain ⟨hp, g, d, tk, os⟩ := s
  exact compareOp_ne_ownEq F.cmp_object X0 hj hjc (by omega) run
def neIG (C : Addr) (spd : Spd) : D → D → (B → Prop) → Prop := fun x y Q => (∃ ns ds, x = .ins C ns ds) ∧ (∃ ns ds, y = .ins C ns ds) ∧ spd [.p x, .p y] (fun b _ => ∃ k, b = .p (.bl k) ∧ Q (.p (.bl (!k)))) fun _ _ _ => False
theorem rd_neI {K : PySem.W.Frag} : RD K (rNeI C (toSp K spd)) (neIG C spd) := by
  intro W F H σ δ x y c d Q Z S rc rd g hZ
  obtain ⟨⟨ns, ds, rfl⟩, ⟨ns', ds', rfl⟩, q⟩ := g
  have rc' := rc
  have rd' := rd
  unfold Rp at rc rd
  obtain ⟨a, dx, zs, rfl, g1, _⟩ := rc
  obtain ⟨a', dx', zs', rfl, g2, _⟩ := rd
  refine ⟨a, dx, _, a', dx', _, rfl, S.fh _ _ g1, rfl, S.fh _ _ g2, F, none, [.p (.ins C ns ds), .p (.ins C ns' ds')], _, _, S.fh, .cons rc' (.cons rd' .nil), (fun p e => by cases e), q, fun v H' F' b m af r z => ?_, fun cls dd H' F' C es m _ _ z => z.elim⟩
  obtain ⟨k, rfl, q'⟩ := z
  have r : Rp K F' (.bl k) v := r
  have e := rpBl r
  exact ⟨k, e, hZ _ _ ⟨F', .p (.bl (!k)), δ, af.ff, S.after af, rp_bl (K := K) (F := F'), (fun z => by cases z), rfl, q'⟩⟩
theorem dt_neI (c : CmpC X.prog X.w X.K X.mg X.base C "__eq__" k spd) (n : NeC X.K C) (gu : X.A.guards = some []) (hr : Room k' X.A) (ha : DE X W a ta) (hb : DE X W b tb) (hk : k + 1 ≤ k' := by decide) (hm : behindInMarks .NotEq b = false := by rfl) : DT X W (.Compare a [.NotEq] [b] pos) (dT (dOp (neIG C spd) ta tb)) := by
  obtain ⟨f, fd, h1, h2, G, bb⟩ := c.ex
  exact dt_cmp (op_neI gu (hr.mono hk) n h1 G bb) rd_neI ha hb hm
theorem de_neI (c : CmpC X.prog X.w X.K X.mg X.base C "__eq__" k spd) (n : NeC X.K C) (gu : X.A.guards = some []) (hr : Room k' X.A) (ha : DE X W a ta) (hb : DE X W b tb) (hk : k + 1 ≤ k' := by decide) (hm : behindInMarks .NotEq b = false := by rfl) : DE X W (.Compare a [.NotEq] [b] pos) (dOp (neIG C spd) ta tb) := by
  obtain ⟨f, fd, h1, h2, G, bb⟩ := c.ex
  exact de_cmp (op_neI gu (hr.mono hk) n h1 G bb) rd_neI ha hb hm
end
end DD

set_option Elab.async false
set_option linter.all false
set_option maxRecDepth 100000
set_option maxHeartbeats 4000000
/-! DD24: a < b < c; what a class of the text holds. -/
namespace DD
open PySem PySem.Spec PyProof.Rows L2
section
variable {X : Cx} {W : Fix} {a b c : Expr} {ta tb tc : TD} {op op' : CmpOp} {r r' : R2} {g g' : D → D → (B → Prop) → Prop} {pos : Pos}
def dChain (g g' : D → D → (B → Prop) → Prop) (ta tb tc : TD) : TD := fun δ Q => dp ta δ fun x δ1 => dp tb δ1 fun y δ2 => g x y fun z => ∃ k, z = .p (.bl k) ∧ if k = true then dp tc δ2 fun w δ3 => g' y w fun z' => Q z' δ3 else Q (.p (.bl false)) δ2
theorem chain_run (ha : DE X W a ta) (hb : DE X W b tb) (hc : DE X W c tc) (hr : RD X.K r g) (hr' : RD X.K r' g') {F H : Hp} {σ : L2.St} {δ : Env'} {Q : B → Env' → Prop} (S : SD X.K W F H σ δ) (q : dChain g g' ta tb tc δ Q) {Z : VK} (hZ : ∀ v H', DQ X.K W F σ Q v H' → Z v H') : tChain r r' (cE X a) (cE X b) (cE X c) σ H Z := by
  refine (ha.plain S q).imp fun x H1 h1 => ?_
  obtain ⟨F1, dx, δ1, e1, S1, r1, q1⟩ := h1
  refine (hb.plain S1 q1).imp fun y H2 h2 => ?_
  obtain ⟨F2, dy, δ2, e2, S2, r2, q2⟩ := h2
  refine hr W F2 H2 σ δ2 x y dx dy _ _ S2 (Rp.mono e2 _ _ r1) r2 q2 fun v H3 h3 => ?_
  obtain ⟨F3, z, δ3, e3, S3, r3, _, rfl, k, rfl, q3⟩ := h3
  refine ⟨k, rpBl (K := X.K) (F := F3) r3, ?_⟩
  cases k with
  | true =>
    rw [if_pos rfl] at q3 ⊢
    refine (hc.plain S3 q3).imp fun w H4 h4 => ?_
    obtain ⟨F4, dw, δ4, e4, S4, r4, q4⟩ := h4
    exact hr' W F4 H4 σ δ4 y w dy dw _ _ S4 (Rp.mono (e3.trans e4) _ _ r2) r4 q4 fun v H' h => hZ _ _ (h.fix (((e1.trans e2).trans e3).trans e4))
  | false =>
    rw [if_neg Bool.false_ne_true] at q3 ⊢
    exact hZ _ _ ((DQ.mk (Q := Q) S3 (by unfold Rp; rfl) q3).back ((e1.trans e2).trans e3))
theorem de_chain (ho : OpR X (compareOp op) r) (hr : RD X.K r g) (ho' : OpR X (compareOp op') r') (hr' : RD X.K r' g') (ha : DE X W a ta) (hb : DE X W b tb) (hc : DE X W c tc) (hm : lastMarks [op, op'] [b, c] = false := by with_unfolding_all rfl) : DE X W (.Compare a [op, op'] [b, c] pos) (dChain g g' ta tb tc) :=
  .of (pe_chain (X := X) ho ho' cE_pe cE_pe cE_pe hm) fun F H σ δ Q S q => chain_run ha hb hc hr hr' S q fun _ _ h => h
theorem dt_chain (ho : OpR X (compareOp op) r) (hr : RD X.K r g) (ho' : OpR X (compareOp op') r') (hr' : RD X.K r' g') (ha : DE X W a ta) (hb : DE X W b tb) (hc : DE X W c tc) (hm : lastMarks [op, op'] [b, c] = false := by with_unfolding_all rfl) : DT X W (.Compare a [op, op'] [b, c] pos) (dT (dChain g g' ta tb tc)) := by
  refine ⟨fun F H σ δ Q S q => cT_of (pt_chain (X := X) ho ho' cE_pe cE_pe cE_pe hm) ?_⟩
  refine chain_run ha hb hc hr hr' (Q := fun b δ' => ∃ k, b = .p (.bl k) ∧ Q k δ') S q fun v H' h => ?_
  obtain ⟨F3, b, δ3, e3, S3, r3, _, k, rfl, q3⟩ := h
  exact ⟨k, rpBl (K := X.K) (F := F3) r3, F3, δ3, e3, S3, q3⟩
end

/-! ### what a class of the text holds -/
def memS (st : Stmt) (j : Nat) : Stmt := match st with
  | .ClassDef _ _ _ b _ _ _ _ _ _ _ => b.getD j (.Pass ⟨0, 0, 0, 0⟩)
  | s => s
structure PropAt (K : PySem.W.Frag) (C : Addr) (f qual : Str) (st : Stmt) : Prop where
  c : Cls K C
  ex : ∃ p g fd, PropOf K C f p g ∧ Fun K f qual st g fd
structure MethAt (K : PySem.W.Frag) (C : Addr) (f qual : Str) (st : Stmt) : Prop where
  c : Cls K C
  ex : ∃ g fd, Meth K C f g ∧ Fun K f qual st g fd
structure InitAt (K : PySem.W.Frag) (mg : Str → Option Value) (x : Str) (C : Addr) (qual : Str) (st : Stmt) (dvs : List V) (kws : List (Str × V)) : Prop where
  ex : ∃ f fd, Mk K C f ∧ mg x = some (.ref C) ∧ FunD K "__init__" qual (defArgs st) (defBody st) (defScope st) dvs kws f fd
section
variable {P : Program} {w : World} {K : PySem.W.Frag} {mg : Str → Option Value} {base : Heap}
theorem prop_mk {C : Addr} {x qual : Str} {st : Stmt} {N : List Str} {k : Nat} {spd : Spd} (Da : PropAt K C x qual st) (S : FnScope N ["self"] (defScope st))
    (hbd : ∀ (kV doc pm : Value) (an : Option Addr) (cdv ct : Value) (us : List Value), us.length = (["self"] : List Str).length → bindArgs (PySem.W.fnOf x qual (defArgs st) (defBody st) (defScope st) .none kV doc pm an cdv ct) ⟨us, []⟩ = pure ((["self"] : List Str).zip us))
    (len : ∀ bs R E, spd bs R E → bs.length = 1) (hpk : ∀ bs R E, spd bs R E → PurK none bs ∧ ((none : Option Nat) = none → ∀ b ∈ bs, b.own = false))
    (hbody : ∀ (f : Addr) (cdv : Value) (A : Around) (outer : List Env) (s : Shared) (H : Hp) (E : XK) (W : Fix) (bs : List B) (R : B → Nat → Prop) (ED : Addr → List DD.D → Nat → Prop), A.guards = some [] →
      Room k (A.deeper (envOfC qual (defScope st) s.heap.objs.size f cdv)) → TkE (cxOf (L2.CX P w) P w K mg base N qual (defScope st) f cdv A outer s H E) W (fun C ds δ => ∃ m, PC none δ m ∧ ED C ds m) → spd bs R ED → Same W.F0 W.H0 →
      ∃ t, DSs (cxOf (L2.CX P w) P w K mg base N qual (defScope st) f cdv A outer s H E) W (defBody st) t ∧
        t { nx := fun δ => ∃ m, PC none δ m ∧ R (.p .non) m, rt := fun b δ => b.isU = false ∧ ∃ m, PC none δ m ∧ R b m } (startD N bs)) : PropC P w K mg base C x (k + 1) spd := by
  obtain ⟨p, g, fd, po, F⟩ := Da.ex
  exact ⟨p, g, fd, Da.c, po, gd_of none F S len hpk (hbody g), F.binds hbd⟩
theorem meth_mk {C : Addr} {x qual : Str} {st : Stmt} {N ps : List Str} {k : Nat} {spd : Spd} (Da : MethAt K C x qual st) (S : FnScope N ps (defScope st))
    (hbd : ∀ (kV doc pm : Value) (an : Option Addr) (cdv ct : Value) (us : List Value), us.length = ps.length → bindArgs (PySem.W.fnOf x qual (defArgs st) (defBody st) (defScope st) .none kV doc pm an cdv ct) ⟨us, []⟩ = pure (ps.zip us))
    (len : ∀ bs R E, spd bs R E → bs.length = ps.length) (hpk : ∀ bs R E, spd bs R E → PurK none bs ∧ ((none : Option Nat) = none → ∀ b ∈ bs, b.own = false))
    (hbody : ∀ (f : Addr) (cdv : Value) (A : Around) (outer : List Env) (s : Shared) (H : Hp) (E : XK) (W : Fix) (bs : List B) (R : B → Nat → Prop) (ED : Addr → List DD.D → Nat → Prop), A.guards = some [] →
      Room k (A.deeper (envOfC qual (defScope st) s.heap.objs.size f cdv)) → TkE (cxOf (L2.CX P w) P w K mg base N qual (defScope st) f cdv A outer s H E) W (fun C ds δ => ∃ m, PC none δ m ∧ ED C ds m) → spd bs R ED → Same W.F0 W.H0 →
      ∃ t, DSs (cxOf (L2.CX P w) P w K mg base N qual (defScope st) f cdv A outer s H E) W (defBody st) t ∧
        t { nx := fun δ => ∃ m, PC none δ m ∧ R (.p .non) m, rt := fun b δ => b.isU = false ∧ ∃ m, PC none δ m ∧ R b m } (startD N bs)) : MethC P w K mg base C x (k + 1) ps spd := by
  obtain ⟨g, fd, po, F⟩ := Da.ex
  exact ⟨g, fd, Da.c, po, gd_of none F S len hpk (hbody g), F.binds hbd⟩
/-- a method that compares -/
theorem cmp_of {C : Addr} {m : Str} {k : Nat} {spd : Spd} (c : MethC P w K mg base C m k ["self", "other"] spd) : CmpC P w K mg base C m k spd := by
  obtain ⟨f, fd, cl, hm, G, b⟩ := c.ex
  exact ⟨⟨f, fd, hm.at_, hm.fn, G, b⟩, cl⟩
/-- an __init__, called with just these values -/
theorem make_mk {C : Addr} {x qual : Str} {st : Stmt} {dvs : List V} {kws : List (Str × V)} {N ps : List Str} {k : Nat} {spd : SpdS} (Da : InitAt K mg x C qual st dvs kws) (S : FnScope N ps (defScope st))
    (len : ∀ d0 ds R E, spd d0 ds R E → ds.length + 1 = ps.length)
    (hbody : ∀ (f : Addr) (cdv : Value) (A : Around) (outer : List Env) (s : Shared) (H : Hp) (E : XK) (W : Fix) (d0 : DD.D) (ds : List DD.D) (R : B → DD.D → Prop) (ED : Addr → List DD.D → DD.D → Prop), A.guards = some [] →
      Room k (A.deeper (envOfC qual (defScope st) s.heap.objs.size f cdv)) → TkE (cxOf (L2.CX P w) P w K mg base N qual (defScope st) f cdv A outer s H E) W (fun C es δ => ∃ d', δ[0]? = some (some (.s d')) ∧ ED C es d') → spd d0 ds R ED → Same W.F0 W.H0 →
      ∃ t, DSs (cxOf (L2.CX P w) P w K mg base N qual (defScope st) f cdv A outer s H E) W (defBody st) t ∧
        t { nx := fun δ => ∃ d', δ[0]? = some (some (.s d')) ∧ R (.p .non) d', rt := fun b δ => b.isU = false ∧ ∃ d', δ[0]? = some (some (.s d')) ∧ R b d' } (startD N (.s d0 :: ds.map .p))) :
    ∃ f fd, GnOk P w K mg base (k + 1) f fd ps (toSpS K spd) ∧ Mk K C f ∧ mg x = some (.ref C) ∧ FunD K "__init__" qual (defArgs st) (defBody st) (defScope st) dvs kws f fd := by
  obtain ⟨f, fd, m, hm, F⟩ := Da.ex
  exact ⟨f, fd, gs_of F S len (hbody f), m, hm, F⟩
end

/-! ### isinstance in short -/
theorem cxOf_K {CX : CXT} {P : Program} {w : World} {K : PySem.W.Frag} {mg : Str → Option Value} {base : Heap} {N : List Str} {name : Str} {scope : Scope} {fa : Addr} {cdv : Value} {A₀ : Around} {outer₀ : List Env} {s₀ : Shared} {H₀ : Hp} {E : XK} : (cxOf CX P w K mg base N name scope fa cdv A₀ outer₀ s₀ H₀ E).K = K := rfl
theorem isaG_of {K : PySem.W.Frag} {d c : D} {b : Bool} {Q : B → Prop} (h : isaD K d c = some b) (ok : OkI K d) : isaG K [d, c] Q ↔ Q (.p (.bl b)) := by
  constructor
  · rintro ⟨d', c', b', e, h1, h2, q⟩
    cases e
    rw [h] at h1
    cases h1
    exact q
  · exact fun q => ⟨d, c, b, rfl, h, ok, q⟩
theorem okI_dat {K : PySem.W.Frag} {d : D} (h : dat d = true) : OkI K d := by
  cases d <;> first | (cases h; done) | trivial
theorem isa_Str {K : PySem.W.Frag} {d : D} {Q : B → Prop} (h : dat d = true) : isaG K [d, .ty "str"] Q ↔ Q (.p (.bl (isStr d))) :=
  isaG_of (by cases d <;> first | (cases h; done) | rfl | kernel_rfl) (okI_dat h)
theorem isa_Int {K : PySem.W.Frag} {d : D} {Q : B → Prop} (h : dat d = true) : isaG K [d, .ty "int"] Q ↔ Q (.p (.bl (isInt d))) :=
  isaG_of (by cases d <;> first | (cases h; done) | rfl | kernel_rfl) (okI_dat h)
theorem isa_Bool {K : PySem.W.Frag} {d : D} {Q : B → Prop} (h : dat d = true) : isaG K [d, .ty "bool"] Q ↔ Q (.p (.bl (isBool d))) :=
  isaG_of (by cases d <;> first | (cases h; done) | rfl | kernel_rfl) (okI_dat h)
theorem isa_Lst {K : PySem.W.Frag} {d : D} {Q : B → Prop} (h : dat d = true) : isaG K [d, .ty "list"] Q ↔ Q (.p (.bl (isLst d))) :=
  isaG_of (by cases d <;> first | (cases h; done) | rfl | kernel_rfl) (okI_dat h)
theorem isa_Tup {K : PySem.W.Frag} {d : D} {Q : B → Prop} (h : dat d = true) : isaG K [d, .ty "tuple"] Q ↔ Q (.p (.bl (isTup d))) :=
  isaG_of (by cases d <;> first | (cases h; done) | rfl | kernel_rfl) (okI_dat h)
def tyNames : List String := ["NoneType", "bool", "int", "str", "list", "tuple", "dict", "set"]
/-- nothing built in is an instance of the class -/
def NoKit (K : PySem.W.Frag) (a : Addr) : Prop := (tyNames.all fun t => PySem.W.kitOne K (.type t) (.ref a) == some false) = true
/-- nothing built in goes first -/
def NoFirst (K : PySem.W.Frag) (a : Addr) : Prop := (tyNames.all fun t => PySem.W.notFirst K a (.type t)) = true
theorem ty_mem {d : D} {t : String} (h : tyD d = some t) : t ∈ tyNames := by
  cases d <;> first | (cases h; done) | (cases h; decide)
theorem isa_no {K : PySem.W.Frag} {d : D} {a : Addr} {Q : B → Prop} (h : dat d = true) (n : NoKit K a) : isaG K [d, .ref a] Q ↔ Q (.p (.bl false)) := by
  refine isaG_of ?_ (okI_dat h)
  cases ht : tyD d with
  | none =>
    unfold dat at h
    rw [ht] at h
    cases h
  | some t =>
    have := List.all_eq_true.mp n t (ty_mem ht)
    have hk := beq_iff_eq.mp this
    cases d <;> first | (cases ht; done) | (cases ht; exact hk)
theorem isa_ins {K : PySem.W.Frag} {C a : Addr} {ns : List Str} {ds : List D} {b : Bool} {Q : B → Prop} (ok : InsOk K C) (h : PySem.W.kitOne K (.ref C) (.ref a) = some b) : isaG K [.ins C ns ds, .ref a] Q ↔ Q (.p (.bl b)) := isaG_of h ok
theorem isa_exc {K : PySem.W.Frag} {C a : Addr} {y : D} {b : Bool} {Q : B → Prop} (ok : XfE K C) (h : PySem.W.kitOne K (.ref C) (.ref a) = some b) : isaG K [.exc C [y], .ref a] Q ↔ Q (.p (.bl b)) := isaG_of h ⟨ok, rfl⟩
theorem tyF_dat {K : PySem.W.Frag} {C : Addr} {d : D} (h : dat d = true) (n : NoFirst K C) : TyF K C d := by
  cases ht : tyD d with
  | none =>
    unfold dat at h
    rw [ht] at h
    cases h
  | some t => exact .dat ht (List.all_eq_true.mp n t (ty_mem ht))
theorem notFirst_self {K : PySem.W.Frag} {C : Addr} : PySem.W.notFirst K C (.ref C) = true := by
  unfold PySem.W.notFirst
  simp
theorem isNon_non : isNon .non = true := rfl
theorem isNon_bl {b : Bool} : isNon (.bl b) = false := rfl
theorem isNon_int {b : Int} : isNon (.int b) = false := rfl
theorem isNon_str {b : Str} : isNon (.str b) = false := rfl
theorem isNon_lst {b : List D} : isNon (.lst b) = false := rfl
theorem isNon_tup {b : List D} : isNon (.tup b) = false := rfl
theorem isNon_dct {a : List Key} {b : List D} : isNon (.dct a b) = false := rfl
theorem isNon_ins {C : Addr} {a : List Str} {b : List D} : isNon (.ins C a b) = false := rfl
theorem isNon_exc {C : Addr} {b : List D} : isNon (.exc C b) = false := rfl
theorem kitOne_self {K : PySem.W.Frag} {C : Addr} : PySem.W.kitOne K (.ref C) (.ref C) = some true := by
  unfold PySem.W.kitOne
  simp
end DD

set_option Elab.async false
set_option linter.all false
set_option maxRecDepth 100000
set_option maxHeartbeats 8000000
namespace DD
open PySem PySem.Spec PyProof.Rows L2
theorem join_back : ∀ l : List Nat, Txt.join "" (l.map fun c => (⟨#[c]⟩ : Str)) = ⟨l.toArray⟩ := by
  intro l
  show Builtin.Str.glued _ _ = _
  rw [StrLaws.glued_eq_join]
  have key : ∀ l : List Nat, _root_.TL.tl (Str.join "" (l.map fun c => (⟨#[c]⟩ : Str))) = l := by
    intro l
    rw [_root_.TL.tl_join]
    induction l with
    | nil => rfl
    | cons c l ih =>
      cases l with
      | nil => rfl
      | cons d l =>
        show [c] ++ (_root_.TL.tl "" ++ _root_.TL.joinL (_root_.TL.tl "") (((d :: l).map fun c => (⟨#[c]⟩ : Str)).map _root_.TL.tl)) = _
        rw [ih]
        rfl
  have := key l
  have e : ∀ (s : Str) (l : List Nat), _root_.TL.tl s = l → s = ⟨l.toArray⟩ := fun s l h => by
    subst h
    cases s with
    | mk a => rfl
  exact e _ _ this
theorem mul_b {k : Nat} (hk : k < 1000) {x : Str} {t : Nat} (hx : x = ⟨#[t]⟩) : Txt.mul x (k : Int) = ⟨(List.replicate k t).toArray⟩ ∧ MulOk x (k : Int) := by
  subst hx
  have key : ∀ (n : Nat) (a : List Nat), (List.replicate n (#[t] : Array Nat)).foldl (· ++ ·) a.toArray = (a ++ List.replicate n t).toArray := by
    intro n
    induction n with
    | zero => intro a; simp
    | succ n ih =>
      intro a
      rw [List.replicate_succ, List.foldl_cons]
      have e : a.toArray ++ #[t] = (a ++ [t]).toArray := by simp
      rw [e, ih, List.append_assoc]
      congr 1
  constructor
  · unfold Txt.mul
    split
    · rename_i h
      have e : k = 0 := by omega
      rw [e]
      rfl
    · split
      · rename_i h1 h
        have e : k = 1 := by
          rcases Bool.or_eq_true_iff.mp h with z | z
          · have := beq_iff_eq.mp z
            omega
          · exact absurd z (by show ¬ ((1 : Nat) == 0) = true; decide)
        rw [e]
        rfl
      · show (⟨(List.replicate ((k : Int)).toNat (#[t] : Array Nat)).foldl (· ++ ·) #[]⟩ : Str) = _
        rw [Int.toNat_natCast]
        have := key k []
        simpa using this
  · refine ⟨?_, fun hn _ => ?_, fun hn _ => ?_⟩
    · rw [decide_eq_false (by omega), decide_eq_false (by omega)]
      rfl
    · have e : (⟨#[t]⟩ : Str).length = 1 := rfl
      rw [e]
      have : (1 : Int) ≤ (2 ^ 63 - 1) / (k : Int) := by
        rw [Int.le_ediv_iff_mul_le (by omega)]
        omega
      omega
    · have e : (⟨#[t]⟩ : Str).length = 1 := rfl
      rw [e, Nat.one_mul]
      unfold Builtin.Str.tooLong
      simp
      have e := sizeLine_eq
      omega

theorem cps_add {a b : Str} : (a ++ b).cps.toList = a.cps.toList ++ b.cps.toList := by
  show (a.cps ++ b.cps).toList = _
  rw [Array.toList_append]
theorem len_add {a b : Str} : (a ++ b).length = a.length + b.length := by
  show (a.cps ++ b.cps).size = _
  rw [Array.size_append]
  rfl
theorem str_len {x : Str} : x.cps.toList.length = x.length := by
  rw [Array.length_toList]
  rfl
theorem cut_take {z : Str} {k : Nat} (h : k ≤ z.length) : (cutS z none (some (k : Int))).cps.toList = z.cps.toList.take k := by
  have e : HT.sIx z.length z.length (some (k : Int)) = k := by
    unfold HT.sIx
    have h0 : ¬ ((k : Int) < 0) := by omega
    simp only [if_neg h0, Int.toNat_natCast]
    omega
  unfold cutS
  rw [e]
  simp [HT.sIx]
theorem cut_drop {z : Str} {k : Nat} (h : k ≤ z.length) : (cutS z (some (k : Int)) none).cps.toList = z.cps.toList.drop k := by
  have e : HT.sIx z.length 0 (some (k : Int)) = k := by
    unfold HT.sIx
    have h0 : ¬ ((k : Int) < 0) := by omega
    simp only [if_neg h0, Int.toNat_natCast]
    omega
  have e2 : HT.sIx z.length z.length none = z.length := rfl
  unfold cutS
  rw [e, e2]
  show List.take _ _ = _
  apply List.take_of_length_le
  rw [List.length_drop, str_len]
  exact Nat.le_refl _
theorem upto_len {lo : Int} {n : Nat} : (upto lo n).length = n := by
  unfold upto
  rw [List.length_map, List.length_range]
/-- == of two lists, and of the tuples of the same -/
theorem eqD_seq {k : Nat} {fs gs : List D} (hk : k ≤ 60) (hf : ∀ d ∈ fs, Sh k d) (hg : ∀ d ∈ gs, Sh k d) : ∃ b, eqD (.lst fs) (.lst gs) = some b ∧ eqD (.tup fs) (.tup gs) = some b ∧ eqD (.lst gs) (.lst fs) = some b ∧ eqD (.tup gs) (.tup fs) = some b := by
  obtain ⟨cs, h1, h2, h3, h4⟩ := sh_all hf
  obtain ⟨es, g1, g2, g3, g4⟩ := sh_all hg
  have l1 : toPy (.lst fs) = some (.list cs) := by show (toPyL fs).map _ = _; rw [h1]; rfl
  have l2 : toPy (.lst gs) = some (.list es) := by show (toPyL gs).map _ = _; rw [g1]; rfl
  have t1 : toPy (.tup fs) = some (.tuple cs) := by show (toPyL fs).map _ = _; rw [h1]; rfl
  have t2 : toPy (.tup gs) = some (.tuple es) := by show (toPyL gs).map _ = _; rw [g1]; rfl
  have s1 : SeqAt.shaped (.list cs) = true := by
    unfold SeqAt.shaped
    rw [Bool.and_eq_true]
    exact ⟨h2, decide_eq_true (by show PyData.depthAll cs + 1 ≤ 64; omega)⟩
  have s2 : SeqAt.shaped (.list es) = true := by
    unfold SeqAt.shaped
    rw [Bool.and_eq_true]
    exact ⟨g2, decide_eq_true (by show PyData.depthAll es + 1 ≤ 64; omega)⟩
  have s3 : SeqAt.shaped (.tuple cs) = true := by
    unfold SeqAt.shaped
    rw [Bool.and_eq_true]
    exact ⟨h2, decide_eq_true (by show PyData.depthAll cs + 1 ≤ 64; omega)⟩
  have s4 : SeqAt.shaped (.tuple es) = true := by
    unfold SeqAt.shaped
    rw [Bool.and_eq_true]
    exact ⟨g2, decide_eq_true (by show PyData.depthAll es + 1 ≤ 64; omega)⟩
  refine ⟨PyData.eqv (.list cs) (.list es), ?_, ?_, ?_, ?_⟩
  · unfold eqD
    rw [if_neg (by simp [flatD]), l1, l2, Option.bind_some, Option.bind_some, s1, s2]
    rfl
  · unfold eqD
    rw [if_neg (by simp [flatD]), t1, t2, Option.bind_some, Option.bind_some, s3, s4, if_pos (by rfl)]
    simp only [PyData.eqv]
  · unfold eqD
    rw [if_neg (by simp [flatD]), l1, l2, Option.bind_some, Option.bind_some, s1, s2, PySem.W.eqv_comm]
    rfl
  · unfold eqD
    rw [if_neg (by simp [flatD]), t1, t2, Option.bind_some, Option.bind_some, s3, s4, if_pos (by rfl), PySem.W.eqv_comm]
    simp only [PyData.eqv]
end DD

set_option Elab.async false
set_option linter.all false
set_option maxRecDepth 100000
set_option maxHeartbeats 4000000
/-! DD26: == of tuples whose items may be instances with an own ==; either answer. -/
namespace DD
open PySem PySem.SeqAt
open AutoSeq1 (wpAny_loadPart')
open MeetsSeq MeetsSeq2 MeetsSeq3 SeqRoads2
section
variable {pr : Program} {wd : World} {Ar : Around} {Rz : Result → Shared → Prop}
/-- tuple == tuple: Go i holds ahead of the i-th two, No once two differ -/
theorem tup_eqB (p q : Addr) (xs ys : Array Value) (n m : Nat) (d1 d2 : Option Addr) (l1 l2 : Array (Option Value)) (Go : Nat → Shared → Prop) (No : Shared → Prop)
    (step : ∀ i (h1 : i < xs.size) (h2 : i < ys.size) t, Go i t → wpAny (model pr wd) Ar.in1 (eqBool xs[i] ys[i]) (fun r t' => (r = true ∧ Go (i + 1) t') ∨ (r = false ∧ No t')) (fun e t' => Rz (.error e) t') t)
    (yes : ∀ t, Go (min xs.size ys.size) t → Rz (.ok (.ret (.bool (xs.size == ys.size)))) t) (no : ∀ t, No t → Rz (.ok (.ret (.bool false))) t) {st : Shared}
    (ha : st.heap.get? p = some { cls := .type "tuple", dict := d1, data := .seq xs n, slots := l1 }) (hb : st.heap.get? q = some { cls := .type "tuple", dict := d2, data := .seq ys m, slots := l2 }) (go : Go 0 st) :
    wpAny (model pr wd) Ar.in1 (Builtin.«tuple.__eq__» ⟨[.ref p, .ref q], []⟩) (GQ.FinOf pr wd Ar Rz) (fun e t' => Rz (.error e) t') st := by
  have sub := AutoSeq1.sub_tuple_tuple
  have zl : (xs.toList.zip ys.toList).length = min xs.size ys.size := by simp
  have go0 := go
  obtain ⟨h0, g0, e0, k0, o0⟩ := st
  wp_walk using wpAny_loadPart' ha, wpAny_loadPart' hb, wpAny_forIn_list _ (fun r b t => b.1 = none ∧ ∃ j, r = (xs.toList.zip ys.toList).drop j ∧ j ≤ min xs.size ys.size ∧ Go j t) _
  case turn =>
    rintro ⟨y, x⟩ r b t ⟨hn, j, hz, hj, hg⟩
    have lt : j < (xs.toList.zip ys.toList).length := by
      rcases Nat.lt_or_ge j (xs.toList.zip ys.toList).length with z | z
      · exact z
      · rw [List.drop_of_length_le z] at hz
        cases hz
    have lm : j < min xs.size ys.size := zl ▸ lt
    have a1 : j < xs.size := by omega
    have a2 : j < ys.size := by omega
    rw [List.drop_eq_getElem_cons lt] at hz
    injection hz with e1 e2
    have ey : y = xs[j] := by
      have z := congrArg Prod.fst e1
      simpa using z
    have ex : x = ys[j] := by
      have z := congrArg Prod.snd e1
      simpa using z
    subst ey ex
    refine wpAny_bind (wpAny_mono (step j a1 a2 t hg) (fun r' t' z => ?_) fun _ _ z => z)
    rcases z with ⟨rfl, z⟩ | ⟨rfl, z⟩
    · wp_walk
      exact ⟨rfl, j + 1, e2, lm, z⟩
    · have fin := no t' z
      wp_walk
      exact fin
  case fin =>
    rintro ⟨b1, b2⟩ t ⟨hn, j, hz, hj, hg⟩
    simp only at hn
    subst hn
    have ge : min xs.size ys.size ≤ j := by
      rcases Nat.lt_or_ge j (xs.toList.zip ys.toList).length with z | z
      · rw [List.drop_eq_getElem_cons z] at hz
        cases hz
      · exact zl ▸ z
    have ej : j = min xs.size ys.size := by omega
    have fin := yes t (ej ▸ hg)
    wp_walk
    simpa [Builtin.Tuple.tupleCompareSizes] using fin
  case h =>
    exact ⟨rfl, 0, rfl, Nat.zero_le _, go0⟩
theorem rc_tupB {p q : Addr} {xs ys : Array Value} {Qv Ev : Value → Shared → Prop} {st : Shared} (hu : Ar.units < cLine) (Go : Nat → Shared → Prop) (No : Shared → Prop)
    (ha : st.heap.IsTuple p xs) (hb : st.heap.IsTuple q ys)
    (step : ∀ i (h1 : i < xs.size) (h2 : i < ys.size) t, Go i t → wpAny (model pr wd) Ar.in1 (eqBool xs[i] ys[i]) (fun r t' => (r = true ∧ Go (i + 1) t') ∨ (r = false ∧ No t')) Ev t)
    (yes : ∀ t, Go (min xs.size ys.size) t → Qv (.bool (xs.size == ys.size)) t) (no : ∀ t, No t → Qv (.bool false) t) (go : Go 0 st) : wpAny (model pr wd) Ar (richCompare .Eq (.ref p) (.ref q)) Qv Ev st := by
  obtain ⟨⟨c1, d1, w1, l1⟩, o1, e1, n1, f1⟩ := id ha
  obtain ⟨⟨c2, d2, w2, l2⟩, o2, e2, n2, f2⟩ := id hb
  simp only at e1 f1 e2 f2
  subst e1 f1 e2 f2
  refine wpAny_richCompare_same_room (op := .Eq) ⟨_, o1, rfl⟩ ⟨_, o2, rfl⟩ F.slot_tuple_eq ?_ hu
  refine GQ.call_here F.slot_tuple_eq ⟨_, o1, rfl⟩ F.entry_tuple_eq (F.args_tuple_eq_2 _ _) ?_
  exact tup_eqB (Rz := wants (fun v t => v ≠ .notImplemented ∧ Qv v t) Ev) p q xs ys n1 n2 d1 d2 l1 l2 Go No step (fun t z => ⟨(fun x => nomatch x), yes t z⟩) (fun t z => ⟨(fun x => nomatch x), no t z⟩) o1 o2 go
end
end DD
namespace DD
open PySem PySem.Spec PyProof.Rows L2
/-- somewhere below the running body, with room and no guards -/
structure Bel (X : Cx) (n : Nat) (A : Around) : Prop where
  room : Room n A
  fr : A.frames = X.A.frames
  gu : A.guards = some []
theorem Bel.in1 {X : Cx} {n : Nat} {A : Around} (s : Bel X (n + 1) A) : Bel X n A.in1 := ⟨s.room.in1, s.fr, s.gu⟩
theorem Bel.mono {X : Cx} {n m : Nat} {A : Around} (s : Bel X n A) (h : m ≤ n) : Bel X m A := ⟨s.room.mono h, s.fr, s.gu⟩
/-- what == answers, over data -/
abbrev EqR := D → D → Bool → Prop
def EqK (X : Cx) (n : Nat) (R : EqR) : Prop := ∀ (A : Around) (pins : List (Addr × Obj)) (s : Shared) (σ : L2.St) (F H : Hp) (c d : D) (x y : V) (u v : Value) (k : Bool), Bel X n A → Inv X pins σ H s → Same F H → Rp X.K F c x → Rp X.K F d y → RelV x u → RelV y v → R c d k →
    wpAny (model X.prog X.w) A (eqBool u v) (fun r s' => r = k ∧ ∃ H', Inv X pins σ H' s' ∧ Ext H H') X.xe s
def RcK (X : Cx) (n : Nat) (R : EqR) : Prop := ∀ (A : Around) (pins : List (Addr × Obj)) (s : Shared) (σ : L2.St) (F H : Hp) (c d : D) (x y : V) (u v : Value) (k : Bool), Bel X n A → Inv X pins σ H s → Same F H → Rp X.K F c x → Rp X.K F d y → RelV x u → RelV y v → R c d k →
    wpAny (model X.prog X.w) A (richCompare .Eq u v) (fun r s' => r = .bool k ∧ ∃ H', Inv X pins σ H' s' ∧ Ext H H') X.xe s
theorem Same.ext {F H H' : Hp} (e : Same F H) (h : Ext H H') : Same F H' := fun a o z => h a o (e a o z)
section
variable {X : Cx} {n m : Nat} {R R' : EqR}
theorem EqK.mono (h : EqK X n R) (hn : n ≤ m) : EqK X m R := fun A pins s σ F H c d x y u v k b => h A pins s σ F H c d x y u v k (b.mono hn)
theorem RcK.mono (h : RcK X n R) (hn : n ≤ m) : RcK X m R := fun A pins s σ F H c d x y u v k b => h A pins s σ F H c d x y u v k (b.mono hn)
theorem EqK.or (h : EqK X n R) (h' : EqK X n R') : EqK X n (fun c d k => R c d k ∨ R' c d k) := fun A pins s σ F H c d x y u v k b I e r1 r2 l1 l2 z => by
  rcases z with z | z
  · exact h A pins s σ F H c d x y u v k b I e r1 r2 l1 l2 z
  · exact h' A pins s σ F H c d x y u v k b I e r1 r2 l1 l2 z
/-- flat data -/
def rFlat : EqR := fun c d k => flatD c = true ∧ flatD d = true ∧ k = eqV (flatV' c) (flatV' d)
theorem eqK_flat : EqK X 0 rFlat := by
  intro A pins s σ F H c d x y u v k b I e r1 r2 l1 l2 z
  obtain ⟨f1, f2, rfl⟩ := z
  obtain ⟨rfl, g1⟩ := rpFlat r1 f1
  obtain ⟨rfl, g2⟩ := rpFlat r2 f2
  exact eqAt_V (A := A) (s := s) l1 l2 g1 g2 X.prog X.w X.xe _ ⟨rfl, H, I, Ext.rfl'⟩
/-- item by item -/
def rItems (R : EqR) : List D → List D → Bool → Prop
  | [], [], k => k = true
  | c :: cs, d :: ds, k => ∃ j, R c d j ∧ if j = true then rItems R cs ds k else k = false
  | _, _, k => k = false
end
/-! ### one value reads one datum -/
def backV : Value → V
  | .bool b => .bl b
  | .int i _ => .int i
  | .str z _ => .str z
  | .bytes b _ => .byt b
  | .float b _ => .flt b
  | .ref a => .ref a
  | .type n => .ty n
  | _ => .non
theorem rel_back {x : V} {u : Value} (h : L2.RelV x u) : x = backV u := by
  cases x <;> first | (cases h; rfl) | (obtain ⟨t, rfl⟩ := h; rfl)
theorem relV_inj {x y : V} {u : Value} (h : L2.RelV x u) (g : L2.RelV y u) : x = y := (rel_back h).trans (rel_back g).symm
theorem vals_inj : ∀ {xs ys : List V} {us : List Value}, Vals xs us → Vals ys us → xs = ys
  | [], _, _, .nil, g => by
    cases g
    rfl
  | _ :: _, _, _, .cons h t, g => by
    cases g with
    | cons h' t' => rw [relV_inj h h', vals_inj t t']
theorem zip_inj {ns ms : List Str} {xs ys : List V} (h : ns.length = xs.length) (g : ms.length = ys.length) (e : ns.zip xs = ms.zip ys) : ns = ms ∧ xs = ys := by
  have a := congrArg (fun l => l.map Prod.fst) e
  have b := congrArg (fun l => l.map Prod.snd) e
  simp only [List.map_fst_zip (Nat.le_of_eq h), List.map_fst_zip (Nat.le_of_eq g), List.map_snd_zip (Nat.le_of_eq h.symm), List.map_snd_zip (Nat.le_of_eq g.symm)] at a b
  exact ⟨a, b⟩
mutual
def pureD : D → Bool
  | .non => true
  | .bl _ => true
  | .int _ => true
  | .str _ => true
  | .lst ds => pureL ds
  | .tup ds => pureL ds
  | .ins _ _ ds => pureL ds
  | _ => false
def pureL : List D → Bool
  | [] => true
  | d :: ds => pureD d && pureL ds
end
section
variable {X : Cx} {pins : List (Addr × Obj)} {σ : L2.St} {F H : Hp} {s : Shared}
theorem no_lt {a : Addr} {xs ys : List V} (I : Inv X pins σ H s) (h : H a = some (.lst xs)) (g : SqT X.K H a ys) : False := by
  obtain ⟨_, its, _, _, e⟩ := I.hok a _ h
  obtain ⟨its2, _, ⟨o, e2, c, _⟩, _⟩ := I.tuple g
  rw [e] at e2
  cases e2
  exact absurd c (by simp)
theorem no_it {a C dx : Addr} {fs : List (Str × V)} {ys : List V} (I : Inv X pins σ H s) (h : H a = some (.ins C dx fs)) (g : SqT X.K H a ys) : False := by
  obtain ⟨_, O, _⟩ := ins_get I.hok h
  obtain ⟨_, J, _⟩ := O.look
  obtain ⟨its2, _, ⟨o, e2, c, _⟩, _⟩ := I.tuple g
  rw [J.at_] at e2
  cases e2
  exact absurd c (by simp [PySem.W.instObj])
mutual
/-- what a value reads is one datum -/
theorem rpFun (I : Inv X pins σ H s) (e : Same F H) : ∀ (c d : D) (v : V), pureD c = true → pureD d = true → Rp X.K F c v → Rp X.K F d v → c = d
  | .non, d, v, _, p, h, g => by
    unfold Rp at h
    subst h
    cases d <;> first | (cases p; done) | (unfold Rp at g; first | (cases g; rfl) | (cases g; done) | (obtain ⟨_, g⟩ := g; first | cases g.1 | (obtain ⟨_, g⟩ := g; first | cases g.1 | (obtain ⟨_, g⟩ := g; cases g.1))))
  | .bl _, d, v, _, p, h, g => by
    unfold Rp at h
    subst h
    cases d <;> first | (cases p; done) | (unfold Rp at g; first | (cases g; rfl) | (cases g; done) | (obtain ⟨_, g⟩ := g; first | cases g.1 | (obtain ⟨_, g⟩ := g; first | cases g.1 | (obtain ⟨_, g⟩ := g; cases g.1))))
  | .int _, d, v, _, p, h, g => by
    unfold Rp at h
    subst h
    cases d <;> first | (cases p; done) | (unfold Rp at g; first | (cases g; rfl) | (cases g; done) | (obtain ⟨_, g⟩ := g; first | cases g.1 | (obtain ⟨_, g⟩ := g; first | cases g.1 | (obtain ⟨_, g⟩ := g; cases g.1))))
  | .str _, d, v, _, p, h, g => by
    unfold Rp at h
    subst h
    cases d <;> first | (cases p; done) | (unfold Rp at g; first | (cases g; rfl) | (cases g; done) | (obtain ⟨_, g⟩ := g; first | cases g.1 | (obtain ⟨_, g⟩ := g; first | cases g.1 | (obtain ⟨_, g⟩ := g; cases g.1))))
  | .lst ds, d, v, pc, p, h, g => by
    unfold Rp at h
    obtain ⟨a, xs, rfl, h1, h2⟩ := h
    cases d <;> first | (cases p; done) | (unfold Rp at g; cases g; done) | skip
    · unfold Rp at g
      obtain ⟨a', ys, e', g1, g2⟩ := g
      cases e'
      rw [h1] at g1
      cases g1
      rw [rpFunL I e ds _ xs pc p h2 g2]
    · unfold Rp at g
      obtain ⟨a', ys, e', g1, g2⟩ := g
      cases e'
      exact (no_lt I (e _ _ h1) (SqT.of (e _ _ g1))).elim
    · unfold Rp at g
      obtain ⟨a', dx, ys, e', g1, g2⟩ := g
      cases e'
      rw [h1] at g1
      cases g1
  | .tup ds, d, v, pc, p, h, g => by
    unfold Rp at h
    obtain ⟨a, xs, rfl, h1, h2⟩ := h
    cases d <;> first | (cases p; done) | (unfold Rp at g; cases g; done) | skip
    · unfold Rp at g
      obtain ⟨a', ys, e', g1, g2⟩ := g
      cases e'
      exact (no_lt I (e _ _ g1) (SqT.of (e _ _ h1))).elim
    · unfold Rp at g
      obtain ⟨a', ys, e', g1, g2⟩ := g
      cases e'
      obtain ⟨u1, r1, ⟨o1, q1, _, n1, z1⟩, _⟩ := I.tuple (SqT.of (e _ _ h1))
      obtain ⟨u2, r2, ⟨o2, q2, _, n2, z2⟩, _⟩ := I.tuple (SqT.of (e _ _ g1))
      rw [q1] at q2
      cases q2
      rw [z1] at z2
      have ez : u1 = u2 := by
        have z3 : u1 = u2 ∧ n1 = n2 := by simpa using z2
        exact z3.1
      subst ez
      have ex := vals_inj r1 r2
      subst ex
      rw [rpFunL I e ds _ xs pc p h2 g2]
    · unfold Rp at g
      obtain ⟨a', dx, ys, e', g1, g2⟩ := g
      cases e'
      exact (no_it I (e _ _ g1) (SqT.of (e _ _ h1))).elim
  | .ins C ns ds, d, v, pc, p, h, g => by
    unfold Rp at h
    obtain ⟨a, dx, xs, rfl, h1, h2, h3⟩ := h
    cases d <;> first | (cases p; done) | (unfold Rp at g; cases g; done) | skip
    · unfold Rp at g
      obtain ⟨a', ys, e', g1, g2⟩ := g
      cases e'
      rw [h1] at g1
      cases g1
    · unfold Rp at g
      obtain ⟨a', ys, e', g1, g2⟩ := g
      cases e'
      exact (no_it I (e _ _ h1) (SqT.of (e _ _ g1))).elim
    · unfold Rp at g
      obtain ⟨a', dx', ys, e', g1, g2, g3⟩ := g
      cases e'
      rw [h1] at g1
      injection g1 with g1
      injection g1 with e1 e2 e4
      obtain ⟨e5, e6⟩ := zip_inj h3 g3 e4
      subst e1 e5 e6
      rw [rpFunL I e ds _ xs pc p h2 g2]
  | .ty _, _, _, pc, _, _, _ => by cases pc
  | .ref _, _, _, pc, _, _, _ => by cases pc
  | .dct _ _, _, _, pc, _, _, _ => by cases pc
  | .iset _ _, _, _, pc, _, _, _ => by cases pc
  | .exc _ _, _, _, pc, _, _, _ => by cases pc
  | .scr _, _, _, pc, _, _, _ => by cases pc
  | .cst _, _, _, pc, _, _, _ => by cases pc
  | .dcT _ _, _, _, pc, _, _, _ => by cases pc
theorem rpFunL (I : Inv X pins σ H s) (e : Same F H) : ∀ (cs ds : List D) (vs : List V), pureL cs = true → pureL ds = true → RpL X.K F cs vs → RpL X.K F ds vs → cs = ds
  | [], ds, vs, _, _, h, g => by
    unfold RpL at h
    subst h
    cases ds with
    | nil => rfl
    | cons d ds =>
      unfold RpL at g
      obtain ⟨_, _, z, _⟩ := g
      cases z
  | c :: cs, ds, vs, pc, p, h, g => by
    unfold RpL at h
    obtain ⟨x, r, rfl, h1, h2⟩ := h
    cases ds with
    | nil =>
      unfold RpL at g
      cases g
    | cons d ds =>
      unfold RpL at g
      obtain ⟨x', r', z, g1, g2⟩ := g
      cases z
      obtain ⟨a1, a2⟩ := Bool.and_eq_true_iff.mp (show (pureD c && pureL cs) = true from pc)
      obtain ⟨b1, b2⟩ := Bool.and_eq_true_iff.mp (show (pureD d && pureL ds) = true from p)
      rw [rpFun I e c d x a1 b1 h1 g1, rpFunL I e cs ds r a2 b2 h2 g2]
end
end
end DD

set_option Elab.async false
set_option linter.all false
set_option maxRecDepth 100000
set_option maxHeartbeats 4000000
/-! DD27: == of tuples of instances over data. -/
namespace DD
open PySem PySem.Spec PyProof.Rows L2
theorem pureL_get : ∀ {ds : List D} {i : Nat} {d : D}, pureL ds = true → ds[i]? = some d → pureD d = true
  | d' :: ds, 0, d, p, h => by
    obtain ⟨b1, _⟩ := Bool.and_eq_true_iff.mp (show (pureD d' && pureL ds) = true from p)
    simp at h
    subst h
    exact b1
  | d' :: ds, i + 1, d, p, h => by
    obtain ⟨_, b2⟩ := Bool.and_eq_true_iff.mp (show (pureD d' && pureL ds) = true from p)
    exact pureL_get (i := i) b2 (by simpa using h)
/-- what == is told of -/
structure EqW (R : EqR) : Prop where
  p : ∀ c d k, R c d k → pureD c = true ∧ pureD d = true
  r : ∀ c k, R c c k → k = true
theorem rItems_self {R : EqR} (w : EqW R) : ∀ {cs : List D} {k : Bool}, rItems R cs cs k → k = true
  | [], _, h => h
  | c :: cs, k, h => by
    obtain ⟨j, h1, h2⟩ := h
    have := w.r c j h1
    subst this
    rw [if_pos rfl] at h2
    exact rItems_self w h2
def rTup (R : EqR) : EqR := fun c d k => ∃ cs ds, c = .tup cs ∧ d = .tup ds ∧ pureL cs = true ∧ pureL ds = true ∧ rItems R cs ds k
def rIns (C : Addr) (R : EqR) : EqR := fun c d k => (∃ ns ds, c = .ins C ns ds) ∧ (∃ ns ds, d = .ins C ns ds) ∧ R c d k
theorem eqW_tup {R : EqR} (w : EqW R) : EqW (rTup R) where
  p := fun c d k ⟨cs, ds, e1, e2, p1, p2, _⟩ => by
    subst e1 e2
    exact ⟨p1, p2⟩
  r := fun c k ⟨cs, ds, e1, e2, _, _, h⟩ => by
    subst e1
    cases e2
    exact rItems_self w h
theorem eqW_ins {C : Addr} {R : EqR} (w : EqW R) : EqW (rIns C R) := ⟨fun c d k h => w.p c d k h.2.2, fun c k h => w.r c k h.2.2⟩
section
variable {X : Cx} {n m : Nat} {R : EqR}
theorem eqK_of (h : RcK X n R) (w : EqW R) (hr : ∀ c d k, R c d k → ∀ F x y, Rp X.K F c x → Rp X.K F d y → (∃ a, x = .ref a) ∧ ∃ a, y = .ref a) : EqK X n R := by
  intro A pins s σ F H c d x y u v k b I e r1 r2 l1 l2 z
  obtain ⟨⟨a, rfl⟩, ⟨a', rfl⟩⟩ := hr c d k z F x y r1 r2
  cases l1
  cases l2
  by_cases hab : a = a'
  · subst hab
    obtain ⟨p1, p2⟩ := w.p c d k z
    have := rpFun I e c d _ p1 p2 r1 r2
    subst this
    have := w.r c k z
    subst this
    exact SeqAt.EqAt.same (A := A) (s := s) (.ref a) X.prog X.w X.xe _ ⟨rfl, H, I, Ext.rfl'⟩
  · refine GQ.eqBool_refG hab (wpAny_mono (h A pins s σ F H c d _ _ _ _ k b I e r1 r2 rfl rfl z) (fun r s' q => ?_) fun _ _ x => x)
    obtain ⟨hr', q⟩ := q
    exact ⟨k, hr', rfl, q⟩
theorem rItems_nil {R : EqR} {cs ds : List D} {k : Bool} (h : rItems R cs ds k) (e : cs = [] ∨ ds = []) : k = (cs.length == ds.length) := by
  cases cs with
  | nil =>
    cases ds with
    | nil => exact h
    | cons d ds => exact h
  | cons c cs =>
    cases ds with
    | nil => exact h
    | cons d ds => rcases e with e | e <;> cases e
theorem rcK_tup (h : EqK X n R) : RcK X (n + 1) (rTup R) := by
  intro A pins s σ F H c d x y u v k b I e r1 r2 l1 l2 z
  obtain ⟨cs, ds, rfl, rfl, _, _, hi⟩ := z
  unfold Rp at r1 r2
  obtain ⟨p, xs, rfl, g1, q1⟩ := r1
  obtain ⟨p', ys, rfl, g2, q2⟩ := r2
  cases l1
  cases l2
  obtain ⟨us, v1, t1, _⟩ := I.tuple (SqT.of (e _ _ g1))
  obtain ⟨ws, v2, t2, _⟩ := I.tuple (SqT.of (e _ _ g2))
  have n1 : us.toArray.size = cs.length := by rw [List.size_toArray, ← v1.length, q1.length]
  have n2 : ws.toArray.size = ds.length := by rw [List.size_toArray, ← v2.length, q2.length]
  refine rc_tupB b.room.units0 (fun i t => ∃ H', Inv X pins σ H' t ∧ Ext H H' ∧ rItems R (cs.drop i) (ds.drop i) k) (fun t => (∃ H', Inv X pins σ H' t ∧ Ext H H') ∧ k = false) t1 t2 (fun i h1 h2 t go => ?_) (fun t go => ?_) (fun t no => ?_) ⟨H, I, Ext.rfl', hi⟩
  · obtain ⟨H1, I1, e1, hi'⟩ := go
    have c1 : i < cs.length := by omega
    have c2 : i < ds.length := by omega
    rw [List.drop_eq_getElem_cons c1, List.drop_eq_getElem_cons c2] at hi'
    obtain ⟨j, hj, hn⟩ := hi'
    obtain ⟨a1, b1, f1⟩ := q1.get (List.getElem?_eq_getElem c1)
    obtain ⟨a2, b2, f2⟩ := q2.get (List.getElem?_eq_getElem c2)
    obtain ⟨u1, m1, w1⟩ := v1.get b1
    obtain ⟨u2, m2, w2⟩ := v2.get b2
    have o1 : us.toArray[i] = u1 := by
      have : us[i]? = some us.toArray[i] := by
        have h1' : i < us.length := by simpa using h1
        rw [List.getElem?_eq_getElem h1'] <;> simp
      rw [this] at m1
      exact Option.some.inj m1
    have o2 : ws.toArray[i] = u2 := by
      have : ws[i]? = some ws.toArray[i] := by
        have h2' : i < ws.length := by simpa using h2
        rw [List.getElem?_eq_getElem h2'] <;> simp
      rw [this] at m2
      exact Option.some.inj m2
    rw [o1, o2]
    refine wpAny_mono (h A.in1 pins t σ F H1 _ _ a1 a2 u1 u2 j b.in1 I1 (Same.ext e e1) f1 f2 w1 w2 hj) (fun r t' z => ?_) fun _ _ z => z
    obtain ⟨rfl, H2, I2, e2⟩ := z
    cases r with
    | true => exact .inl ⟨rfl, H2, I2, e1.trans e2, by rw [if_pos rfl] at hn; exact hn⟩
    | false => exact .inr ⟨rfl, ⟨H2, I2, e1.trans e2⟩, by rw [if_neg Bool.false_ne_true] at hn; exact hn⟩
  · obtain ⟨H1, I1, e1, hi'⟩ := go
    refine ⟨?_, H1, I1, e1⟩
    have hk := rItems_nil hi' (by
      rw [n1, n2]
      rcases Nat.le_total cs.length ds.length with z | z
      · exact .inl (by rw [Nat.min_eq_left z, List.drop_length])
      · exact .inr (by rw [Nat.min_eq_right z, List.drop_length]))
    rw [hk, List.length_drop, List.length_drop, n1, n2]
    congr 1
    rw [Bool.eq_iff_iff, beq_iff_eq, beq_iff_eq]
    omega
  · obtain ⟨⟨H1, I1, e1⟩, rfl⟩ := no
    exact ⟨rfl, H1, I1, e1⟩
theorem eqK_tup (h : EqK X n R) (w : EqW R) : EqK X (n + 1) (rTup R) := eqK_of (rcK_tup h) (eqW_tup w) fun c d k ⟨cs, ds, e1, e2, _⟩ F x y r1 r2 => by
  subst e1 e2
  unfold Rp at r1 r2
  obtain ⟨p, xs, rfl, _⟩ := r1
  obtain ⟨p', ys, rfl, _⟩ := r2
  exact ⟨⟨_, rfl⟩, ⟨_, rfl⟩⟩
theorem rcK_ins {C : Addr} {spd : Spd} (c : CmpC X.prog X.w X.K X.mg X.base C "__eq__" n spd) (hs : ∀ x y k, R x y k → spd [.p x, .p y] (fun b _ => b = .p (.bl k)) fun _ _ _ => False) : RcK X n (rIns C R) := by
  intro A pins s σ F H cd dd x y u v k b I e r1 r2 l1 l2 z
  obtain ⟨⟨ns, ds, rfl⟩, ⟨ns', ds', rfl⟩, z⟩ := z
  have s1 := r1
  have s2 := r2
  unfold Rp at r1 r2
  obtain ⟨a, dx, xs, rfl, g1, _⟩ := r1
  obtain ⟨a', dx', xs', rfl, g1', _⟩ := r2
  cases l1
  cases l2
  obtain ⟨f, fd, h1, h2, G, bb⟩ := c.ex
  obtain ⟨_, O, _⟩ := ins_get I.hok (e _ _ g1)
  obtain ⟨_, J, _⟩ := O.look
  obtain ⟨_, O', _⟩ := ins_get I.hok (e _ _ g1')
  obtain ⟨_, J', _⟩ := O'.look
  have sp : toSp X.K spd [.ref a, .ref a'] H (fun v H' => v = .bl k ∧ Ext H H') (fun _ _ _ => False) := by
    refine ⟨F, none, [.p (.ins C ns ds), .p (.ins C ns' ds')], _, _, e, .cons s1 (.cons s2 .nil), (fun p z => by cases z), hs _ _ _ z, fun v H' F' b m af r z => ?_, fun cls dd H' F' C es m _ _ z => z.elim⟩
    subst z
    have r : Rp X.K F' (.bl k) v := r
    exact ⟨rpBl r, fun a o h => af.keep a o h (fun z => by cases z)⟩
  have v2 : Vals [V.ref a, V.ref a'] [Value.ref a, Value.ref a'] := .cons rfl (.cons rfl .nil)
  have e0 : Env0 X.prog X.w X.K X.mg X.base A X.stack s H := by
    have z := I.env0
    exact ⟨by rw [b.fr]; exact z.frames, z.mod, z.bs, z.bsz, z.funs, z.frf, z.hok, z.bare⟩
  refine cmp_own (op := .Eq) b.room.units0 I.kIn J J'.type notFirst_self h1 h2 ?_
  refine wpAny_call (codeAny_mono (G.run A X.stack s H ⟨[.ref a, .ref a'], []⟩ _ _ _ _ b.gu b.room e0 (bb s [.ref a, .ref a'] I.kIn rfl) v2 sp) fun r s' hq => ?_)
  cases r with
  | error er =>
    obtain ⟨_, _, _, _, _, _, _, _, _, _, _, _, z⟩ := hq
    exact z.elim
  | ok fl =>
    cases fl with
    | ret w =>
      obtain ⟨z, H', I', rz, ez, ex⟩ := I.after hq
      subst ez
      cases rz
      exact ⟨rfl, H', I', ex⟩
    | next => exact hq.elim
    | brk => exact hq.elim
    | cont => exact hq.elim
theorem eqK_ins {C : Addr} {spd : Spd} (c : CmpC X.prog X.w X.K X.mg X.base C "__eq__" n spd) (hs : ∀ x y k, R x y k → spd [.p x, .p y] (fun b _ => b = .p (.bl k)) fun _ _ _ => False) (w : EqW R) : EqK X n (rIns C R) :=
  eqK_of (rcK_ins c hs) (eqW_ins w) fun c d k ⟨⟨ns, ds, e1⟩, ⟨ns', ds', e2⟩, _⟩ F x y r1 r2 => by
    subst e1 e2
    unfold Rp at r1 r2
    obtain ⟨p, _, xs, rfl, _⟩ := r1
    obtain ⟨p', _, ys, rfl, _⟩ := r2
    exact ⟨⟨_, rfl⟩, ⟨_, rfl⟩⟩
end
section
variable {X : Cx} {W : Fix} {n k' : Nat} {R : EqR} {a b : Expr} {ta tb : TD} {pos : Pos}
def rEqK (K : PySem.W.Frag) (R : EqR) : R2 := fun x y H Q => ∃ F c d k, Same F H ∧ Rp K F c x ∧ Rp K F d y ∧ R c d k ∧ ∀ H', Ext H H' → Q (.bl k) H'
theorem op_eqK (h : RcK X n R) (gu : X.A.guards = some []) (hr : Room n X.A) : OpR X (compareOp .Eq) (rEqK X.K R) := by
  intro pins s σ H x y v u Q I rx ry hq
  obtain ⟨F, c, d, k, e, r1, r2, hk, q⟩ := hq
  refine PySem.W.cmp_ofEq (wpAny_mono (h X.A pins s σ F H c d x y v u k ⟨hr, rfl, gu⟩ I e r1 r2 rx ry hk) (fun r s' z => ?_) fun _ _ x => x)
  obtain ⟨rfl, H', I', ex⟩ := z
  exact ⟨.bl k, H', I', rfl, q H' ex⟩
def eqKG (R : EqR) : D → D → (B → Prop) → Prop := fun x y Q => ∃ k, R x y k ∧ Q (.p (.bl k))
theorem rd_eqK {K : PySem.W.Frag} : RD K (rEqK K R) (eqKG R) := by
  intro W F H σ δ x y c d Q Z S rc rd g hZ
  obtain ⟨k, hk, q⟩ := g
  refine ⟨F, c, d, k, S.fh, rc, rd, hk, fun H' ex => hZ _ _ ?_⟩
  have af : Aft F H none 0 F H' := ⟨Same.refl F, Same.ext S.fh ex, fun a o h _ => ex a o h, fun a o h => .inl h, fun p z => by cases z⟩
  exact mkP (S.after af) (show Rp K F (.bl k) (.bl k) by unfold Rp; rfl) q
theorem de_eqK (h : RcK X n R) (gu : X.A.guards = some []) (hr : Room k' X.A) (ha : DE X W a ta) (hb : DE X W b tb) (hk : n ≤ k' := by decide) (hm : behindInMarks .Eq b = false := by rfl) : DE X W (.Compare a [.Eq] [b] pos) (dOp (eqKG R) ta tb) :=
  de_cmp (op_eqK h gu (hr.mono hk)) rd_eqK ha hb hm
theorem dt_eqK (h : RcK X n R) (gu : X.A.guards = some []) (hr : Room k' X.A) (ha : DE X W a ta) (hb : DE X W b tb) (hk : n ≤ k' := by decide) (hm : behindInMarks .Eq b = false := by rfl) : DT X W (.Compare a [.Eq] [b] pos) (dT (dOp (eqKG R) ta tb)) :=
  dt_cmp (op_eqK h gu (hr.mono hk)) rd_eqK ha hb hm
end
end DD

set_option Elab.async false
set_option linter.all false
set_option maxRecDepth 100000
set_option maxHeartbeats 4000000
/-! DD28: isinstance of a tuple of types, sorted texts, len(set(texts)), -i, xs.index, changes of a list that is nobody's. -/
namespace DD
open PySem PySem.Spec PyProof.Rows L2
section
variable {X : Cx}
def rIsT (K : PySem.W.Frag) : List V → Hp → VK → Prop := fun xs H Q => ∃ (x : V) (p : Addr) (cs : List V) (t : Value) (us : List Value) (b : Bool), xs = [x, .ref p] ∧ SqT K H p cs ∧ Paired ClsV cs us ∧ TyX K H x t ∧ PySem.W.kitAny K t us = some b ∧ Q (.bl b) H
theorem call_isT : CallR X (.builtin "isinstance") (rIsT X.K) := by
  intro pins s σ H xs us Q I r h
  obtain ⟨x, p, cs, t, ws, b, rfl, hT, k, ty, e, q⟩ := h
  obtain ⟨u1, u2, rfl, r1, r2⟩ := vals2 r
  cases (show u2 = Value.ref p from r2)
  obtain ⟨P, Z, pp, hx⟩ := kit_of I r1 ty
  obtain ⟨its, rv, ⟨⟨oc, od, dt, sl⟩, h1, h2, n, h3⟩, _⟩ := I.tuple hT
  cases ClsV.all k rv
  simp only at h2 h3
  subst h2 h3
  exact PySem.W.kia_tup Z I.kIn pp h1 e hx fun tk => ⟨.bl b, H, I.tok tk, rfl, q⟩
end
def isTG (K : PySem.W.Frag) : List D → (B → Prop) → Prop := fun ds Q => ∃ (d : D) (ts : List String) (t : String) (b : Bool), ds = [d, .tup (ts.map D.ty)] ∧ tyD d = some t ∧ PySem.W.kitAny K (.type t) (ts.map Value.type) = some b ∧ Q (.p (.bl b))
theorem rpL_ty {K : PySem.W.Frag} {F : Hp} : ∀ {ts : List String} {xs : List V}, RpL K F (ts.map D.ty) xs → Paired ClsV xs (ts.map Value.type)
  | [], _, h => by
    rw [List.map_nil] at h
    unfold RpL at h
    subst h
    exact .nil
  | t :: ts, _, h => by
    rw [List.map_cons] at h
    unfold RpL at h
    obtain ⟨x, r, rfl, h1, h2⟩ := h
    unfold Rp at h1
    subst h1
    exact .cons (.ty t) (rpL_ty h2)
theorem rc_isT {K : PySem.W.Frag} : RC K (rIsT K) (isTG K) := by
  intro W F H σ δ xs ds Q Z S r g hZ
  obtain ⟨d, ts, t, b, rfl, h1, h2, q⟩ := g
  obtain ⟨x, y, rfl, r1, r2⟩ := rpL2 r
  unfold Rp at r2
  obtain ⟨p, cs, rfl, g1, g2⟩ := r2
  exact ⟨x, p, cs, _, _, b, rfl, SqT.of (S.fh _ _ g1), rpL_ty g2, rp_tyX S.fh r1 h1, h2, hZ _ _ (mkP S (show Rp K F (.bl b) (.bl b) by unfold Rp; rfl) q)⟩
theorem isT_LT {K : PySem.W.Frag} {d : D} {Q : B → Prop} (h : dat d = true) : isTG K [d, .tup [.ty "list", .ty "tuple"]] Q ↔ Q (.p (.bl (isLst d || isTup d))) := by
  have e : ∃ t, tyD d = some t ∧ PySem.W.kitAny K (.type t) [.type "list", .type "tuple"] = some (isLst d || isTup d) := by
    cases d <;> first | (cases h; done) | exact ⟨_, rfl, by first | rfl | kernel_rfl⟩
  obtain ⟨t, h1, h2⟩ := e
  constructor
  · rintro ⟨d', ts, t', b, e, g1, g2, q⟩
    injection e with e1 e2
    injection e2 with e3
    injection e3 with e4
    subst e1
    have e5 : ts = ["list", "tuple"] := by
      match ts, e4 with
      | [a, b], e4 =>
        injection e4 with a1 a2
        injection a2 with a2
        injection a1 with a1
        injection a2 with a2
        rw [← a1, ← a2]
    subst e5
    rw [h1] at g1
    cases g1
    have g2 : PySem.W.kitAny K (.type t) [.type "list", .type "tuple"] = some b := g2
    rw [h2] at g2
    cases g2
    exact q
  · exact fun q => ⟨d, ["list", "tuple"], t, _, rfl, h1, h2, q⟩

/-! ### sorted(texts), len(set(texts)), -i, xs.index(y) -/
def sortedSG : List D → (B → Prop) → Prop := fun ds Q => ∃ xs : List Str, ds = [.lst (xs.map D.str)] ∧ xs.length < 64 ∧ ∀ ys : List Str, ys.Perm xs → sortedS ys = true → Q (.o (.lst (ys.map D.str)))
theorem rc_sortedS {K : PySem.W.Frag} : RC K (rSortedS K) sortedSG := by
  intro W F H σ δ xs ds Q Z S r g hZ
  obtain ⟨ns, rfl, h1, q⟩ := g
  obtain ⟨v, rfl, rv⟩ := rpL1 r
  obtain ⟨a, zs, rfl, h2, h3⟩ := rpLst rv
  rw [RpL.str h3] at h2
  exact ⟨a, ns, rfl, SqL.of (S.fh _ _ h2), h1, fun ys p h4 h5 hp => hZ _ _ (DQ.mkO (Q := fun b δ' => δ' = δ ∧ Q b) (d := .lst (ys.map D.str)) S hp ⟨_, upd_same, RpL.ofStr ys⟩ ⟨rfl, q ys h4 h5⟩)⟩
section
variable {X : Cx} {W : Fix} {e o : Expr} {te to : TD} {apos pos p q p2 spos : Pos}
def dLenSet (te : TD) : TD := fun δ Q => dp te δ fun d δ1 => ∃ xs : List Str, seqD d = some (xs.map D.str) ∧ xs.length ≤ 1 ∧ Q (.p (.int (xs.length : Nat))) δ1
theorem de_lenSet (hc : X.calm = true) (hm : X.mg "len" = none) (hm2 : X.mg "set" = none) (h : DE X W e te) (hg : Gl X "len" := by exact rfl) (hg2 : Gl X "set" := by exact rfl)
    (na : starEach [e] X.env = (false, eval e X.env) :: starEach [] X.env := by rfl) : DE X W (.Call (.Name "len" p) [.Call (.Name "set" p2) [e] [] q] [] pos) (dLenSet te) :=
  .of (pe_lenSet (X := X) hc hg hm hg2 hm2 cE_pe na) fun F H σ δ Q S z => by
    refine (h.plain S z).imp fun v H1 h1 => ?_
    obtain ⟨F1, d, δ1, e1, S1, r1, xs, hs, hl, q1⟩ := h1
    obtain ⟨a, ys, rfl, h3, h4⟩ := rp_seq S1.fh r1 hs
    rw [RpL.str h4] at h3
    exact ⟨a, xs, rfl, h3, hl, (mkP (Q := fun b => Q b δ1) S1 rp_int q1).fix e1⟩
def dNeg (te : TD) : TD := fun δ Q => dp te δ fun d δ1 => ∃ i, d = .int i ∧ Q (.p (.int (-i))) δ1
theorem de_neg (h : DE X W e te) : DE X W (.UnaryOp .USub e pos) (dNeg te) :=
  .of (pe_un (X := X) un_neg cE_pe) fun F H σ δ Q S z => by
    refine (h.plain S z).imp fun v H1 h1 => ?_
    obtain ⟨F1, d, δ1, e1, S1, r1, i, rfl, q1⟩ := h1
    unfold Rp at r1
    subst r1
    exact ⟨i, rfl, (mkP (Q := fun b => Q b δ1) S1 rp_int q1).fix e1⟩
/-- where a flat item stands first -/
def dIndex (to te : TD) : TD := fun δ Q => dp to δ fun d δ1 => (∃ ds, d = .lst ds) ∧ dp te δ1 fun y δ2 => ∃ ds j z, d = .lst ds ∧ ds.all flatD = true ∧ flatD y = true ∧ ds[j]? = some z ∧ eqV (flatV' z) (flatV' y) = true ∧ (∀ (m : Nat) z', m < j → ds[m]? = some z' → eqV (flatV' z') (flatV' y) = false) ∧ Q (.p (.int (j : Nat))) δ2
theorem de_index (ho : DE X W o to) (h : DE X W e te)
    (hpe : ∀ to te : TE, PE X o to → PE X e te → PE X (.Call (.Attribute o "index" apos) [e] [] pos) (tBM X.K "list" (rIndex X.K) to (tCons te tNil))) :
    DE X W (.Call (.Attribute o "index" apos) [e] [] pos) (dIndex to te) :=
  .of (hpe _ _ cE_pe cE_pe) fun F H σ δ Q S z => by
    refine (ho.plain S z).imp fun v H1 h1 => ?_
    obtain ⟨F1, d, δ1, e1, S1, r1, ⟨ds, rfl⟩, q1⟩ := h1
    have r1' := r1
    unfold Rp at r1
    obtain ⟨a, xs, rfl, g1, g2⟩ := r1
    refine ⟨.inl ⟨rfl, xs, SqL.of (S1.fh _ _ g1)⟩, (h.plain S1 q1).imp fun u H2 h2 => ?_⟩
    obtain ⟨F2, y, δ2, e2, S2, r2, ds', j, z, ed, f1, f2, hj, hz, hno, q2⟩ := h2
    cases ed
    have g1 := e2 _ _ g1
    have g2 := RpL.mono e2 _ _ g2
    obtain ⟨rfl, f3⟩ := rpFlat r2 f2
    obtain ⟨rfl, f4⟩ := rpL_flat g2 f1
    refine ⟨a, ds.map flatV', flatV' y, j, flatV' z, rfl, rfl, SqL.of (S2.fh _ _ g1), f3, f4, by rw [List.getElem?_map, hj]; rfl, hz, fun m z' hm hz' => ?_, (mkP (Q := fun b => Q b δ2) S2 rp_int q2).fix (e1.trans e2)⟩
    rw [List.getElem?_map] at hz'
    cases hd : ds[m]? with
    | none =>
      rw [hd] at hz'
      cases hz'
    | some z2 =>
      rw [hd] at hz'
      cases hz'
      exact hno m z2 hm hd
/-- e.clear(), e a new list -/
def dClrE (te : TD) : TSD := fun Z δ => te δ fun b δ1 => ∃ ds, b = .o (.lst ds) ∧ Z.nx δ1
theorem ds_clrE (h : DE X W e te) (hpe : ∀ te : TE, PE X e te → PE X (.Call (.Attribute e "clear" apos) [] [] pos) (tBM0 X.K "list" rClear te)) (hs : swapsWith (.Call (.Attribute e "clear" apos) [] [] pos) none spos.line X.env = pure false := by rfl) :
    DS X W (.Expr (.Call (.Attribute e "clear" apos) [] [] pos) spos) (dClrE te) :=
  .of (ps_expr (X := X) (hpe _ cE_pe) hs) fun F H σ δ Z S q => by
    refine (h.run F H σ δ _ S q).imp fun v H1 h1 => ?_
    obtain ⟨F1, b, δ1, e1, S1, r1, sep, ds, rfl, q1⟩ := h1
    obtain ⟨a, rfl, hF, hH, xs, hx, rx⟩ := r1
    exact ⟨.inl ⟨rfl, xs, SqL.of hx⟩, a, xs, rfl, rfl, hx, F1, δ1, S1.turn hH hF (sep rfl), q1⟩
/-- e.append(y), e a new list, y a text -/
def dAppE (te : TD) : TSD := fun Z δ => te δ fun b δ1 => ∃ ds, b = .o (.lst ds) ∧ ds.length < sizeLine ∧ Z.nx δ1
theorem ds_appE {z : Str} {k : Nat} {p3 : Pos} (h : DE X W e te) (hpe : ∀ te : TE, PE X e te → PE X (.Call (.Attribute e "append" apos) [.Constant (.str z) k p3] [] pos) (tBM X.K "list" rAppend te (tCons (tC (.str z)) tNil))) (hs : swapsWith (.Call (.Attribute e "append" apos) [.Constant (.str z) k p3] [] pos) none spos.line X.env = pure false := by rfl) :
    DS X W (.Expr (.Call (.Attribute e "append" apos) [.Constant (.str z) k p3] [] pos) spos) (dAppE te) :=
  .of (ps_expr (X := X) (hpe _ cE_pe) hs) fun F H σ δ Z S q => by
    refine (h.run F H σ δ _ S q).imp fun v H1 h1 => ?_
    obtain ⟨F1, b, δ1, e1, S1, r1, sep, ds, rfl, hl, q1⟩ := h1
    obtain ⟨a, rfl, hF, hH, xs, hx, rx⟩ := r1
    exact ⟨.inl ⟨rfl, xs, SqL.of hx⟩, a, xs, _, rfl, rfl, hx, by rw [rx.length]; exact hl, F1, δ1, S1.turn hH hF (sep rfl), q1⟩
end
end DD

set_option Elab.async false
set_option linter.all false
set_option maxRecDepth 100000
set_option maxHeartbeats 4000000
/-! DD29: defs with defaults: f(a), f(a, k = e). -/
namespace DD
open PySem PySem.Spec PyProof.Rows L2
theorem gn_ofD {P : Program} {w : World} {K : PySem.W.Frag} {mg : Str → Option Value} {base : Heap} {x qual : Str} {st : Stmt} {f : Addr} {fd : FuncData} {N ps : List Str} {k : Nat} {sp : Sp}
    {dvs : List V} {kws : List (Str × V)} (F : FunD K x qual (defArgs st) (defBody st) (defScope st) dvs kws f fd) (S : FnScope N ps (defScope st)) (len : ∀ vs H Q E, sp vs H Q E → vs.length = ps.length)
    (hbody : ∀ (cdv : Value) (A : Around) (outer : List Env) (s : Shared) (H : Hp) (vs : List V) (Q : VK) (E : XK), A.guards = some [] →
      Room k (A.deeper (envOfC qual (defScope st) s.heap.objs.size f cdv)) → sp vs H Q E →
      ∃ t, PSs (cxOf (L2.CX P w) P w K mg base N qual (defScope st) f cdv A outer s H E) (defBody st) t ∧ t { nx := fun _ H' => Q .non H', rt := Q } (start N vs) H) :
    GnOk P w K mg base (k + 1) f fd ps sp := by
  refine ⟨len, ?_⟩
  intro A outer s H args us vs Q E hg hr e0 hb r hsp
  obtain ⟨oc, od, dV, kV, doc, pm, an, cdv, ct, osl, rfl, lk, hcd, _, _⟩ := F.ex
  have kin : K.In s.heap := e0.mod.kin.keeps fun b o e => (e0.bs b o e).1
  refine codeAny_call_function hr.depth (kin _ _ lk) rfl S.co S.gen rfl (PySem.W.codeRec_of kin hcd) (hb _ _ _ _ ?_)
  have hk : ∀ y ∈ ps.zip us, (defScope st).names.lookup y.1 = some .local ∨
      ((defScope st).names.lookup y.1 = some .cell ∧ ((cellsFrom (s.heap.objs.size + 1) (defScope st).names []).lookup y.1).isSome = true) := by
    rintro ⟨n, v⟩ hy
    rcases S.par n (List.of_mem_zip hy).1 with q | q
    · exact Or.inl q
    · exact Or.inr ⟨q, PySem.W.cellsFrom_some _ _ _ (Or.inl q)⟩
  refine wpAny_newFunctionEnv_cells S.kind hk ?_
  intro env he s1 x
  subst he
  refine ⟨(e0.mod.nolimit.keeps fun b o e => (e0.bs b o e).1).keeps x.toInCall.keep, codeAny_func ?_⟩
  obtain ⟨t, ht, hq⟩ := hbody cdv A outer s H vs Q E hg (hr.deeper _) hsp
  have I := inv_start (CX := L2.CX P w) (P := P) (w := w) (mg := mg) (base := base) (E := E) S hr.hd e0 (len _ _ _ _ hsp) r x
  refine wpAny_mono (ht.run [] s1 (start N vs) H _ I hq) ?_ (fun e s' hs => hs)
  intro fl s' hs
  cases fl with
  | ret u =>
    obtain ⟨v, σ', H', J, rv, q⟩ := hs
    exact ⟨v, H', J.os, J.bare, J.base, J.hok, rv, q⟩
  | next =>
    obtain ⟨σ', H', J, q⟩ := hs
    exact ⟨V.non, H', J.os, J.bare, J.base, J.hok, rfl, q⟩
  | brk =>
    obtain ⟨_, _, _, q⟩ := hs
    exact q.elim
  | cont =>
    obtain ⟨_, _, _, q⟩ := hs
    exact q.elim

theorem gd_ofD {P : Program} {w : World} {K : PySem.W.Frag} {mg : Str → Option Value} {base : Heap} {x qual : Str} {st : Stmt} {f : Addr} {fd : FuncData} {N ps : List Str} {k : Nat} {spd : Spd} (pi : Option Nat)
    {dvs : List V} {kws : List (Str × V)} (F : FunD K x qual (defArgs st) (defBody st) (defScope st) dvs kws f fd) (S : FnScope N ps (defScope st)) (len : ∀ bs R E, spd bs R E → bs.length = ps.length) (hpk : ∀ bs R E, spd bs R E → PurK pi bs ∧ (pi = none → ∀ b ∈ bs, b.own = false))
    (hbody : ∀ (cdv : Value) (A : Around) (outer : List Env) (s : Shared) (H : Hp) (E : XK) (W : Fix) (bs : List B) (R : B → Nat → Prop) (ED : Addr → List D → Nat → Prop), A.guards = some [] →
      Room k (A.deeper (envOfC qual (defScope st) s.heap.objs.size f cdv)) → TkE (cxOf (L2.CX P w) P w K mg base N qual (defScope st) f cdv A outer s H E) W (fun C ds δ => ∃ m, PC pi δ m ∧ ED C ds m) → spd bs R ED → Same W.F0 W.H0 →
      ∃ t, DSs (cxOf (L2.CX P w) P w K mg base N qual (defScope st) f cdv A outer s H E) W (defBody st) t ∧
        t { nx := fun δ => ∃ m, PC pi δ m ∧ R (.p .non) m, rt := fun b δ => b.isU = false ∧ ∃ m, PC pi δ m ∧ R b m } (startD N bs)) :
    GnOk P w K mg base (k + 1) f fd ps (toSp K spd) := by
  refine gn_ofD F S (fun vs H Q E h => ?_) fun cdv A outer s H vs Q E hg hr h => ?_
  · obtain ⟨F0, P0, bs, R, ED, _, ra, _, h, _⟩ := h
    rw [← Paired.length ra, len bs R ED h]
  · obtain ⟨F0, P0, bs, R, ED, fh, ra, hP, h, hQ, hE⟩ := h
    obtain ⟨h1, h2⟩ := hpk bs R ED h
    have hnp : P0 = none ∨ pi ≠ none := by
      cases e : P0 with
      | none => exact .inl rfl
      | some p =>
        refine .inr fun z => ?_
        obtain ⟨_, b, hb, ho⟩ := hP p e
        rw [h2 z b hb] at ho
        cases ho
    have S0 : SD K ⟨F0, H, P0, fun C ds δ => ∃ m, PC pi δ m ∧ ED C ds m⟩ F0 H (L2.start N vs) (startD N bs) := .start fh ra (fun p e => (hP p e).1) h1
    have tk : Takes (cxOf (L2.CX P w) P w K mg base N qual (defScope st) f cdv A outer s H E) (WXd K ⟨F0, H, P0, fun C ds δ => ∃ m, PC pi δ m ∧ ED C ds m⟩) := by
      refine (takes_of rfl rfl rfl rfl).imp fun cls d σ H' z => ?_
      obtain ⟨F', δ', C, ds, S', er, m, hm, he⟩ := z
      exact hE cls d H' F' C ds m (S'.aft hnp hm) er he
    obtain ⟨t, ht, q⟩ := hbody cdv A outer s H E _ bs R ED hg hr ⟨rfl, tk⟩ h fh
    refine ⟨_, cSs_pss, (fun pins s I => thn (ht.run F0 H _ _ _ S0 q pins s I) fun fl s' q => SP.imp q (fun σ' H' z => ?_) (fun v H' z => ?_) (fun σ' H' z => ?_) fun σ' H' z => ?_)⟩
    · obtain ⟨F', δ', S', m, hm, r⟩ := z
      exact hQ .non H' F' (.p .non) m (S'.aft hnp hm) (by unfold Res Rp; rfl) r
    · obtain ⟨_, σ', F', b, δ', e', S', rb, _, hu, m, hm, r⟩ := z
      refine hQ v H' F' b m (S'.aft hnp hm) ?_ r
      cases b with
      | p d => exact rb
      | n ds => exact rb
      | o d => exact rb
      | u w n => cases hu
      | s d => cases hu
    · obtain ⟨F', δ', S', z⟩ := z
      exact z.elim
    · obtain ⟨F', δ', S', z⟩ := z
      exact z.elim

/-- a def with defaults -/
structure FunAt (K : PySem.W.Frag) (mg : Str → Option Value) (x : Str) (st : Stmt) (dvs : List V) (kws : List (Str × V)) : Prop where
  ex : ∃ f fd, FunD K x x (defArgs st) (defBody st) (defScope st) dvs kws f fd ∧ mg x = some (.ref f)
/-- what its calls give: just the first ones, the others by default -/
structure CalD (P : Program) (w : World) (K : PySem.W.Frag) (mg : Str → Option Value) (base : Heap) (x : Str) (k : Nat) (ps : List Str) (dds : List D) (spd : Spd) : Prop where
  ex : ∃ f fd dfs dvs, GnOk P w K mg base k f fd ps (toSp K spd) ∧ mg x = some (.ref f) ∧ PySem.W.keepIn K (.ref f) = true ∧ Binds K fd ps dfs ∧ Vals dvs dfs ∧ ∀ F, RpL K F dds dvs
/-- .. all of them, the last by keywords -/
structure CalK (P : Program) (w : World) (K : PySem.W.Frag) (mg : Str → Option Value) (base : Heap) (x : Str) (k n : Nat) (ks : List Str) (spd : Spd) : Prop where
  ex : ∃ f fd ps, GnOk P w K mg base k f fd ps (toSp K spd) ∧ mg x = some (.ref f) ∧ PySem.W.keepIn K (.ref f) = true ∧
    ∀ (s : Shared) (us ws : List Value), K.In s.heap → us.length = n → ws.length = ks.length → BindsTo s fd ⟨us, ks.zip ws⟩ (ps.zip (us ++ ws))
section
variable {P : Program} {w : World} {K : PySem.W.Frag} {mg : Str → Option Value} {base : Heap}
/-- a def with defaults by its body's reading -/
theorem fun_mk {x : Str} {st : Stmt} {dvs : List V} {kws : List (Str × V)} {N ps : List Str} {k : Nat} {spd : Spd} (pi : Option Nat) (Da : FunAt K mg x st dvs kws) (S : FnScope N ps (defScope st))
    (len : ∀ bs R E, spd bs R E → bs.length = ps.length) (hpk : ∀ bs R E, spd bs R E → PurK pi bs ∧ (pi = none → ∀ b ∈ bs, b.own = false))
    (hbody : ∀ (f : Addr) (cdv : Value) (A : Around) (outer : List Env) (s : Shared) (H : Hp) (E : XK) (W : Fix) (bs : List B) (R : B → Nat → Prop) (ED : Addr → List DD.D → Nat → Prop), A.guards = some [] →
      Room k (A.deeper (envOfC x (defScope st) s.heap.objs.size f cdv)) → TkE (cxOf (L2.CX P w) P w K mg base N x (defScope st) f cdv A outer s H E) W (fun C ds δ => ∃ m, PC pi δ m ∧ ED C ds m) → spd bs R ED → Same W.F0 W.H0 →
      ∃ t, DSs (cxOf (L2.CX P w) P w K mg base N x (defScope st) f cdv A outer s H E) W (defBody st) t ∧
        t { nx := fun δ => ∃ m, PC pi δ m ∧ R (.p .non) m, rt := fun b δ => b.isU = false ∧ ∃ m, PC pi δ m ∧ R b m } (startD N bs)) :
    ∃ f fd, GnOk P w K mg base (k + 1) f fd ps (toSp K spd) ∧ mg x = some (.ref f) ∧ FunD K x x (defArgs st) (defBody st) (defScope st) dvs kws f fd := by
  obtain ⟨f, fd, F, hm⟩ := Da.ex
  exact ⟨f, fd, gd_ofD pi F S len hpk (hbody f), hm, F⟩
end
section
variable {X : Cx} {k n : Nat} {f : Addr} {fd : FuncData} {ps ks : List Str} {sp : Sp} {x : Str} {p pos : Pos} {e : Expr} {es : List Expr} {kws : List Keyword} {t tk : TA}
def tCallKG (n m : Nat) (sp : Sp) (Es : L2.St → XK) (t tk : TA) : TE := fun σ H Q => t σ H fun vs H1 => tk σ H1 fun zs H2 => vs.length = n ∧ zs.length = m ∧ sp (vs ++ zs) H2 Q (Es σ)
theorem pe_callKG {Es : L2.St → XK} (gu : X.A.guards = some []) (G : GnOk X.prog X.w X.K X.mg X.base k f fd ps sp) (hr : Room k X.A) (hg : Gl X x) (hm : X.mg x = some (.ref f)) (kp : PySem.W.keepIn X.K (.ref f) = true)
    (hb : ∀ (s : Shared) (us ws : List Value), X.K.In s.heap → us.length = n → ws.length = ks.length → BindsTo s fd ⟨us, ks.zip ws⟩ (ps.zip (us ++ ws))) (hx : ∀ σ, PassesAt (L2.CX X.prog X.w) X σ (Es σ))
    (ha : PA X (e :: es) t) (hkw : PK X kws tk)
    (hall : (backToKw pos (keywordEach kws X.env)).all (·.1.isSome) = true := by rfl) (hks : (backToKw pos (keywordEach kws X.env)).filterMap (·.1) = ks := by rfl) (hdb : (x == ("__debug__" : Str)) = false := by decide)
    (he : starEach (e :: es) X.env = (false, eval e X.env) :: starEach es X.env := by rfl) (hpl : ((backTo pos (starEach (e :: es) X.env)).any (·.1) || (backToKw pos (keywordEach kws X.env)).any (·.1.isNone)) = false := by rfl) :
    PE X (.Call (.Name x p) (e :: es) kws pos) (tCallKG n ks.length sp Es t tk) := by
  refine ⟨fun pins s σ H Q I h => ?_⟩
  refine wpAny_Call_Name_kw (ld_glob I hg hm ?_ hdb)
  refine PySem.W.callWith_KW (h₀ := X.base) I.ok.mod.kin kp hall (thn (ha.run pos pins s σ H _ I h) fun us s1 ⟨vs, H1, I1, r, q⟩ => ?_) hpl he
  refine thn (hkw.run pos pins s1 σ H1 _ I1 q) fun ws s2 ⟨zs, H2, I2, rz, l1, l2, q2⟩ => ⟨I2.kIn, ?_⟩
  rw [hks]
  have n1 : us.length = n := r.length.symm.trans l1
  have n2 : ws.length = ks.length := rz.length.symm.trans l2
  refine wpAny_call (codeAny_mono (G.run X.A X.stack s2 H2 ⟨us, ks.zip ws⟩ _ _ _ (Es σ) gu hr I2.env0 (hb s2 us ws I2.kIn n1 n2) (r.append rz) q2) fun r' s' hq => ?_)
  cases r' with
  | error er => exact hx σ pins H2 s2 er s' I2 hq
  | ok fl =>
    cases fl with
    | ret u => exact I2.after hq
    | next => exact hq.elim
    | brk => exact hq.elim
    | cont => exact hq.elim
end
section
variable {X : Cx} {W : Fix} {E0 : Addr → List D → Env' → Prop} {k k' n : Nat} {ps ks : List Str} {dds : List D} {spd : Spd} {x : Str} {p pos : Pos} {e : Expr} {es : List Expr} {kws : List Keyword} {t tk : TDA}
theorem de_cD (c : CalD X.prog X.w X.K X.mg X.base x k ps dds spd) (gu : X.A.guards = some []) (hr : Room k' X.A) (h : DA X W (e :: es) t) (hg : Gl X x := by exact rfl) (hk : k ≤ k' := by decide) (hdb : (x == ("__debug__" : Str)) = false := by decide)
    (he : starEach (e :: es) X.env = (false, eval e X.env) :: starEach es X.env := by rfl) (hpl : (backTo pos (starEach es X.env)).any (·.1) = false := by rfl) : DE X W (.Call (.Name x p) (e :: es) [] pos) (dCall spd dds (fun _ _ _ => False) t) := by
  obtain ⟨f, fd, dfs, dvs, G, hm, kp, b, hd, hdd⟩ := c.ex
  exact de_call G gu (hr.mono hk) hg hm kp b hd hdd h hdb he hpl
theorem de_cDX (te : TkE X W E0) (c : CalD X.prog X.w X.K X.mg X.base x k ps dds spd) (gu : X.A.guards = some []) (hr : Room k' X.A) (h : DA X W (e :: es) t) (hg : Gl X x := by exact rfl) (hk : k ≤ k' := by decide) (hdb : (x == ("__debug__" : Str)) = false := by decide)
    (he : starEach (e :: es) X.env = (false, eval e X.env) :: starEach es X.env := by rfl) (hpl : (backTo pos (starEach es X.env)).any (·.1) = false := by rfl) : DE X W (.Call (.Name x p) (e :: es) [] pos) (dCall spd dds E0 t) := by
  obtain ⟨f, fd, dfs, dvs, G, hm, kp, b, hd, hdd⟩ := c.ex
  exact de_callX te G gu (hr.mono hk) hg hm kp b hd hdd h hdb he hpl
def dCallK (n m : Nat) (spd : Spd) (Ew : Addr → List D → Env' → Prop) (t tk : TDA) : TD := fun δ Q => t δ fun ds δ1 => tk δ1 fun es δ2 => ds.length = n ∧ es.length = m ∧ spd ((ds ++ es).map .p) (fun b _ => b.isU = false ∧ Q b δ2) fun C es _ => Ew C es δ2
theorem de_cK (c : CalK X.prog X.w X.K X.mg X.base x k n ks spd) (gu : X.A.guards = some []) (hr : Room k' X.A) (h : DA X W (e :: es) t) (hkw : DK X W kws tk) (hg : Gl X x := by exact rfl) (hk : k ≤ k' := by decide)
    (hall : (backToKw pos (keywordEach kws X.env)).all (·.1.isSome) = true := by rfl) (hks : (backToKw pos (keywordEach kws X.env)).filterMap (·.1) = ks := by rfl) (hdb : (x == ("__debug__" : Str)) = false := by decide)
    (he : starEach (e :: es) X.env = (false, eval e X.env) :: starEach es X.env := by rfl) (hpl : ((backTo pos (starEach (e :: es) X.env)).any (·.1) || (backToKw pos (keywordEach kws X.env)).any (·.1.isNone)) = false := by rfl) :
    DE X W (.Call (.Name x p) (e :: es) kws pos) (dCallK n ks.length spd (fun _ _ _ => False) t tk) := by
  obtain ⟨f, fd, ps, G, hm, kp, kb⟩ := c.ex
  refine .of (pe_callKG (X := X) (tk := cK X kws) (Es := fun _ _ _ _ => False) gu G (hr.mono hk) hg hm kp kb (fun σ => pass_none) cA_pa ⟨fun pos pins s _ _ _ I h => h pos pins s I⟩ hall hks hdb he hpl) fun F H σ δ Q S q => ?_
  refine (h.run F H σ δ _ S q).imp fun vs H1 h1 => ?_
  obtain ⟨F1, ds, δ1, e1, S1, r1, q1⟩ := h1
  intro pos pins s I
  refine thn (hkw.run F1 H1 σ δ1 _ S1 q1 pos pins s I) fun ws s2 h2 => ?_
  obtain ⟨zs, H2, I2, rz, F2, es', δ2, e2, S2, r2, n1, n2, q2⟩ := h2
  refine ⟨zs, H2, I2, rz, by rw [r1.length]; exact n1, by rw [r2.length]; exact n2, F2, none, _, _, _, S2.fh, paired_p ((RpL.mono e2 _ _ r1).append r2), (fun p e => by cases e), q2, fun v H' F' b m a r z => ?_, fun cls d H' F' C ds m a er z => z.elim⟩
  obtain ⟨r3, r4⟩ := RB.of_res S2 r
  exact ⟨F', b, δ2, (e1.trans e2).trans a.ff, S2.after a, r3, r4, z.2⟩
theorem de_cKX (te : TkE X W E0) (c : CalK X.prog X.w X.K X.mg X.base x k n ks spd) (gu : X.A.guards = some []) (hr : Room k' X.A) (h : DA X W (e :: es) t) (hkw : DK X W kws tk) (hg : Gl X x := by exact rfl) (hk : k ≤ k' := by decide)
    (hall : (backToKw pos (keywordEach kws X.env)).all (·.1.isSome) = true := by rfl) (hks : (backToKw pos (keywordEach kws X.env)).filterMap (·.1) = ks := by rfl) (hdb : (x == ("__debug__" : Str)) = false := by decide)
    (he : starEach (e :: es) X.env = (false, eval e X.env) :: starEach es X.env := by rfl) (hpl : ((backTo pos (starEach (e :: es) X.env)).any (·.1) || (backToKw pos (keywordEach kws X.env)).any (·.1.isNone)) = false := by rfl) :
    DE X W (.Call (.Name x p) (e :: es) kws pos) (dCallK n ks.length spd E0 t tk) := by
  obtain ⟨f, fd, ps, G, hm, kp, kb⟩ := c.ex
  refine .of (pe_callKG (X := X) (tk := cK X kws) (Es := WE (WXd X.K W)) gu G (hr.mono hk) hg hm kp kb (fun σ => passAt te.tk σ) cA_pa ⟨fun pos pins s _ _ _ I h => h pos pins s I⟩ hall hks hdb he hpl) fun F H σ δ Q S q => ?_
  refine (h.run F H σ δ _ S q).imp fun vs H1 h1 => ?_
  obtain ⟨F1, ds, δ1, e1, S1, r1, q1⟩ := h1
  intro pos pins s I
  refine thn (hkw.run F1 H1 σ δ1 _ S1 q1 pos pins s I) fun ws s2 h2 => ?_
  obtain ⟨zs, H2, I2, rz, F2, es', δ2, e2, S2, r2, n1, n2, q2⟩ := h2
  refine ⟨zs, H2, I2, rz, by rw [r1.length]; exact n1, by rw [r2.length]; exact n2, F2, none, _, _, _, S2.fh, paired_p ((RpL.mono e2 _ _ r1).append r2), (fun p e => by cases e), q2, fun v H' F' b m a r z => ?_, fun cls d H' F' C ds m a er z => ?_⟩
  · obtain ⟨r3, r4⟩ := RB.of_res S2 r
    exact ⟨F', b, δ2, (e1.trans e2).trans a.ff, S2.after a, r3, r4, z.2⟩
  · exact ⟨F', δ2, C, ds, S2.after a, er, by rw [te.eq]; exact z⟩
end
end DD

set_option Elab.async false
set_option linter.all false
set_option maxRecDepth 100000
set_option maxHeartbeats 4000000
/-! DD30: what a slot holds, read without being shared; dicts with keys that are texts, ints, or tuples of such. -/
namespace DD
open PySem PySem.Spec PyProof.Rows L2

/-- data that stand at a value now: frozen, or owned by a slot -/
def Lk (K : PySem.W.Frag) (F H : Hp) (d : D) (v : V) : Prop := Rp K F d v ∨ ∃ a, v = .ref a ∧ Own K F H d a
section
variable {K : PySem.W.Frag} {W : Fix} {F H : Hp} {σ : L2.St} {δ : Env'}
theorem RB.lk {b : B} {v : V} (h : RB K W F H b v) (hb : b.isU = false) : Lk K F H b.d v := by
  cases b with
  | p d => exact .inl h
  | n ds =>
    obtain ⟨t, xs, rfl, h1, h2, _⟩ := h
    refine .inl (?_ : Rp K F (.tup ds) (.ref t))
    unfold Rp
    exact ⟨t, xs, rfl, h1, h2⟩
  | o d =>
    obtain ⟨a, rfl, _, _, h2⟩ := h
    exact .inr ⟨a, rfl, h2⟩
  | u w n => cases hb
  | s d => cases hb
theorem Lk.lst {ds : List D} {v : V} (e : Same F H) (h : Lk K F H (.lst ds) v) : ∃ a xs, v = .ref a ∧ H a = some (.lst xs) ∧ RpL K F ds xs := by
  rcases h with h | ⟨a, rfl, xs, h1, h2⟩
  · obtain ⟨a, xs, rfl, h1, h2⟩ := rpLst h
    exact ⟨a, xs, rfl, e _ _ h1, h2⟩
  · exact ⟨a, xs, rfl, h1, h2⟩
theorem Lk.dct {ks : List Key} {ds : List D} {v : V} (e : Same F H) (h : Lk K F H (.dct ks ds) v) : ∃ a xs, v = .ref a ∧ H a = some (.dK (ks.zip xs)) ∧ RpL K F ds xs ∧ ks.length = xs.length := by
  rcases h with h | ⟨a, rfl, xs, h1, h2⟩
  · unfold Rp at h
    obtain ⟨a, xs, rfl, h1, h2⟩ := h
    exact ⟨a, xs, rfl, e _ _ h1, h2⟩
  · exact ⟨a, xs, rfl, h1, h2⟩
theorem Lk.dcT {ks : List (List Key)} {ds : List D} {v : V} (e : Same F H) (h : Lk K F H (.dcT ks ds) v) : ∃ a xs, v = .ref a ∧ H a = some (.dT (ks.zip xs)) ∧ RpL K F ds xs ∧ ks.length = xs.length := by
  rcases h with h | ⟨a, rfl, xs, h1, h2⟩
  · unfold Rp at h
    obtain ⟨a, xs, rfl, h1, h2⟩ := h
    exact ⟨a, xs, rfl, e _ _ h1, h2⟩
  · exact ⟨a, xs, rfl, h1, h2⟩
/-- what is no list and no dict stands frozen -/
def solid : D → Bool
  | .lst _ => false
  | .dct _ _ => false
  | .dcT _ _ => false
  | .ins _ _ _ => false
  | .iset _ _ => false
  | _ => true
theorem Lk.rp {d : D} {v : V} (h : Lk K F H d v) (hd : solid d = true) : Rp K F d v := by
  rcases h with h | ⟨a, _, h⟩
  · exact h
  · cases d <;> first | (cases hd; done) | exact h.elim
end

/-! ### tables by keys -/
section
variable {κ : Type} [DecidableEq κ]
def lookG : List κ → List D → κ → Option D
  | k :: ks, d :: ds, j => if k = j then some d else lookG ks ds j
  | _, _, _ => none
/-- in its place, or at the end -/
def putG (ks : List κ) (ds : List D) (k : κ) (d : D) : List κ × List D :=
  if k ∈ ks then (ks, (ks.zip ds).map fun p => if p.1 = k then d else p.2) else (ks ++ [k], ds ++ [d])
theorem lookG_none : ∀ {ks : List κ} {ds : List D} {k : κ}, ks.length = ds.length → (lookG ks ds k = none ↔ k ∉ ks)
  | [], _, k, _ => by simp [lookG]
  | j :: ks, [], k, h => by simp at h
  | j :: ks, d :: ds, k, h => by
    unfold lookG
    by_cases e : j = k
    · rw [if_pos e, e]
      simp
    · rw [if_neg e, lookG_none (by simpa using h), List.mem_cons]
      constructor
      · rintro z (z1 | z1)
        · exact e z1.symm
        · exact z z1
      · exact fun z z1 => z (.inr z1)
variable {K : PySem.W.Frag} {F : Hp}
def GetR (K : PySem.W.Frag) (F : Hp) : Option D → Option V → Prop
  | some z, o => ∃ x, o = some x ∧ Rp K F z x
  | none, o => o = none
theorem lookG_val : ∀ {ks : List κ} {ds : List D} {xs : List V} {k : κ}, ks.length = xs.length → RpL K F ds xs →
    GetR K F (lookG ks ds k) (valV (ks.zip xs) k)
  | [], ds, xs, k, _, _ => by
    simp [lookG, valV, GetR]
  | j :: ks, [], xs, k, hl, r => by
    unfold RpL at r
    subst r
    simp at hl
  | j :: ks, d :: ds, xs, k, hl, r => by
    unfold RpL at r
    obtain ⟨x, xr, rfl, r1, r2⟩ := r
    rw [List.zip_cons_cons]
    unfold lookG
    by_cases e : j = k
    · rw [if_pos e]
      exact ⟨x, valV_pos e, r1⟩
    · rw [if_neg e, valV_neg e]
      exact lookG_val (by simpa using hl) r2
theorem rpL_upd {k : κ} {d : D} {x : V} (hx : Rp K F d x) : ∀ {ks : List κ} {ds : List D} {xs : List V}, ks.length = xs.length → RpL K F ds xs → RpL K F ((ks.zip ds).map fun p => if p.1 = k then d else p.2) ((ks.zip xs).map fun p => if p.1 = k then x else p.2)
  | [], ds, xs, _, _ => .nil
  | j :: ks, [], xs, hl, r => by
    unfold RpL at r
    subst r
    simp at hl
  | j :: ks, d' :: ds, xs, hl, r => by
    unfold RpL at r
    obtain ⟨y, yr, rfl, r1, r2⟩ := r
    rw [List.zip_cons_cons, List.zip_cons_cons, List.map_cons, List.map_cons]
    refine .cons ?_ (rpL_upd hx (by simpa using hl) r2)
    by_cases e : j = k
    · rw [if_pos e, if_pos e]
      exact hx
    · rw [if_neg e, if_neg e]
      exact r1
theorem any_mem {ks : List κ} {xs : List V} {k : κ} (hl : ks.length = xs.length) : ((ks.zip xs).any fun kv => decide (kv.1 = k)) = decide (k ∈ ks) := by
  rw [Bool.eq_iff_iff, List.any_eq_true, decide_eq_true_eq]
  constructor
  · rintro ⟨⟨j, x⟩, hm, e⟩
    have := of_decide_eq_true e
    rw [← show j = k from this]
    exact (List.of_mem_zip hm).1
  · intro h
    obtain ⟨i, hi, rfl⟩ := List.getElem_of_mem h
    have hx : i < xs.length := hl ▸ hi
    refine ⟨(ks[i], xs[i]), ?_, by simp⟩
    rw [List.mem_iff_getElem]
    exact ⟨i, by rw [List.length_zip]; omega, List.getElem_zip⟩
theorem zip_upd {k : κ} {x : V} : ∀ {ks : List κ} {xs : List V}, ks.length = xs.length → (ks.zip xs).map (fun kv => if kv.1 = k then (kv.1, x) else kv) = ks.zip ((ks.zip xs).map fun p => if p.1 = k then x else p.2)
  | [], _, _ => rfl
  | _ :: _, [], h => by simp at h
  | j :: ks, y :: xs, h => by
    rw [List.zip_cons_cons, List.map_cons, List.map_cons, List.zip_cons_cons, zip_upd (by simpa using h)]
    by_cases e : j = k
    · rw [if_pos e, if_pos e]
    · rw [if_neg e, if_neg e]
theorem putG_put {ks : List κ} {ds : List D} {xs : List V} {k : κ} {d : D} {x : V} (hl : ks.length = xs.length) (r : RpL K F ds xs) (hx : Rp K F d x) :
    ∃ ys, putK (ks.zip xs) k x = (putG ks ds k d).1.zip ys ∧ RpL K F (putG ks ds k d).2 ys ∧ (putG ks ds k d).1.length = ys.length := by
  unfold putK putG
  rw [any_mem hl]
  by_cases h : k ∈ ks
  · rw [if_pos (decide_eq_true h), if_pos h]
    refine ⟨(ks.zip xs).map fun p => if p.1 = k then x else p.2, ?_, rpL_upd hx hl r, ?_⟩
    · exact zip_upd hl
    · show ks.length = _
      rw [List.length_map, List.length_zip, hl]
      omega
  · rw [if_neg (by simpa using h), if_neg h]
    exact ⟨xs ++ [x], by rw [List.zip_append hl]; rfl, r.append (.cons hx .nil), by rw [List.length_append, List.length_append, hl]; rfl⟩
end

/-! ### items by keys -/
def keyL : List D → Option (List Key)
  | [] => some []
  | d :: ds => match keyD d, keyL ds with
    | some k, some ks => some (k :: ks)
    | _, _ => none
def keyT : D → Option (List Key)
  | .tup ds => keyL ds
  | _ => none
theorem keyL_vals {K : PySem.W.Frag} {F : Hp} : ∀ {ds : List D} {xs : List V} {ks : List Key}, RpL K F ds xs → keyL ds = some ks → xs = ks.map kV
  | [], xs, ks, r, h => by
    unfold RpL at r
    cases h
    rw [r]
    rfl
  | d :: ds, xs, ks, r, h => by
    unfold RpL at r
    obtain ⟨x, xr, rfl, r1, r2⟩ := r
    unfold keyL at h
    cases h1 : keyD d with
    | none =>
      rw [h1] at h
      cases h
    | some k =>
      cases h2 : keyL ds with
      | none =>
        rw [h1, h2] at h
        cases h
      | some ks' =>
        rw [h1, h2] at h
        cases h
        rw [rp_key r1 h1, keyL_vals r2 h2]
        rfl
/-- the value at a key, if it is there; none: no such table or key -/
def getD' : D → D → Option (Option D)
  | .dct ks ds, y => (keyD y).map fun k => lookG ks ds k
  | .dcT ks ds, y => (keyT y).map fun k => lookG ks ds k
  | _, _ => none
section
variable {K : PySem.W.Frag} {F H : Hp}
theorem lk_get {d y : D} {v u : V} {r : Option D} (e : Same F H) (h : Lk K F H d v) (hy : Rp K F y u) (g : getD' d y = some r) :
    ∃ a, v = .ref a ∧ ∃ o, DGet H a u o ∧ GetR K F r o := by
  cases d <;> first | (cases g; done) | skip
  · rename_i ks ds
    obtain ⟨a, xs, rfl, h1, h2, h3⟩ := h.dct e
    have g : (keyD y).map (fun k => lookG ks ds k) = some r := g
    cases hk : keyD y with
    | none =>
      rw [hk] at g
      cases g
    | some k =>
      rw [hk] at g
      cases g
      rw [rp_key hy hk]
      exact ⟨a, rfl, _, DGet.k h1, lookG_val (k := k) h3 h2⟩
  · rename_i ks ds
    obtain ⟨a, xs, rfl, h1, h2, h3⟩ := h.dcT e
    have g : (keyT y).map (fun k => lookG ks ds k) = some r := g
    cases hk : keyT y with
    | none =>
      rw [hk] at g
      cases g
    | some k =>
      rw [hk] at g
      cases g
      cases y <;> first | (cases hk; done) | skip
      rename_i ts
      have hk : keyL ts = some k := hk
      obtain ⟨b, ys, rfl, g1, g2⟩ := rpTupS hy
      rw [keyL_vals g2 hk] at g1
      exact ⟨a, rfl, _, DGet.t h1 (e _ _ g1), lookG_val (k := k) h3 h2⟩
end

/-! ### operations of two values, the one at a slot -/
/-- what an operation does over data, where it changes nothing -/
def RL (K : PySem.W.Frag) (r : R2) (g : D → D → (D → Prop) → Prop) : Prop :=
  ∀ (F H : Hp) (x y : V) (c d : D) (Q : D → Prop) (Z : VK), Same F H → Lk K F H c x → Lk K F H d y → g c d Q → (∀ v k, Rp K F k v → Q k → Z v H) → r x y H Z
/-- a slot's data, where nothing of it is shared by the look -/
def slotD (i : Nat) (δ : Env') (Q : D → Prop) : Prop := ∃ b, δ[i]? = some (some b) ∧ b.isU = false ∧ Q b.d
def dNL (i : Nat) (g : D → D → (D → Prop) → Prop) (tb : TD) : TD := fun δ Q => slotD i δ (fun _ => True) ∧ dp tb δ fun y δ1 => slotD i δ1 fun c => g c y fun k => Q (.p k) δ1
def dNR (j : Nat) (g : D → D → (D → Prop) → Prop) (ta : TD) : TD := fun δ Q => dp ta δ fun c δ1 => slotD j δ1 fun y => g c y fun k => Q (.p k) δ1
section
variable {X : Cx} {W : Fix} {a b : Expr} {ta tb : TD} {i j : Nat} {x : Str} {p pos : Pos} {r : R2} {g : D → D → (D → Prop) → Prop}
theorem slot_lk {K : PySem.W.Frag} {F H : Hp} {σ : L2.St} {δ : Env'} {Q : D → Prop} (S : SD K W F H σ δ) (h : slotD i δ Q) : ∃ v d, σ[i]? = some (some v) ∧ Lk K F H d v ∧ Q d := by
  obtain ⟨b, h1, h2, q⟩ := h
  obtain ⟨v, h3, h4⟩ := S.get i b h1
  exact ⟨v, b.d, h3, h4.lk h2, q⟩
theorem twoNL {F H : Hp} {σ : L2.St} {δ : Env'} {Q : B → Env' → Prop} (hb : DE X W b tb) (hr : RL X.K r g) (S : SD X.K W F H σ δ) (q : dNL i g tb δ Q) {Z : VK} (hZ : ∀ v H', DQ X.K W F σ Q v H' → Z v H') :
    tOp r (tVar i) (cE X b) σ H Z := by
  obtain ⟨q0, q⟩ := q
  obtain ⟨v0, d0, h0, _, _⟩ := slot_lk S q0
  refine ⟨v0, h0, (hb.plain S q).imp fun y H2 h2 => ?_⟩
  obtain ⟨F2, d, δ2, e2, S2, r2, q2⟩ := h2
  obtain ⟨v, c, h3, h4, q3⟩ := slot_lk S2 q2
  rw [h0] at h3
  cases h3
  exact hr F2 H2 v0 y c d _ _ S2.fh h4 (.inl r2) q3 fun w k rk qk => hZ _ _ ⟨F2, .p k, δ2, e2, S2, rk, (fun z => by cases z), qk⟩
theorem twoNR {F H : Hp} {σ : L2.St} {δ : Env'} {Q : B → Env' → Prop} (ha : DE X W a ta) (hr : RL X.K r g) (S : SD X.K W F H σ δ) (q : dNR j g ta δ Q) {Z : VK} (hZ : ∀ v H', DQ X.K W F σ Q v H' → Z v H') :
    tOp r (cE X a) (tVar j) σ H Z := by
  refine (ha.plain S q).imp fun y H2 h2 => ?_
  obtain ⟨F2, c, δ2, e2, S2, r2, q2⟩ := h2
  obtain ⟨v, d, h3, h4, q3⟩ := slot_lk S2 q2
  exact ⟨v, h3, hr F2 H2 y v c d _ _ S2.fh (.inl r2) h4 q3 fun w k rk qk => hZ _ _ ⟨F2, .p k, δ2, e2, S2, rk, (fun z => by cases z), qk⟩⟩
theorem tB_of {F H : Hp} {σ : L2.St} {Q : Bool → Env' → Prop} {v : V} (h : DQ X.K W F σ (fun b δ' => ∃ k, b = .p (.bl k) ∧ Q k δ') v H) : ∃ k, v = .bl k ∧ TQ X.K W F σ Q k H := by
  obtain ⟨F3, b, δ3, e3, S3, r3, _, k, rfl, q3⟩ := h
  have r3 : Rp X.K F3 (.bl k) v := r3
  exact ⟨k, rpBl r3, F3, δ3, e3, S3, q3⟩
theorem de_cmpNL {op : CmpOp} (ho : OpR X (compareOp op) r) (hr : RL X.K r g) (hN : X.N[i]? = some x) (hv : Vis X.env.scope x) (hb : DE X W b tb) (hm : behindInMarks op b = false)
    (hd : (x == ("__debug__" : Str)) = false := by decide) (hcd : (x == ("__classdict__" : Str)) = false := by decide) : DE X W (.Compare (.Name x p) [op] [b] pos) (dNL i g tb) :=
  .of (pe_cmpR ho (pe_var (X := X) hN hv hd hcd) cE_pe hm) fun _ _ _ _ _ S q => twoNL hb hr S q fun _ _ h => h
theorem de_cmpNR {op : CmpOp} (ho : OpR X (compareOp op) r) (hr : RL X.K r g) (hN : X.N[j]? = some x) (hv : Vis X.env.scope x) (ha : DE X W a ta) (hm : behindInMarks op (.Name x p) = false)
    (hd : (x == ("__debug__" : Str)) = false := by decide) (hcd : (x == ("__classdict__" : Str)) = false := by decide) : DE X W (.Compare a [op] [.Name x p] pos) (dNR j g ta) :=
  .of (pe_cmpR ho cE_pe (pe_var (X := X) hN hv hd hcd) hm) fun _ _ _ _ _ S q => twoNR ha hr S q fun _ _ h => h
end
end DD

set_option Elab.async false
set_option linter.all false
set_option maxRecDepth 100000
set_option maxHeartbeats 4000000
/-! DD31: ==, in, [], len, get of what a slot holds, without sharing it; stores and list methods on what a slot owns. -/
namespace DD
open PySem PySem.Spec PyProof.Rows L2
section
variable {K : PySem.W.Frag} {F H : Hp}
theorem Lk.dp {d : D} {v : V} {c : PyData} (e : Same F H) (h : Lk K F H d v) (t : toPy d = some c) : Dp K H v c := by
  rcases h with h | ⟨a, rfl, h⟩
  · exact Rp.dp e d v c h t
  · cases d <;> first | exact h.elim | (cases t; done) | skip
    obtain ⟨xs, h1, h2⟩ := h
    unfold toPy at t
    rename_i ds
    cases q : toPyL ds with
    | none =>
      rw [q] at t
      cases t
    | some cs =>
      rw [q] at t
      cases t
      exact .lst (SqL.of h1) (RpL.dp e ds xs cs h2 q)
theorem Lk.flat {d : D} {v : V} (h : Lk K F H d v) (f : flatD d = true) : v = flatV' d ∧ flatV v = true := by
  refine rpFlat (F := F) (h.rp ?_) f
  cases d <;> first | rfl | cases f
def eqL (c d : D) (Q : D → Prop) : Prop := ∃ b, eqD c d = some b ∧ Q (.bl b)
def neL (c d : D) (Q : D → Prop) : Prop := ∃ b, eqD c d = some b ∧ Q (.bl (!b))
theorem rl_eq : RL K (rEqAll K) eqL := by
  intro F H x y c d Q Z e lc ld g hZ
  obtain ⟨b, hb, q⟩ := g
  rcases eqD_cases hb with ⟨f1, f2, f3, rfl⟩ | ⟨c', d', t1, t2, s1, s2, rfl⟩
  · obtain ⟨e1, g1⟩ := lc.flat f1
    obtain ⟨e2, g2⟩ := ld.flat f2
    refine .inl ⟨by rw [e1, e2]; exact f3, ?_⟩
    refine hZ _ (.bl _) (rp_bl) ?_
    rw [e1, e2]
    exact q
  · exact .inr ⟨c', d', lc.dp e t1, ld.dp e t2, s1, s2, hZ _ (.bl _) rp_bl q⟩
theorem rl_ne : RL K (rNeAll K) neL := by
  intro F H x y c d Q Z e lc ld g hZ
  obtain ⟨b, hb, q⟩ := g
  rcases eqD_cases hb with ⟨f1, f2, f3, rfl⟩ | ⟨c', d', t1, t2, s1, s2, rfl⟩
  · obtain ⟨e1, g1⟩ := lc.flat f1
    obtain ⟨e2, g2⟩ := ld.flat f2
    refine .inl ⟨by rw [e1, e2]; exact f3, ?_⟩
    refine hZ _ (.bl _) (rp_bl) ?_
    rw [e1, e2]
    exact q
  · exact .inr ⟨c', d', lc.dp e t1, ld.dp e t2, s1, s2, hZ _ (.bl _) rp_bl q⟩
/-! ### in -/
def isInX (c d : D) : Option Bool := match getD' d c with
  | some r => some r.isSome
  | none => match d with
    | .lst ds => if (flatD c && ds.all flatD) = true then some (inD c ds) else none
    | .tup ds => if (flatD c && ds.all flatD) = true then some (inD c ds) else none
    | .cst ds => if (flatD c && ds.all flatD) = true then some (inD c ds) else none
    | .str z => (signOf c).map fun c => decide (c ∈ z.cps.toList)
    | _ => none
def rInX (K : PySem.W.Frag) (neg : Bool) : R2 := fun x y H Q => rInAll K neg x y H Q ∨ ∃ a o, y = .ref a ∧ DGet H a x o ∧ Q (.bl (if neg then !o.isSome else o.isSome)) H
theorem op_inX {X : Cx} (hu : X.A.units + 64 < cLine) : OpR X (compareOp .In) (rInX X.K false) := by
  intro pins s σ H x y v u Q I rx ry h
  rcases h with h | ⟨a, o, rfl, g, q⟩
  · exact op_inAll pins s σ H x y v u Q I rx ry h
  · cases ry
    exact d_in (by omega) I g rx fun s' I' => ⟨.bl _, H, I', rfl, q⟩
theorem op_notInX {X : Cx} (hu : X.A.units + 64 < cLine) : OpR X (compareOp .NotIn) (rInX X.K true) := by
  intro pins s σ H x y v u Q I rx ry h
  rcases h with h | ⟨a, o, rfl, g, q⟩
  · exact op_notInAll pins s σ H x y v u Q I rx ry h
  · cases ry
    exact d_notIn (by omega) I g rx fun s' I' => ⟨.bl _, H, I', rfl, q⟩
def inL (neg : Bool) (c d : D) (Q : D → Prop) : Prop := ∃ b, isInX c d = some b ∧ Q (.bl (if neg then !b else b))
theorem GetR.some_eq {r : Option D} {o : Option V} (h : GetR K F r o) : o.isSome = r.isSome := by
  cases r with
  | none =>
    have : o = none := h
    rw [this]
    rfl
  | some z =>
    obtain ⟨x, rfl, _⟩ := (h : ∃ x, o = some x ∧ Rp K F z x)
    rfl
theorem Lk.seq {d : D} {v : V} {ds : List D} (e : Same F H) (h : Lk K F H d v) (hd : d = .lst ds ∨ d = .tup ds ∨ d = .cst ds) : ∃ a xs, v = .ref a ∧ (SqL K H a xs ∨ SqT K H a xs) ∧ RpL K F ds xs := by
  rcases hd with rfl | rfl | rfl
  · obtain ⟨a, xs, rfl, h1, h2⟩ := h.lst e
    exact ⟨a, xs, rfl, .inl (SqL.of h1), h2⟩
  · obtain ⟨a, xs, rfl, h1, h2⟩ := rpTup (h.rp rfl)
    exact ⟨a, xs, rfl, .inr (sqT_mono e h1), h2⟩
  · obtain ⟨a, xs, rfl, h1, h2⟩ := rpCst (h.rp rfl)
    exact ⟨a, xs, rfl, .inr (sqT_mono e h1), h2⟩
theorem rl_in {neg : Bool} : RL K (rInX K neg) (inL neg) := by
  intro F H x y c d Q Z e lc ld g hZ
  obtain ⟨b, hb, q⟩ := g
  unfold isInX at hb
  cases hg : getD' d c with
  | some r =>
    rw [hg] at hb
    cases hb
    have rc : Rp K F c x := lc.rp (by
      cases d <;> first | (cases hg; done) | skip
      all_goals cases c <;> first | rfl | (cases hg; done))
    obtain ⟨a, rfl, o, h1, h2⟩ := lk_get e ld rc hg
    refine .inr ⟨a, o, rfl, h1, hZ _ (.bl _) rp_bl ?_⟩
    rw [h2.some_eq]
    exact q
  | none =>
    rw [hg] at hb
    have fin : ∀ ds : List D, (d = .lst ds ∨ d = .tup ds ∨ d = .cst ds) → (if (flatD c && ds.all flatD) = true then some (inD c ds) else none) = some b → rInX K neg x y H Z := fun ds hd hb => by
      by_cases h1 : (flatD c && ds.all flatD) = true
      · rw [if_pos h1] at hb
        cases hb
        rw [Bool.and_eq_true] at h1
        obtain ⟨p, xs, rfl, h2, h3⟩ := ld.seq e hd
        obtain ⟨e1, e2⟩ := lc.flat h1.1
        obtain ⟨e3, e4⟩ := rpL_flat h3 h1.2
        refine .inl (.inl ⟨p, xs, rfl, h2, e2, e4, hZ _ (.bl _) rp_bl ?_⟩)
        rw [e1, e3]
        exact q
      · rw [if_neg h1] at hb
        cases hb
    cases d <;> first | (cases hb; done) | skip
    · rename_i z
      have hb : (signOf c).map (fun c => decide (c ∈ z.cps.toList)) = some b := hb
      cases hs : signOf c with
      | none =>
        rw [hs] at hb
        cases hb
      | some n =>
        rw [hs] at hb
        cases hb
        have ec := sign_of hs
        subst ec
        exact .inl (.inr (.inl ⟨n, z, rpStr (lc.rp rfl), rpStr (ld.rp rfl), hZ _ (.bl _) rp_bl q⟩))
    · exact fin _ (.inl rfl) hb
    · exact fin _ (.inr (.inl rfl)) hb
    · exact fin _ (.inr (.inr rfl)) hb
/-! ### [] -/
def itemX (c y : D) : Option D := match getD' c y with
  | some r => r
  | none => match c with
    | .lst ds => match y with
      | .int i => atI ds i
      | _ => none
    | .tup ds => match y with
      | .int i => atI ds i
      | _ => none
    | .cst ds => match y with
      | .int i => atI ds i
      | _ => none
    | .str z => match y with
      | .int i => if z.length ≤ sizeLine then (atI z.cps.toList i).map fun c => D.str ⟨#[c]⟩ else none
      | _ => none
    | .scr ns => match y with
      | .int i => (atI ns i).map D.int
      | _ => none
    | _ => none
def rIxX (K : PySem.W.Frag) : R2 := fun x y H Q => rIx K x y H Q ∨ rIxDct x y H Q
def ixL (c y : D) (Q : D → Prop) : Prop := ∃ d, itemX c y = some d ∧ Q d
theorem rl_ix : RL K (rIxX K) ixL := by
  intro F H x y c d Q Z e lc ld g hZ
  obtain ⟨r, hb, q⟩ := g
  unfold itemX at hb
  cases hg : getD' c d with
  | some z =>
    rw [hg] at hb
    have hb : z = some r := hb
    subst hb
    have rd : Rp K F d y := ld.rp (by
      cases c <;> first | (cases hg; done) | skip
      all_goals cases d <;> first | rfl | (cases hg; done))
    obtain ⟨a, rfl, o, h1, x', rfl, h2⟩ := lk_get e lc rd hg
    exact .inr ⟨a, x', rfl, h1, hZ _ r h2 q⟩
  | none =>
    rw [hg] at hb
    have fin : ∀ (ds : List D) (i : Int), (c = .lst ds ∨ c = .tup ds ∨ c = .cst ds) → d = .int i → atI ds i = some r → rIxX K x y H Z := fun ds i hd hi hb2 => by
      obtain ⟨p, xs, rfl, h2, h3⟩ := lc.seq e hd
      subst hi
      have ey := rpInt (ld.rp rfl)
      subst ey
      obtain ⟨v, h4, h5⟩ := rpL_atI h3 hb2
      rcases h2 with h2 | h2
      · exact .inl (.inl ⟨p, xs, _, v, rfl, rfl, h2, h4, hZ _ r h5 q⟩)
      · exact .inl (.inr (.inl ⟨p, xs, _, v, rfl, rfl, h2, h4, hZ _ r h5 q⟩))
    cases c <;> first | (cases hb; done) | skip
    all_goals cases d <;> first | (cases hb; done) | skip
    · rename_i z i
      have hb : (if z.length ≤ sizeLine then (atI z.cps.toList i).map fun c => D.str ⟨#[c]⟩ else none) = some r := hb
      by_cases hz : z.length ≤ sizeLine
      · rw [if_pos hz] at hb
        cases e : atI z.cps.toList i with
        | none =>
          rw [e] at hb
          cases hb
        | some c =>
          rw [e] at hb
          cases hb
          exact .inl (.inr (.inr ⟨z, i, c, rpStr (lc.rp rfl), rpInt (ld.rp rfl), hz, e, hZ _ (.str ⟨#[c]⟩) rp_str q⟩))
      · rw [if_neg hz] at hb
        cases hb
    · exact fin _ _ (.inl rfl) rfl hb
    · exact fin _ _ (.inr (.inl rfl)) rfl hb
    · rename_i ns j
      have hb : (atI ns j).map D.int = some r := hb
      have rc : Rp K F (.scr ns) x := lc.rp rfl
      unfold Rp at rc
      obtain ⟨a, rfl, h1⟩ := rc
      cases e : atI ns j with
      | none =>
        rw [e] at hb
        cases hb
      | some m =>
        rw [e] at hb
        cases hb
        have em : atI (ns.map V.int) j = some (.int m) := by
          unfold atI at e ⊢
          rw [List.length_map]
          cases g : ixN ns.length j with
          | none =>
            rw [g] at e
            cases e
          | some l =>
            rw [g] at e
            have e : ns[l]? = some m := e
            show (ns.map V.int)[l]? = _
            rw [List.getElem?_map, e]
            rfl
        exact .inl (.inl ⟨a, _, _, _, rfl, rpInt (ld.rp rfl), (by assumption : Same F H).seq h1.seq, em, hZ _ (.int m) rp_int q⟩)
    · exact fin _ _ (.inr (.inr rfl)) rfl hb
/-! ### len -/
def lenX : D → Option Nat
  | .lst ds => some ds.length
  | .tup ds => some ds.length
  | .cst ds => some ds.length
  | .dct ks _ => some ks.length
  | .dcT ks _ => some ks.length
  | .str s => if s.length ≤ sizeLine then some s.length else none
  | _ => none
def rLenX (K : PySem.W.Frag) : List V → Hp → VK → Prop := fun xs H Q => rLenAll K xs H Q ∨ (∃ a kvs, xs = [V.ref a] ∧ H a = some (.dK kvs) ∧ Q (.int kvs.length) H) ∨ rLenT xs H Q
theorem cr_lenX {X : Cx} : CallR X (.builtin "len") (rLenX X.K) := by
  intro pins s σ H xs us Q I r h
  rcases h with h | h | h
  · exact cr_lenAll pins s σ H xs us Q I r h
  · exact call_lenD pins s σ H xs us Q I r h
  · exact call_len_dT pins s σ H xs us Q I r h
theorem lk_len {d : D} {v : V} {n : Nat} {Z : VK} (e : Same F H) (h : Lk K F H d v) (hn : lenX d = some n) (hZ : Z (.int (n : Nat)) H) : rLenX K [v] H Z := by
  have fin : ∀ ds : List D, (d = .lst ds ∨ d = .tup ds ∨ d = .cst ds) → ds.length = n → rLenX K [v] H Z := fun ds hd hl => by
    obtain ⟨p, xs, rfl, h2, h3⟩ := h.seq e hd
    refine .inl (.inl ⟨p, xs, rfl, h2, ?_⟩)
    rw [h3.length, hl]
    exact hZ
  cases d <;> first | (cases hn; done) | skip
  · rename_i s
    have hn : (if s.length ≤ sizeLine then some s.length else none) = some n := hn
    by_cases hz : s.length ≤ sizeLine
    · rw [if_pos hz] at hn
      cases hn
      exact .inl (.inr ⟨s, by rw [rpStr (h.rp rfl)], hz, hZ⟩)
    · rw [if_neg hz] at hn
      cases hn
  · exact fin _ (.inl rfl) (Option.some.inj hn)
  · exact fin _ (.inr (.inl rfl)) (Option.some.inj hn)
  · cases hn
    obtain ⟨a, xs, rfl, h1, h2, h3⟩ := h.dct e
    refine .inr (.inl ⟨a, _, rfl, h1, ?_⟩)
    rw [List.length_zip, h3, Nat.min_self, ← h3]
    exact hZ
  · exact fin _ (.inr (.inr rfl)) (Option.some.inj hn)
  · cases hn
    obtain ⟨a, xs, rfl, h1, h2, h3⟩ := h.dcT e
    refine .inr (.inr ⟨a, _, rfl, h1, ?_⟩)
    rw [List.length_zip, h3, Nat.min_self, ← h3]
    exact hZ
end

/-! ### the rules -/
section
variable {X : Cx} {W : Fix} {a b e f : Expr} {ta tb te tf : TD} {i j : Nat} {x y : Str} {p p2 pos apos : Pos} {r : R2} {g : D → D → (D → Prop) → Prop}
theorem de_cmpL {op : CmpOp} (i : Nat) (ho : OpR X (compareOp op) r) (hr : RL X.K r g) (hb : DE X W b tb) (hN : X.N[i]? = some x := by rfl) (hv : Vis X.env.scope x := by first | exact Or.inl rfl | exact Or.inr (Or.inl rfl) | exact Or.inr (Or.inr rfl)) (hm : behindInMarks op b = false := by rfl)
    (hd : (x == ("__debug__" : Str)) = false := by decide) (hcd : (x == ("__classdict__" : Str)) = false := by decide) : DE X W (.Compare (.Name x p) [op] [b] pos) (dNL i g tb) := de_cmpNL ho hr hN hv hb hm hd hcd
theorem dt_cmpL {op : CmpOp} (i : Nat) (ho : OpR X (compareOp op) r) (hr : RL X.K r g) (hb : DE X W b tb) (hN : X.N[i]? = some x := by rfl) (hv : Vis X.env.scope x := by first | exact Or.inl rfl | exact Or.inr (Or.inl rfl) | exact Or.inr (Or.inr rfl)) (hm : behindInMarks op b = false := by rfl)
    (hd : (x == ("__debug__" : Str)) = false := by decide) (hcd : (x == ("__classdict__" : Str)) = false := by decide) : DT X W (.Compare (.Name x p) [op] [b] pos) (dT (dNL i g tb)) :=
  ⟨fun F H σ δ Q S q => cT_of (pt_cmpR ho (pe_var (X := X) hN hv hd hcd) cE_pe hm) (twoNL (Q := fun b δ' => ∃ k, b = .p (.bl k) ∧ Q k δ') hb hr S q fun _ _ h => tB_of h)⟩
theorem de_cmpR {op : CmpOp} (j : Nat) (ho : OpR X (compareOp op) r) (hr : RL X.K r g) (ha : DE X W a ta) (hN : X.N[j]? = some x := by rfl) (hv : Vis X.env.scope x := by first | exact Or.inl rfl | exact Or.inr (Or.inl rfl) | exact Or.inr (Or.inr rfl)) (hm : behindInMarks op (.Name x p) = false := by rfl)
    (hd : (x == ("__debug__" : Str)) = false := by decide) (hcd : (x == ("__classdict__" : Str)) = false := by decide) : DE X W (.Compare a [op] [.Name x p] pos) (dNR j g ta) := de_cmpNR ho hr hN hv ha hm hd hcd
theorem dt_cmpR {op : CmpOp} (j : Nat) (ho : OpR X (compareOp op) r) (hr : RL X.K r g) (ha : DE X W a ta) (hN : X.N[j]? = some x := by rfl) (hv : Vis X.env.scope x := by first | exact Or.inl rfl | exact Or.inr (Or.inl rfl) | exact Or.inr (Or.inr rfl)) (hm : behindInMarks op (.Name x p) = false := by rfl)
    (hd : (x == ("__debug__" : Str)) = false := by decide) (hcd : (x == ("__classdict__" : Str)) = false := by decide) : DT X W (.Compare a [op] [.Name x p] pos) (dT (dNR j g ta)) :=
  ⟨fun F H σ δ Q S q => cT_of (pt_cmpR ho cE_pe (pe_var (X := X) hN hv hd hcd) hm) (twoNR (Q := fun b δ' => ∃ k, b = .p (.bl k) ∧ Q k δ') ha hr S q fun _ _ h => tB_of h)⟩
theorem de_ixN (i : Nat) (hu : X.A.units + 64 < cLine) (hb : DE X W b tb) (hs : PlainIx b) (hN : X.N[i]? = some x := by rfl) (hv : Vis X.env.scope x := by first | exact Or.inl rfl | exact Or.inr (Or.inl rfl) | exact Or.inr (Or.inr rfl))
    (hd : (x == ("__debug__" : Str)) = false := by decide) (hcd : (x == ("__classdict__" : Str)) = false := by decide) : DE X W (.Subscript (.Name x p) b pos) (dNL i ixL tb) :=
  .of (pe_ix (X := X) (ix_seq.or (ix_dct hu)) (pe_var (X := X) hN hv hd hcd) cE_pe hs) fun _ _ _ _ _ S q => twoNL hb rl_ix S q fun _ _ h => h
/-- len(x) -/
def dLenN (i : Nat) : TD := fun δ Q => slotD i δ fun d => ∃ n, lenX d = some n ∧ Q (.p (.int (n : Nat))) δ
theorem de_lenN (i : Nat) (hm : X.mg "len" = none) (hN : X.N[i]? = some x := by rfl) (hv : Vis X.env.scope x := by first | exact Or.inl rfl | exact Or.inr (Or.inl rfl) | exact Or.inr (Or.inr rfl)) (hg : Gl X "len" := by exact rfl)
    (hd : (x == ("__debug__" : Str)) = false := by decide) (hcd : (x == ("__classdict__" : Str)) = false := by decide) (he : starEach [.Name x p] X.env = (false, eval (.Name x p) X.env) :: starEach [] X.env := by rfl) (hpl : (backTo pos (starEach [] X.env)).any (·.1) = false := by rfl) :
    DE X W (.Call (.Name "len" p2) [.Name x p] [] pos) (dLenN i) :=
  .of (pe_callB (X := X) cr_lenX hg hm bt_len (pa_cons (pe_var (X := X) hN hv hd hcd) pa_nil he) (by decide) (by decide) he hpl) fun F H σ δ Q S q => by
    obtain ⟨v, d, h1, h2, n, hn, q⟩ := slot_lk S q
    exact ⟨v, h1, lk_len S.fh h2 hn ⟨F, .p (.int (n : Nat)), δ, Same.refl F, S, (show Rp X.K F (.int (n : Nat)) (.int (n : Nat)) from rp_int), (fun z => by cases z), q⟩⟩
/-- x.get(e, f) -/
def dGet2 (i : Nat) (te tf : TD) : TD := fun δ Q => slotD i δ (fun d => (∃ ks ds, d = .dct ks ds) ∨ ∃ ks ds, d = .dcT ks ds) ∧ dp te δ fun y δ1 => dp tf δ1 fun z δ2 => slotD i δ2 fun d => ∃ r, getD' d y = some r ∧ Q (.p (r.getD z)) δ2
theorem lk_isD {K : PySem.W.Frag} {F H : Hp} {d : D} {v : V} (e : Same F H) (h : Lk K F H d v) (hd : (∃ ks ds, d = .dct ks ds) ∨ ∃ ks ds, d = .dcT ks ds) : ∃ a, v = .ref a ∧ IsD H a := by
  rcases hd with ⟨ks, ds, rfl⟩ | ⟨ks, ds, rfl⟩
  · obtain ⟨a, xs, rfl, h1, _⟩ := h.dct e
    exact ⟨a, rfl, .inl ⟨_, .inl h1⟩⟩
  · obtain ⟨a, xs, rfl, h1, _⟩ := h.dcT e
    exact ⟨a, rfl, .inr ⟨_, .inl h1⟩⟩
theorem de_get2 (i : Nat) (hu : X.A.units + 64 < cLine) (he : DE X W e te) (hf : DE X W f tf) (m : M2 X (.Name x p) "get" apos e f pos) (hN : X.N[i]? = some x := by rfl) (hv : Vis X.env.scope x := by first | exact Or.inl rfl | exact Or.inr (Or.inl rfl) | exact Or.inr (Or.inr rfl))
    (hd : (x == ("__debug__" : Str)) = false := by decide) (hcd : (x == ("__classdict__" : Str)) = false := by decide) : DE X W (.Call (.Attribute (.Name x p) "get" apos) [e, f] [] pos) (dGet2 i te tf) :=
  .of (pe_dget2 (X := X) (by omega) (pe_var (X := X) hN hv hd hcd) cE_pe cE_pe m) fun F H σ δ Q S q => by
    obtain ⟨q0, q⟩ := q
    obtain ⟨v0, d0, h0, l0, hd0⟩ := slot_lk S q0
    obtain ⟨a, rfl, ha⟩ := lk_isD S.fh l0 hd0
    refine ⟨.ref a, h0, a, rfl, ha, (he.plain S q).imp fun y H1 h1 => ?_⟩
    obtain ⟨F1, c, δ1, e1, S1, r1, q1⟩ := h1
    refine (hf.plain S1 q1).imp fun z H2 h2 => ?_
    obtain ⟨F2, dz, δ2, e2, S2, r2, q2⟩ := h2
    obtain ⟨v, d, h3, h4, r, hg, q3⟩ := slot_lk S2 q2
    rw [h0] at h3
    cases h3
    obtain ⟨a', ea, o, g1, g2⟩ := lk_get S2.fh h4 (Rp.mono e2 _ _ r1) hg
    cases ea
    refine ⟨o, g1, F2, .p (r.getD dz), δ2, e1.trans e2, S2, ?_, (fun z => by cases z), q3⟩
    cases r with
    | none =>
      have : o = none := g2
      rw [this]
      exact r2
    | some w =>
      obtain ⟨w', rfl, g3⟩ := (g2 : ∃ x, o = some x ∧ Rp X.K F2 w x)
      exact g3
end
end DD

set_option Elab.async false
set_option linter.all false
set_option maxRecDepth 100000
set_option maxHeartbeats 4000000
/-! DD32: stores into what a slot owns: x[e] = v, x.pop(), x.reverse(), x.clear(), x.extend(e), x += e. -/
namespace DD
open PySem PySem.Spec PyProof.Rows L2
/-- x[y] = v -/
def setX (c y v : D) : Option D := match c with
  | .lst ds => match y with
    | .int k => (ixN ds.length k).map fun j => .lst (ds.set j v)
    | _ => none
  | .dct ks ds => (keyD y).bind fun k => if ks.length < sizeLine then some (.dct (putG ks ds k v).1 (putG ks ds k v).2) else none
  | .dcT ks ds => (keyT y).bind fun k => if ks.length < sizeLine then some (.dcT (putG ks ds k v).1 (putG ks ds k v).2) else none
  | _ => none
def rSetX : TSet := fun o i v H Q => L2.rSetL o i v H Q ∨ rSetD o i v H Q
theorem set_X {X : Cx} (hu : X.A.units + 64 < cLine) : PSet X rSetX := by
  intro pins s σ H o i v ov iv u Q I ro ri rv h
  rcases h with h | h
  · exact set_list pins s σ H o i v ov iv u Q I ro ri rv h
  · exact set_dict (by omega) pins s σ H o i v ov iv u Q I ro ri rv h
section
variable {K : PySem.W.Frag} {F H : Hp}
/-- what an own object becomes -/
theorem own_set {c c' y d : D} {a : Addr} {u v : V} {Z : Hp → Prop} (e : Same F H) (h : Own K F H c a) (hy : Rp K F y u) (hd : Rp K F d v) (hc : setX c y d = some c') (hZ : ∀ o, Own K F (upd H a o) c' a → Z (upd H a o)) : rSetX (.ref a) u v H Z := by
  cases c <;> first | (cases hc; done) | skip
  · cases y <;> first | (cases hc; done) | skip
    rename_i ds k
    obtain ⟨xs, h1, h2⟩ := h
    have hc : (ixN ds.length k).map (fun j => D.lst (ds.set j d)) = some c' := hc
    cases hj : ixN ds.length k with
    | none =>
      rw [hj] at hc
      cases hc
    | some j =>
      rw [hj] at hc
      cases hc
      exact .inl ⟨a, xs, k, j, rfl, rpInt hy, h1, by rw [h2.length]; exact hj, hZ _ ⟨_, upd_same, RpL.set hd j h2⟩⟩
  · rename_i ks ds
    obtain ⟨xs, h1, h2, h3⟩ := h
    cases hk : keyD y with
    | none =>
      have hc : (keyD y).bind (fun k => if ks.length < sizeLine then some (D.dct (putG ks ds k d).1 (putG ks ds k d).2) else none) = some c' := hc
      rw [hk] at hc
      cases hc
    | some k =>
      have hc : (keyD y).bind (fun k => if ks.length < sizeLine then some (D.dct (putG ks ds k d).1 (putG ks ds k d).2) else none) = some c' := hc
      rw [hk] at hc
      have hc : (if ks.length < sizeLine then some (D.dct (putG ks ds k d).1 (putG ks ds k d).2) else none) = some c' := hc
      by_cases hl : ks.length < sizeLine
      · rw [if_pos hl] at hc
        cases hc
        obtain ⟨ys, g1, g2, g3⟩ := putG_put (k := k) h3 h2 hd
        rw [rp_key hy hk]
        refine .inr ⟨a, _, rfl, DPut.k h1 (by rw [List.length_zip, ← h3]; omega), hZ _ ?_⟩
        exact ⟨ys, by rw [upd_same, g1], g2, g3⟩
      · rw [if_neg hl] at hc
        cases hc
  · rename_i ks ds
    obtain ⟨xs, h1, h2, h3⟩ := h
    cases hk : keyT y with
    | none =>
      have hc : (keyT y).bind (fun k => if ks.length < sizeLine then some (D.dcT (putG ks ds k d).1 (putG ks ds k d).2) else none) = some c' := hc
      rw [hk] at hc
      cases hc
    | some k =>
      have hc : (keyT y).bind (fun k => if ks.length < sizeLine then some (D.dcT (putG ks ds k d).1 (putG ks ds k d).2) else none) = some c' := hc
      rw [hk] at hc
      have hc : (if ks.length < sizeLine then some (D.dcT (putG ks ds k d).1 (putG ks ds k d).2) else none) = some c' := hc
      by_cases hl : ks.length < sizeLine
      · rw [if_pos hl] at hc
        cases hc
        cases y <;> first | (cases hk; done) | skip
        rename_i ts
        obtain ⟨b, zs, rfl, b1, b2⟩ := rpTupS hy
        have hk : keyL ts = some k := hk
        rw [keyL_vals b2 hk] at b1
        obtain ⟨ys, g1, g2, g3⟩ := putG_put (k := k) h3 h2 hd
        refine .inr ⟨a, _, rfl, DPut.t h1 (e _ _ b1) (by rw [List.length_zip, ← h3]; omega), hZ _ ?_⟩
        exact ⟨ys, by rw [upd_same, g1], g2, g3⟩
      · rw [if_neg hl] at hc
        cases hc
end
def ownS (i : Nat) (δ : Env') : Prop := ∃ c, δ[i]? = some (some (.o c))
def dPutN (i : Nat) (tv ti : TD) : TSD := fun Z δ => dp tv δ fun d δ1 => ownS i δ1 ∧ dp ti δ1 fun y δ2 => ∃ c, δ2[i]? = some (some (.o c)) ∧ ∃ c', setX c y d = some c' ∧ Z.nx (δ2.set i (some (.o c')))
section
variable {X : Cx} {W : Fix} {v e : Expr} {tv te : TD} {i : Nat} {x : Str} {p p2 pos apos spos : Pos}
theorem ds_putN (i : Nat) (hu : X.A.units + 64 < cLine) (he : DE X W v tv) (hi : DE X W e te) (hN : X.N[i]? = some x := by rfl) (hv : Vis X.env.scope x := by first | exact Or.inl rfl | exact Or.inr (Or.inl rfl) | exact Or.inr (Or.inr rfl))
    (hd : (x == ("__debug__" : Str)) = false := by decide) (hcd : (x == ("__classdict__" : Str)) = false := by decide)
    (ha : ∀ u, assign (.Subscript (.Name x p) e p2) X.env u = (do
      let ov ← holding [u] (eval (.Name x p) X.env)
      let iv ← holding [u, ov] (eval e X.env)
      standAt p2
      holding [u, ov, iv] (setItem ov iv u)
      release [u, ov, iv] []) := by intro _; rfl)
    (hs : swapsWithSole [.Subscript (.Name x p) e p2] v pos.line X.env = pure false := by rfl) (hw : swappedStores [.Subscript (.Name x p) e p2] v X.env = pure none := by rfl)
    (h1 : (assignEach [.Subscript (.Name x p) e p2] X.env).map (·.2) = [assign (.Subscript (.Name x p) e p2) X.env] := by rfl) : DS X W (.Assign [.Subscript (.Name x p) e p2] v pos) (dPutN i tv te) :=
  .of (ps_asg (X := X) cE_pe (pg_sub (pe_var (X := X) hN hv hd hcd) cE_pe (set_X hu) ha) hs hw h1) fun F H σ δ D S q => by
    refine (he.plain S q).imp fun v H1 h1 => ?_
    obtain ⟨F1, d, δ1, e1, S1, r1, ⟨c0, hc0⟩, q1⟩ := h1
    obtain ⟨v0, hv0, a, rfl, hF0, hH0, hO0⟩ := S1.get i _ hc0
    refine ⟨.ref a, hv0, (hi.plain S1 q1).imp fun y H2 h2 => ?_⟩
    obtain ⟨F2, dy, δ2, e2, S2, r2, c, hc, c', hset, q2⟩ := h2
    obtain ⟨v1, hv1, a', rfl, hF1, hH1, hO1⟩ := S2.get i _ hc
    rw [hv0] at hv1
    cases hv1
    exact own_set S2.fh hO1 r2 (Rp.mono e2 _ _ r1) hset fun o ho => ⟨F2, _, S2.own_turn hc hv0 ho, q2⟩
/-- x.reverse(), x.clear() -/
def dRev (i : Nat) : TSD := fun Z δ => ∃ ds, δ[i]? = some (some (.o (.lst ds))) ∧ Z.nx (δ.set i (some (.o (.lst ds.reverse))))
def dClr (i : Nat) : TSD := fun Z δ => ∃ ds, δ[i]? = some (some (.o (.lst ds))) ∧ Z.nx (δ.set i (some (.o (.lst []))))
theorem RpL.reverse {K : PySem.W.Frag} {F : Hp} : ∀ {ds : List D} {xs : List V}, RpL K F ds xs → RpL K F ds.reverse xs.reverse
  | [], xs, r => by
    unfold RpL at r
    subst r
    exact .nil
  | d :: ds, xs, r => by
    unfold RpL at r
    obtain ⟨x, xr, rfl, r1, r2⟩ := r
    rw [List.reverse_cons, List.reverse_cons]
    exact r2.reverse.append (.cons r1 .nil)
theorem ds_rev (i : Nat) (hpe : ∀ te : TE, PE X (.Name x p) te → PE X (.Call (.Attribute (.Name x p) "reverse" apos) [] [] pos) (tBM0 X.K "list" rReverse te)) (hN : X.N[i]? = some x := by rfl) (hv : Vis X.env.scope x := by first | exact Or.inl rfl | exact Or.inr (Or.inl rfl) | exact Or.inr (Or.inr rfl))
    (hd : (x == ("__debug__" : Str)) = false := by decide) (hcd : (x == ("__classdict__" : Str)) = false := by decide) (hs : swapsWith (.Call (.Attribute (.Name x p) "reverse" apos) [] [] pos) none spos.line X.env = pure false := by rfl) :
    DS X W (.Expr (.Call (.Attribute (.Name x p) "reverse" apos) [] [] pos) spos) (dRev i) :=
  .of (ps_expr (X := X) (hpe _ (pe_var (X := X) hN hv hd hcd)) hs) fun F H σ δ Z S q => by
    obtain ⟨ds, hi, q⟩ := q
    obtain ⟨v0, hv0, a, rfl, hF, hH, xs, hx, rx⟩ := S.get i _ hi
    exact ⟨.ref a, hv0, .inl ⟨rfl, xs, SqL.of hx⟩, a, xs, rfl, rfl, hx, F, _, S.own_turn (d' := .lst ds.reverse) hi hv0 ⟨_, upd_same, rx.reverse⟩, q⟩
theorem ds_clr (i : Nat) (hpe : ∀ te : TE, PE X (.Name x p) te → PE X (.Call (.Attribute (.Name x p) "clear" apos) [] [] pos) (tBM0 X.K "list" rClear te)) (hN : X.N[i]? = some x := by rfl) (hv : Vis X.env.scope x := by first | exact Or.inl rfl | exact Or.inr (Or.inl rfl) | exact Or.inr (Or.inr rfl))
    (hd : (x == ("__debug__" : Str)) = false := by decide) (hcd : (x == ("__classdict__" : Str)) = false := by decide) (hs : swapsWith (.Call (.Attribute (.Name x p) "clear" apos) [] [] pos) none spos.line X.env = pure false := by rfl) :
    DS X W (.Expr (.Call (.Attribute (.Name x p) "clear" apos) [] [] pos) spos) (dClr i) :=
  .of (ps_expr (X := X) (hpe _ (pe_var (X := X) hN hv hd hcd)) hs) fun F H σ δ Z S q => by
    obtain ⟨ds, hi, q⟩ := q
    obtain ⟨v0, hv0, a, rfl, hF, hH, xs, hx, rx⟩ := S.get i _ hi
    exact ⟨.ref a, hv0, .inl ⟨rfl, xs, SqL.of hx⟩, a, xs, rfl, rfl, hx, F, _, S.own_turn (d' := .lst []) hi hv0 ⟨_, upd_same, .nil⟩, q⟩
/-- x.pop(): the last item -/
def dPop (i : Nat) : TD := fun δ Q => ∃ ds d, δ[i]? = some (some (.o (.lst ds))) ∧ ds[ds.length - 1]? = some d ∧ Q (.p d) (δ.set i (some (.o (.lst ds.dropLast))))
theorem RpL.dropLast {K : PySem.W.Frag} {F : Hp} {ds : List D} {xs : List V} (r : RpL K F ds xs) : RpL K F ds.dropLast xs.dropLast := by
  rw [List.dropLast_eq_take, List.dropLast_eq_take, r.length]
  exact r.take _
theorem de_pop (i : Nat) (hpe : ∀ te : TE, PE X (.Name x p) te → PE X (.Call (.Attribute (.Name x p) "pop" apos) [] [] pos) (tBM0 X.K "list" rPop te)) (hN : X.N[i]? = some x := by rfl) (hv : Vis X.env.scope x := by first | exact Or.inl rfl | exact Or.inr (Or.inl rfl) | exact Or.inr (Or.inr rfl))
    (hd : (x == ("__debug__" : Str)) = false := by decide) (hcd : (x == ("__classdict__" : Str)) = false := by decide) :
    DE X W (.Call (.Attribute (.Name x p) "pop" apos) [] [] pos) (dPop i) :=
  .of (hpe _ (pe_var (X := X) hN hv hd hcd)) fun F H σ δ Q S q => by
    obtain ⟨ds, d, hi, hl, q⟩ := q
    obtain ⟨v0, hv0, a, rfl, hF, hH, xs, hx, rx⟩ := S.get i _ hi
    obtain ⟨y, hy, ry⟩ := rx.get hl
    refine ⟨.ref a, hv0, .inl ⟨rfl, xs, SqL.of hx⟩, a, xs, y, rfl, rfl, hx, by rw [rx.length]; exact hy, ?_⟩
    exact ⟨F, .p d, _, Same.refl F, S.own_turn (d' := .lst ds.dropLast) hi hv0 ⟨_, upd_same, rx.dropLast⟩, ry, (fun z => by cases z), q⟩
/-- x.pop(e) -/
def dPopAt (i : Nat) (te : TD) : TD := fun δ Q => (∃ ds, δ[i]? = some (some (.o (.lst ds)))) ∧ dp te δ fun y δ1 => ∃ ds k d, δ1[i]? = some (some (.o (.lst ds))) ∧ y = .int (k : Nat) ∧ k < 1000000 ∧ ds[k]? = some d ∧ Q (.p d) (δ1.set i (some (.o (.lst (ds.eraseIdx k)))))
theorem RpL.erase {K : PySem.W.Frag} {F : Hp} : ∀ {ds : List D} {xs : List V} (k : Nat), RpL K F ds xs → RpL K F (ds.eraseIdx k) (xs.eraseIdx k)
  | [], xs, k, r => by
    unfold RpL at r
    subst r
    exact .nil
  | d :: ds, xs, 0, r => by
    unfold RpL at r
    obtain ⟨x, xr, rfl, r1, r2⟩ := r
    exact r2
  | d :: ds, xs, k + 1, r => by
    unfold RpL at r
    obtain ⟨x, xr, rfl, r1, r2⟩ := r
    exact .cons r1 (r2.erase k)
theorem de_popAt (i : Nat) (he : DE X W e te) (hpe : ∀ ta : TE, PE X e ta → PE X (.Call (.Attribute (.Name x p) "pop" apos) [e] [] pos) (tBM X.K "list" rPopAt (tVar i) (tCons ta tNil))) :
    DE X W (.Call (.Attribute (.Name x p) "pop" apos) [e] [] pos) (dPopAt i te) :=
  .of (hpe _ cE_pe) fun F H σ δ Q S q => by
    obtain ⟨⟨ds0, h0⟩, q⟩ := q
    obtain ⟨v0, hv0, a, rfl, hF, hH0, hO⟩ := S.get i _ h0
    obtain ⟨xs0, hx0, rx0⟩ := hO
    refine ⟨.ref a, hv0, .inl ⟨rfl, xs0, SqL.of hx0⟩, (he.plain S q).imp fun v H1 h1 => ?_⟩
    obtain ⟨F1, c, δ1, e1, S1, r1, ds, k, d, hi, rfl, hk, hl, q1⟩ := h1
    obtain ⟨v1, hv1, a', rfl, hF1, _, xs, hx, rx⟩ := S1.get i _ hi
    rw [hv0] at hv1
    cases hv1
    obtain ⟨y, hy, ry⟩ := rx.get hl
    have hkl : k < xs.length := (List.getElem?_eq_some_iff.mp hy).1
    refine ⟨a, xs, (k : Int), k, y, rfl, by rw [rpInt r1], hx, by omega, by omega, ?_, hy, ?_⟩
    · have z := seqIndex_of (k := (k : Int)) (n := xs.length) (by omega) (by omega)
      simpa using z
    · exact ⟨F1, .p d, _, e1, S1.own_turn (d' := .lst (ds.eraseIdx k)) hi hv0 ⟨_, upd_same, rx.erase k⟩, ry, (fun z => by cases z), q1⟩
/-- x.extend(e), e a list -/
def dExt (i : Nat) (te : TD) : TSD := fun Z δ => (∃ ds, δ[i]? = some (some (.o (.lst ds)))) ∧ dp te δ fun y δ1 => ∃ ds es, δ1[i]? = some (some (.o (.lst ds))) ∧ y = .lst es ∧ ds.length + es.length ≤ sizeLine ∧ Z.nx (δ1.set i (some (.o (.lst (ds ++ es)))))
theorem ds_ext (i : Nat) (he : DE X W e te) (hpe : ∀ ta : TE, PE X e ta → PE X (.Call (.Attribute (.Name x p) "extend" apos) [e] [] pos) (tBM X.K "list" rExtend (tVar i) (tCons ta tNil))) (hs : swapsWith (.Call (.Attribute (.Name x p) "extend" apos) [e] [] pos) none spos.line X.env = pure false := by rfl) :
    DS X W (.Expr (.Call (.Attribute (.Name x p) "extend" apos) [e] [] pos) spos) (dExt i te) :=
  .of (ps_expr (X := X) (hpe _ cE_pe) hs) fun F H σ δ Z S q => by
    obtain ⟨⟨ds0, h0⟩, q⟩ := q
    obtain ⟨v0, hv0, a, rfl, hF, hH0, hO⟩ := S.get i _ h0
    obtain ⟨xs0, hx0, rx0⟩ := hO
    refine ⟨.ref a, hv0, .inl ⟨rfl, xs0, SqL.of hx0⟩, (he.plain S q).imp fun v H1 h1 => ?_⟩
    obtain ⟨F1, c, δ1, e1, S1, r1, ds, es, hi, rfl, hz, q1⟩ := h1
    obtain ⟨v1, hv1, a', rfl, hF1, _, xs, hx, rx⟩ := S1.get i _ hi
    rw [hv0] at hv1
    cases hv1
    obtain ⟨b, zs, rfl, hb, rb⟩ := rpLst r1
    refine ⟨a, b, xs, zs, rfl, rfl, hx, S1.fh _ _ hb, by rw [rx.length, rb.length]; exact hz, ?_⟩
    exact ⟨F1, _, S1.own_turn (d' := .lst (ds ++ es)) hi hv0 ⟨_, upd_same, rx.append rb⟩, q1⟩
/-- x += e, ints -/
def dAug (i : Nat) (f : Int → Int → Int) (te : TD) : TSD := fun Z δ => (∃ k, δ[i]? = some (some (.p (.int k)))) ∧ dp te δ fun y δ1 => ∃ k j, δ1[i]? = some (some (.p (.int k))) ∧ y = .int j ∧ Z.nx (δ1.set i (some (.p (.int (f k j)))))
theorem ds_aug {op : Operator} {f : Int → Int → Int} (i : Nat) (hNd : X.N.Nodup) (ho : PIp X op (ipI f)) (he : DE X W e te) (hN : X.N[i]? = some x := by rfl) (hx : Loc X.env.scope x := by first | exact Or.inl rfl | exact Or.inr rfl)
    (hf : X.fn x = true ∨ X.env.scope.names.lookup x = some .local := by first | exact .inl rfl | exact .inr rfl | assumption) : DS X W (.AugAssign (.Name x p) op e pos) (dAug i f te) :=
  .of (ps_aug (X := X) hNd hN hx cE_pe ho hf) fun F H σ δ Z S q => by
    obtain ⟨⟨k0, h0⟩, q⟩ := q
    obtain ⟨v0, hv0, r0⟩ := S.get i _ h0
    refine ⟨v0, hv0, (he.plain S q).imp fun v H1 h1 => ?_⟩
    obtain ⟨F1, c, δ1, e1, S1, r1, k, j, hi, rfl, q1⟩ := h1
    obtain ⟨v1, hv1, r2⟩ := S1.get i _ hi
    rw [hv0] at hv1
    cases hv1
    have r2 : Rp X.K F1 (.int k) v0 := r2
    refine ⟨k, j, rpInt r2, rpInt r1, F1, _, S1.put (b := .p (.int (f k j))) (v := .int (f k j)) (show Rp X.K F1 (.int (f k j)) (.int (f k j)) from rp_int) (fun z => by cases z), q1⟩
end
end DD

set_option Elab.async false
set_option linter.all false
set_option maxRecDepth 100000
set_option maxHeartbeats 4000000
/-! DD33: dict comprehensions over data, keys ints or texts. -/
namespace DD
open PySem PySem.Spec PyProof.Rows L2
def dcL (g : TGD) (tt : TDT) (tk tv : TD) (vs : List Nat) (Q : List Key → List D → Env' → Prop) : List D → List Key → List D → Env' → Prop
  | [], ks, es, δ => Q ks es δ
  | d :: ds, ks, es, δ => g d δ fun δ1 => tt δ1 fun k δ2 => if k = true then dp tk δ2 fun y δ3 => dp tv δ3 fun z δ4 => ∃ c, keyD y = some c ∧ ks.length < sizeLine ∧ dcL g tt tk tv vs Q ds (putG ks es c z).1 (putG ks es c z).2 (wipeE δ4 vs) else dcL g tt tk tv vs Q ds ks es (wipeE δ2 vs)
def dDc (wi : TDI) (g : TGD) (tt : TDT) (tk tv : TD) (vs : List Nat) : TD := fun δ Q => wi δ fun ds δ1 => dcL g tt tk tv vs (fun ks es δ2 => Q (.o (.dct ks es)) δ2) ds [] [] (wipeE δ1 vs)
section
variable {X : Cx} {W : Fix} {kx vx tg iter : Expr} {ifs : List Expr} {scope : Scope} {own : List (Str × Nat)} {pos : Pos} {wi : TDI} {g : TGD} {tt : TDT} {tk tv : TD} {σ : L2.St} {F H : Hp} {δ : Env'} {Q : B → Env' → Prop}
theorem dc_run (hg : ∀ (s : Shared) (H : Hp) (C : Addr) (cl : List (Str × Addr)) (fp : List Addr) (W' : Fix), DGc (blkX X scope s H C cl fp) W' tg (own.map (·.2)) g)
    (ht : ∀ (s : Shared) (H : Hp) (C : Addr) (cl : List (Str × Addr)) (fp : List Addr) (W' : Fix), DTs (blkX X scope s H C cl fp) W' ifs tt)
    (hk : ∀ (s : Shared) (H : Hp) (C : Addr) (cl : List (Str × Addr)) (fp : List Addr) (W' : Fix), DE (blkX X scope s H C cl fp) W' kx tk)
    (he : ∀ (s : Shared) (H : Hp) (C : Addr) (cl : List (Str × Addr)) (fp : List Addr) (W' : Fix), DE (blkX X scope s H C cl fp) W' vx tv)
    (hi : DI X W tg iter wi) (S : SD X.K W F H σ δ) (q : dDc wi g tt tk tv (own.map (·.2)) δ Q) {Z : VK} (hZ : ∀ v H', DQ X.K W F σ Q v H' → Z v H') :
    tDc (cI X tg iter) (bG X scope tg) (bTs X scope ifs) (bE X scope kx) (bE X scope vx) (own.map (·.2)) σ H Z := by
  intro pins s I
  refine thn (hi.run F H σ δ _ S q pins s I) fun v s1 h1 => thn h1 fun itv s2 h2 => ?_
  obtain ⟨it, fp, tn, J, H1, e1, I1, T1, n1, f1, F1, ds, δ1, eF, S1, Y, q1⟩ := h2
  refine ⟨it, fp, tn, J, H1, e1, I1, T1, n1, f1, fun Dl hD => ?_⟩
  have hF1 : F1 Dl = none := S1.freshF hD
  have h0D : W.H0 Dl = none := S1.fresh0 hD
  have hF0 : W.F0 Dl = none := S1.f0.free hF1
  have hPD : W.P ≠ some Dl := fun z => by
    obtain ⟨_, ⟨o, ho⟩, _⟩ := S1.fp Dl z
    rw [hD] at ho
    cases ho
  refine ⟨fun i m H' => m = ds.length - i ∧ i ≤ ds.length ∧ ∃ F' δ' ks acc xs, Same F1 F' ∧ SD X.K (W.hold Dl (.dK (ks.zip xs))) F' H' (wipe σ (own.map (·.2))) δ' ∧ RpL X.K F' acc xs ∧ ks.length = xs.length ∧ (∀ (j : Nat) (b : B), δ'[j]? = some (some b) → j ∉ own.map (·.2)) ∧
      dcL g tt tk tv (own.map (·.2)) (fun ks acc δ2 => Q (.o (.dct ks acc)) δ2) (ds.drop i) ks acc δ', ⟨_, rfl, Nat.zero_le _, F1, wipeE δ1 (own.map (·.2)), [], [], [], Same.refl F1, ?_, .nil, rfl, fun j b h => (wipeE_some h).2, q1⟩, ?_⟩
  · refine (SD.newO (S1.wiped (vs := own.map (·.2))) hD).held upd_same h0D hF1 hPD fun j c e1 e2 e3 => ?_
    obtain ⟨v, h1, h2⟩ := (S1.wiped (vs := own.map (·.2))).get j c e1
    rw [e3] at h1
    cases h1
    obtain ⟨a, o, e, h4, _⟩ := h2.there e2
    cases e
    rw [hD] at h4
    cases h4
  rintro i m H' ⟨rfl, hil, F', δ', ks, acc, xs, e', S', ra, hkl, hv, q'⟩
  obtain ⟨y1, y2⟩ := Y _ F' H' _ δ' i S' e'
  by_cases hl : i < ds.length
  · have hd : ds[i]? = some ds[i] := List.getElem?_eq_getElem hl
    rw [List.drop_eq_getElem_cons hl] at q'
    obtain ⟨hgo, hy⟩ := y1 _ hd
    refine .inr ⟨hgo, fun H2 => ∃ F' δ' ks acc xs, Same F1 F' ∧ SD X.K (W.hold Dl (.dK (ks.zip xs))) F' H2 (wipe σ (own.map (·.2))) δ' ∧ RpL X.K F' acc xs ∧ ks.length = xs.length ∧ (∀ (j : Nat) (b : B), δ'[j]? = some (some b) → j ∉ own.map (·.2)) ∧
      dcL g tt tk tv (own.map (·.2)) (fun ks acc δ2 => Q (.o (.dct ks acc)) δ2) (ds.drop (i + 1)) ks acc δ', fun H2 h2 => ⟨_, by omega, rfl, hl, h2⟩, fun x H2 hyl => ?_⟩
    obtain ⟨F2, e2, S2, rx, _⟩ := hy x H2 hyl
    intro s0 H0 C cl fp pins s u I ru
    refine thn ((hg s0 H0 C cl fp _).run F2 H2 _ δ' _ x _ S2 rx q' pins s u I ru) fun _ s' h3 => ?_
    obtain ⟨σ3, H3, I3, w3, F3, δ3, e3, S3, q3⟩ := h3
    refine ⟨σ3, H3, I3, ?_, fun s0 H0 C cl fp pins s I => ?_⟩
    · rw [w3]
      apply List.ext_getElem?
      intro j
      by_cases em : j ∈ own.map (·.2)
      · have n1 : ∀ (ρ : L2.St) (x : V), (wipe ρ (own.map (·.2)))[j]? ≠ some (some x) := fun ρ x z => (wipe_some z).2 em
        have l1 : (wipe (wipe σ (own.map (·.2))) (own.map (·.2))).length = (wipe σ (own.map (·.2))).length := wipe_length _ _
        by_cases hj : j < (wipe σ (own.map (·.2))).length
        · rw [List.getElem?_eq_getElem hj, List.getElem?_eq_getElem (by rw [l1]; exact hj)]
          cases z1 : (wipe (wipe σ (own.map (·.2))) (own.map (·.2)))[j]'(by rw [l1]; exact hj) with
          | some x => exact absurd (by rw [List.getElem?_eq_getElem (by rw [l1]; exact hj), z1]) (n1 _ x)
          | none =>
            cases z2 : (wipe σ (own.map (·.2)))[j]'hj with
            | some x => exact absurd (by rw [List.getElem?_eq_getElem hj, z2]) (n1 _ x)
            | none => rfl
        · rw [List.getElem?_eq_none (by omega), List.getElem?_eq_none (by omega)]
      · rw [wipe_off em]
    refine thn ((ht s0 H0 C cl fp _).run F3 H3 σ3 δ3 _ S3 q3 pins s I) fun b s4 h4 => ?_
    obtain ⟨H4, I4, F4, δ4, e4, S4, q4⟩ := h4
    refine ⟨H4, I4, ?_⟩
    have back : ∀ {F5 H5 : Hp} {δ5 : Env'} {o : HO}, SD X.K (W.hold Dl o) F5 H5 σ3 δ5 → SD X.K (W.hold Dl o) F5 H5 (wipe σ (own.map (·.2))) (wipeE δ5 (own.map (·.2))) := fun {F5 H5 δ5 o} S5 => by
      have z := S5.wiped (vs := own.map (·.2))
      rw [w3] at z
      refine z.slots ?_ fun j b h => ?_
      · rw [wipe_length, wipe_length, wipe_length]
      · rw [wipe_off (wipeE_some h).2, wipe_off (wipeE_some h).2, wipe_off (wipeE_some h).2]
    cases b with
    | false =>
      simp only [Bool.false_eq_true, if_false] at q4 ⊢
      exact ⟨F4, _, ks, acc, xs, ((e'.trans e2).trans e3).trans e4, back S4, RpL.mono ((e2.trans e3).trans e4) _ _ ra, hkl, fun j b h => (wipeE_some h).2, q4⟩
    | true =>
      simp only [if_true] at q4 ⊢
      intro s0 H0 C cl fp pins s I
      refine thn ((hk s0 H0 C cl fp _).plain S4 q4 pins s I) fun u s5 h5 => ?_
      obtain ⟨y, H5, I5, ry, F5, d5, δ5, e5, S5, r5, q5⟩ := h5
      refine ⟨y, H5, I5, ry, fun s0 H0 C cl fp pins s I => ?_⟩
      refine thn ((he s0 H0 C cl fp _).plain S5 q5 pins s I) fun u2 s6 h6 => ?_
      obtain ⟨z, H6, I6, rz, F6, d6, δ6, e6, S6, r6, c, hc, hz, q6⟩ := h6
      obtain ⟨S7, hD7, hF7, hn7⟩ := S6.unheld h0D hF0 hPD
      have ra6 : RpL X.K F6 acc xs := RpL.mono ((((e2.trans e3).trans e4).trans e5).trans e6) _ _ ra
      obtain ⟨ys, g1, g2, g3⟩ := putG_put (k := c) hkl ra6 r6
      have S8 : SD X.K (W.hold Dl (.dK ((putG ks acc c d6).1.zip ys))) F6 (upd H6 Dl (.dK ((putG ks acc c d6).1.zip ys))) σ3 δ6 := (S7.turn h0D hF7 hn7).held upd_same h0D hF7 hPD hn7
      refine ⟨z, H6, I6, rz, ks.zip xs, c, rp_key r5 hc, hD7, by rw [List.length_zip, ← hkl]; omega, F6, _, _, _, ys, ((((e'.trans e2).trans e3).trans e4).trans e5).trans e6, ?_, g2, g3, fun j b h => (wipeE_some h).2, q6⟩
      rw [g1]
      exact back S8
  · have e0 : i = ds.length := by omega
    subst e0
    rw [List.drop_length] at q'
    refine .inl ⟨y2 (List.getElem?_eq_none (Nat.le_refl _)), hZ _ _ ?_⟩
    obtain ⟨S6, hD6, hF6, hn6⟩ := S'.unheld h0D hF0 hPD
    have S7 : SD X.K W F' H' σ δ' := S6.slots (wipe_length σ _).symm fun j b h => (wipe_off (hv j b h)).symm
    refine ⟨F', .o (.dct ks acc), δ', eF.trans e', S7, ⟨Dl, rfl, hF6, h0D, xs, hD6, ra, hkl⟩, fun _ j c h1 h2 => ?_, q'⟩
    rw [← wipe_off (σ := σ) (hv j c h1)]
    exact hn6 j c h1 h2
theorem de_dc (hc : X.calm = true) (hN : X.N.Nodup) (hi : DI X W tg iter wi) (ok : BlkOk X.N X.env.scope scope own)
    (hg : ∀ (s : Shared) (H : Hp) (C : Addr) (cl : List (Str × Addr)) (fp : List Addr) (W' : Fix), DGc (blkX X scope s H C cl fp) W' tg (own.map (·.2)) g)
    (ht : ∀ (s : Shared) (H : Hp) (C : Addr) (cl : List (Str × Addr)) (fp : List Addr) (W' : Fix), DTs (blkX X scope s H C cl fp) W' ifs tt)
    (hk : ∀ (s : Shared) (H : Hp) (C : Addr) (cl : List (Str × Addr)) (fp : List Addr) (W' : Fix), DE (blkX X scope s H C cl fp) W' kx tk)
    (he : ∀ (s : Shared) (H : Hp) (C : Addr) (cl : List (Str × Addr)) (fp : List Addr) (W' : Fix), DE (blkX X scope s H C cl fp) W' vx tv) (hs : ∀ x, foldedSetIterable iter X.env x = pure x := by intro _; rfl) :
    DE X W (.DictComp kx vx [⟨tg, iter, ifs, 0⟩] scope pos) (dDc wi g tt tk tv (own.map (·.2))) :=
  .of (pe_dc (X := X) hc hN cI_pi ok (fun s H C cl fp => ⟨fun pins s' _ _ _ u _ I r h => h s H C cl fp pins s' u I r⟩) (fun s H C cl fp => ⟨fun pins s' _ _ _ I h => h s H C cl fp pins s' I⟩) (fun s H C cl fp => ⟨fun pins s' _ _ _ I h => h s H C cl fp pins s' I⟩) (fun s H C cl fp => ⟨fun pins s' _ _ _ I h => h s H C cl fp pins s' I⟩) hs)
    fun F H σ δ Q S q => dc_run hg ht hk he hi S q fun _ _ h => h
/-- every item gives a pair -/
theorem putG_new {κ : Type} [DecidableEq κ] {ks : List κ} {es : List D} {k : κ} {d : D} (h : k ∉ ks) : putG ks es k d = (ks ++ [k], es ++ [d]) := by
  unfold putG
  rw [if_neg h]
theorem dcL_map {g : TGD} {tt : TDT} {tk tv : TD} {vs : List Nat} {Q : List Key → List D → Env' → Prop} {δ : Env'} (kd fv : D → D) (fk : D → Key) (e1 : D → Env') : ∀ {ds : List D} {ks : List Key} {es : List D},
    (∀ d ∈ ds, ∀ (Y : D → D → Env' → Prop) (N : Env' → Prop), Y (kd d) (fv d) (e1 d) → g d δ fun δ1 => tt δ1 fun k δ2 => if k = true then dp tk δ2 fun y δ3 => dp tv δ3 fun z δ4 => Y y z δ4 else N δ2) →
    (∀ d ∈ ds, keyD (kd d) = some (fk d) ∧ wipeE (e1 d) vs = δ) → ks.length + ds.length ≤ sizeLine → (∀ d ∈ ds, fk d ∉ ks) → (ds.map fk).Nodup → Q (ks ++ ds.map fk) (es ++ ds.map fv) δ → dcL g tt tk tv vs Q ds ks es δ
  | [], ks, es, _, _, _, _, _, q => by
    have q : Q (ks ++ []) (es ++ []) δ := q
    rw [List.append_nil, List.append_nil] at q
    exact q
  | d :: ds, ks, es, hs, hw, hz, hn, hd, q => by
    obtain ⟨w1, w2⟩ := hw d List.mem_cons_self
    rw [List.length_cons] at hz
    refine hs d List.mem_cons_self (fun y z δ4 => ∃ c, keyD y = some c ∧ ks.length < sizeLine ∧ dcL g tt tk tv vs Q ds (putG ks es c z).1 (putG ks es c z).2 (wipeE δ4 vs)) (fun δ2 => dcL g tt tk tv vs Q ds ks es (wipeE δ2 vs)) ⟨fk d, w1, by omega, ?_⟩
    rw [w2, putG_new (hn d List.mem_cons_self)]
    rw [List.map_cons, List.nodup_cons] at hd
    refine dcL_map kd fv fk e1 (fun d' hd' => hs d' (List.mem_cons_of_mem _ hd')) (fun d' hd' => hw d' (List.mem_cons_of_mem _ hd')) (by rw [List.length_append, List.length_singleton]; omega) (fun d' hd' => ?_) hd.2 ?_
    · rw [List.mem_append, List.mem_singleton]
      rintro (z | z)
      · exact hn d' (List.mem_cons_of_mem _ hd') z
      · exact hd.1 (List.mem_map.mpr ⟨d', hd', z⟩)
    · rw [List.append_assoc, List.append_assoc]
      exact q
end
end DD

set_option Elab.async false
set_option linter.all false
set_option maxRecDepth 100000
set_option maxHeartbeats 4000000
/-! DD34: a written dict with one tuple as its key; calls to which lists of one's own are lent. -/
namespace DD
open PySem PySem.Spec PyProof.Rows L2
section
variable {X : Cx} {W : Fix} {ek e : Expr} {tk tv : TE} {pos : Pos}
def tDispT (tk tv : TE) : TE := fun σ H Q => ∀ p, H p = none → tk σ (upd H p (.dT [])) fun y H1 => tv σ H1 fun z H2 => H2 p = some (.dT []) ∧ ∃ b k, y = .ref b ∧ H2 b = some (.tup (k.map kV)) ∧ Q (.ref p) (upd H2 p (.dT [(k, z)]))
theorem pe_dispT (hu : X.A.units + 64 < cLine) (hk : PE X ek tk) (hv : PE X e tv) : PE X (.Dict [some ek] [e] pos) (tDispT tk tv) := by
  refine ⟨fun pins s σ H Q I q => ?_⟩
  have hn := I.hok.fresh (Nat.le_refl s.heap.objs.size)
  have I1 := I.laid (a := s.heap.objs.size) (o := .dT []) (h' := s.heap.push { cls := .type "dict", data := .dict #[] }) (t' := s.toks) (fun _ _ q => Heap.get?_push_of_some _ q) (Nat.le_refl _) (dt_empty s.heap I.big)
  have hroom : (tupleKind (mixKind X.prog X.w)).room X.A := (show X.A.units < cLine by omega)
  rw [arm_eval_Dict, zip_pairTrees [some ek] [e] X.env pos rfl rfl, dictDisplay_pairs (pairTrees [some ek] [e] X.env pos) (by simp [pairTrees]) (by simp [pairTrees])]
  refine wpAny_bind (wpAny_standAt (wpAny_bind (wpAny_subDictH (knd := tupleKind (mixKind X.prog X.w)) (Q := fun d s' => wpAny (model X.prog X.w) X.A (pure (Value.ref d)) (EP X pins σ Q) X.xe s') hroom (by simp [pairTrees]) ?_)))
  refine pairTrees_cons_walk (thn (hk.run pins _ σ _ _ I1 (q _ hn)) fun yv s2 ⟨y, H2, I2, ry, q2⟩ => thn (hv.run pins s2 σ H2 _ I2 q2) fun zv s3 ⟨z, H3, I3, rz, e3, b, k, ey, eb, q3⟩ => pairTrees_nil_walk ?_)
  subst ey
  cases (show yv = Value.ref b from ry)
  obtain ⟨z1, hd, xs, rel, dd⟩ := dt_of I3.hok e3
  cases rel
  refine ⟨[(k, b, zv)], ⟨rfl, rfl, key_of I3.hok eb, trivial⟩, dd, fun h' tk dd' hs => wpAny_pure ⟨.ref s.heap.objs.size, _, ?_, rfl, q3⟩⟩
  obtain ⟨qo, es, ep, hq, h2, h3, h4, _, h5⟩ := dd'
  refine d_write I3 (by rw [e3]; exact True.intro) hs ⟨qo, hq⟩ ⟨by show 1 ≤ sizeLine; decide, hd, [(k, b, zv)], .cons ⟨rfl, ?_, rz⟩ .nil, qo, es, ep, hq, h2, h3, h4, h5⟩
  rw [upd_ne (ne_of eb e3 (fun z => nomatch z))]
  exact eb
end
end DD

set_option Elab.async false
set_option linter.all false
set_option maxRecDepth 100000
set_option maxHeartbeats 4000000
/-! DD35: what slots own is lent to an expression whose value holds no list and no dict. -/
namespace DD
open PySem PySem.Spec PyProof.Rows L2
mutual
/-- no list, no dict within -/
def noLD : D → Bool
  | .lst _ => false
  | .dct _ _ => false
  | .dcT _ _ => false
  | .tup ds => noLDs ds
  | .cst ds => noLDs ds
  | .ins _ _ ds => noLDs ds
  | .exc _ ds => noLDs ds
  | _ => true
def noLDs : List D → Bool
  | [] => true
  | d :: ds => noLD d && noLDs ds
end
def noLB : B → Bool
  | .p d => noLD d
  | .o (.lst ds) => noLDs ds
  | .o (.ins _ _ ds) => noLDs ds
  | _ => false
def lend1 (k : Bool) : Option B → Option B
  | none => none
  | some (.p d) => some (.p d)
  | some (.o d) => if k = true then some (.p d) else none
  | some (.u _ _) => none
  | some (.n ds) => some (.n ds)
  | some (.s _) => none
def lendE (n : Nat) (is : List Nat) : Env' → Env'
  | [] => []
  | o :: δ => lend1 (decide (n ∈ is)) o :: lendE (n + 1) is δ
theorem lendE_len {is : List Nat} : ∀ {δ : Env'} {n : Nat}, (lendE n is δ).length = δ.length
  | [], _ => rfl
  | _ :: δ, n => by
    show (lendE (n + 1) is δ).length + 1 = _
    rw [lendE_len]
    rfl
theorem lendE_at {is : List Nat} : ∀ {δ : Env'} {n i : Nat}, (lendE n is δ)[i]? = (δ[i]?).map (lend1 (decide (n + i ∈ is)))
  | [], _, _ => by simp [lendE]
  | o :: δ, n, 0 => by simp [lendE]
  | o :: δ, n, i + 1 => by
    show (lendE (n + 1) is δ)[i]? = _
    rw [lendE_at, List.getElem?_cons_succ, show n + 1 + i = n + (i + 1) by omega]
theorem lendE_get {is : List Nat} {δ : Env'} {n i : Nat} {b : B} (h : (lendE n is δ)[i]? = some (some b)) : (δ[i]? = some (some b) ∧ b.own = false) ∨ ∃ d, δ[i]? = some (some (.o d)) ∧ n + i ∈ is ∧ b = .p d := by
  rw [lendE_at] at h
  cases e : δ[i]? with
  | none =>
    rw [e] at h
    cases h
  | some o =>
    rw [e] at h
    have h : lend1 (decide (n + i ∈ is)) o = some b := Option.some.inj h
    cases o with
    | none => cases h
    | some c =>
      cases c with
      | p d =>
        cases h
        exact .inl ⟨rfl, rfl⟩
      | n ds =>
        cases h
        exact .inl ⟨rfl, rfl⟩
      | u w m => cases h
      | s d => cases h
      | o d =>
        have h : (if decide (n + i ∈ is) = true then some (B.p d) else none) = some b := h
        by_cases hn : n + i ∈ is
        · rw [if_pos (decide_eq_true hn)] at h
          cases h
          exact .inr ⟨d, rfl, hn, rfl⟩
        · rw [if_neg (by simpa using hn)] at h
          cases h
section
variable {K : PySem.W.Frag} {W : Fix} {F H : Hp} {σ : L2.St} {δ : Env'} {is : List Nat}
/-- the addresses that are lent; those that are kept out -/
def Lent (σ : L2.St) (δ : Env') (is : List Nat) (a : Addr) : Prop := ∃ j d, j ∈ is ∧ δ[j]? = some (some (.o d)) ∧ σ[j]? = some (some (.ref a))
/-- lists and dicts alone are lent -/
def isLD : D → Bool
  | .lst _ => true
  | .dct _ _ => true
  | .dcT _ _ => true
  | _ => false
def LentOk (δ : Env') (is : List Nat) : Prop := ∀ j d, j ∈ is → δ[j]? = some (some (.o d)) → isLD d = true
def Kept (σ : L2.St) (δ : Env') (is : List Nat) (a : Addr) : Prop := ∃ j c, ¬ (j ∈ is ∧ ∃ d, c = .o d) ∧ δ[j]? = some (some c) ∧ c.own = true ∧ σ[j]? = some (some (.ref a))
open Classical in
noncomputable def lendF (H F : Hp) (σ : L2.St) (δ : Env') (is : List Nat) : Hp := fun a => if Lent σ δ is a then H a else F a
open Classical in
noncomputable def cutF (F : Hp) (σ : L2.St) (δ : Env') (is : List Nat) : Hp := fun a => if Lent σ δ is a then none else F a
open Classical in
noncomputable def lendW (W : Fix) (H : Hp) (σ : L2.St) (δ : Env') (is : List Nat) : Fix :=
  { F0 := W.F0, H0 := fun a => if Kept σ δ is a ∨ W.P = some a then H a else W.H0 a, P := none, E := fun _ _ _ => False }
theorem Lent.at (S : SD K W F H σ δ) {a : Addr} (h : Lent σ δ is a) : ∃ d, Own K F H d a ∧ F a = none ∧ W.H0 a = none ∧ W.P ≠ some a ∧ ¬ Kept σ δ is a := by
  obtain ⟨j, d, h1, h2, h3⟩ := h
  obtain ⟨v, e1, a', e2, h4, h5, h6⟩ := S.get j _ h2
  rw [h3] at e1
  cases e1
  cases e2
  refine ⟨d, h6, h4, h5, fun z => ?_, fun ⟨k, c, n1, n2, n3, n4⟩ => ?_⟩
  · obtain ⟨_, _, o, ho⟩ := S.fp a z
    rw [h5] at ho
    cases ho
  · by_cases e : k = j
    · subst e
      rw [h2] at n2
      cases n2
      exact n1 ⟨h1, d, rfl⟩
    · exact S.sep k j c _ _ e n2 n3 h2 rfl n4 h3
theorem Kept.at (S : SD K W F H σ δ) {a : Addr} (h : Kept σ δ is a) : F a = none ∧ ∃ o, H a = some o := by
  obtain ⟨k, c, n1, n2, n3, n4⟩ := h
  obtain ⟨v, e1, e2⟩ := S.get k _ n2
  rw [n4] at e1
  cases e1
  obtain ⟨a', o, e, h1, h2⟩ := e2.there n3
  cases e
  exact ⟨h2, o, h1⟩
open Classical in
theorem SD.lend (S : SD K W F H σ δ) : SD K (lendW W H σ δ is) (lendF H F σ δ is) H σ (lendE 0 is δ) := by
  have e : Same F (lendF H F σ δ is) := fun a o h => by
    unfold lendF
    rw [if_neg (fun z => by
      obtain ⟨_, _, h2, _⟩ := z.at S
      rw [h] at h2
      cases h2)]
    exact h
  refine ⟨S.f0.trans e, fun a o h _ => ?_, fun a o h => ?_, fun a o h => ?_, (fun a h => by cases h), (by rw [lendE_len]; exact S.len), fun i b h => ?_, fun i j b c v ne h1 h2 h3 h4 h5 => ?_⟩
  · have h : (if Kept σ δ is a ∨ W.P = some a then H a else W.H0 a) = some o := h
    by_cases z : Kept σ δ is a ∨ W.P = some a
    · rw [if_pos z] at h
      exact h
    · rw [if_neg z] at h
      exact S.h0 a o h fun q => z (.inr q)
  · unfold lendF at h
    by_cases z : Lent σ δ is a
    · rw [if_pos z] at h
      exact h
    · rw [if_neg z] at h
      exact S.fh a o h
  · unfold lendF at h
    by_cases z : Lent σ δ is a
    · obtain ⟨_, _, _, h5, h6, h7⟩ := z.at S
      refine .inr ?_
      show (if Kept σ δ is a ∨ W.P = some a then H a else W.H0 a) = none
      rw [if_neg (fun q => q.elim h7 h6)]
      exact h5
    · rw [if_neg z] at h
      rcases S.fr a o h with q | q
      · exact .inl q
      · refine .inr ?_
        show (if Kept σ δ is a ∨ W.P = some a then H a else W.H0 a) = none
        rw [if_neg]
        · exact q
        · rintro (k | k)
          · have := (k.at S).1
            rw [h] at this
            cases this
          · have := (S.fp a k).1
            rw [h] at this
            cases this
  · rcases lendE_get h with ⟨h1, h2⟩ | ⟨d, h1, h2, rfl⟩
    · obtain ⟨v, e1, e2⟩ := S.get i b h1
      refine ⟨v, e1, ?_⟩
      cases b with
      | p d => exact Rp.mono e _ _ e2
      | n ds =>
        obtain ⟨t, xs, rfl, g1, g2, g3⟩ := e2
        refine ⟨t, xs, rfl, e _ _ g1, RpL.mono e _ _ g2, fun a ha => ?_⟩
        obtain ⟨⟨ys, g4⟩, g5⟩ := g3 a ha
        refine ⟨⟨ys, e _ _ g4⟩, ?_⟩
        show (if Kept σ δ is a ∨ W.P = some a then H a else W.H0 a) = none
        rw [if_neg]
        · exact g5
        · rintro (k | k)
          · have := (k.at S).1
            rw [g4] at this
            cases this
          · have := (S.fp a k).1
            rw [g4] at this
            cases this
      | o d => cases h2
      | u w m => cases h2
      | s d => cases h2
    · obtain ⟨v, e1, a, rfl, g1, g2, g3⟩ := S.get i _ h1
      refine ⟨.ref a, e1, ?_⟩
      obtain ⟨o, ho⟩ := g3.some
      have z := own_frozen g3 ho g1
      refine Rp.mono (fun b u q => ?_) d (.ref a) z
      by_cases eb : b = a
      · subst eb
        rw [upd_same] at q
        cases q
        unfold lendF
        rw [if_pos ⟨i, d, by simpa using h2, h1, e1⟩]
        exact ho
      · rw [upd_ne eb] at q
        exact e _ _ q
  · rcases lendE_get h1 with ⟨_, z⟩ | ⟨d, _, _, rfl⟩
    · rw [h2] at z
      cases z
    · cases h2
def softO : HO → Prop
  | .lst _ => True
  | .dK _ => True
  | .dT _ => True
  | _ => False
theorem Lent.soft (S : SD K W F H σ δ) (ok : LentOk δ is) {a : Addr} {o : HO} (h : Lent σ δ is a) (ho : H a = some o) : softO o := by
  obtain ⟨j, d, h1, h2, h3⟩ := h
  obtain ⟨v, e1, a', e2, h4, h5, h6⟩ := S.get j _ h2
  rw [h3] at e1
  cases e1
  cases e2
  have k := ok j d h1 h2
  cases d <;> first | (cases k; done) | skip
  · obtain ⟨xs, g, _⟩ := h6
    rw [ho] at g
    cases g
    trivial
  · obtain ⟨xs, g, _⟩ := h6
    rw [ho] at g
    cases g
    trivial
  · obtain ⟨xs, g, _⟩ := h6
    rw [ho] at g
    cases g
    trivial
open Classical in
theorem cut_keep {F' : Hp} (hs : ∀ a o, Lent σ δ is a → F' a = some o → softO o) {a : Addr} {o : HO} (h : F' a = some o) (n : ¬ softO o) : cutF F' σ δ is a = some o := by
  unfold cutF
  rw [if_neg fun z => n (hs a o z h)]
  exact h
mutual
/-- data without lists and dicts do not need what is lent -/
theorem noLD_cut {F' : Hp} (hs : ∀ a o, Lent σ δ is a → F' a = some o → softO o) : ∀ (d : D) (v : V), noLD d = true → Rp K F' d v → Rp K (cutF F' σ δ is) d v
  | .non, v, _, h => h
  | .bl _, v, _, h => h
  | .int _, v, _, h => h
  | .str _, v, _, h => h
  | .ty _, v, _, h => h
  | .ref _, v, _, h => h
  | .lst _, v, n, _ => by cases n
  | .dct _ _, v, n, _ => by cases n
  | .dcT _ _, v, n, _ => by cases n
  | .tup ds, v, n, h => by
    unfold Rp at h ⊢
    obtain ⟨a, xs, rfl, h1, h2⟩ := h
    exact ⟨a, xs, rfl, cut_keep hs h1 (fun z => z), noLDs_cut hs ds xs n h2⟩
  | .cst ds, v, n, h => by
    unfold Rp at h ⊢
    obtain ⟨a, xs, rfl, h1, h2⟩ := h
    refine ⟨a, xs, rfl, ?_, noLDs_cut hs ds xs n h2⟩
    rcases h1 with (h1 | ⟨o, h1⟩) | h1
    · exact .inl (.inl (cut_keep hs h1 fun z => z))
    · exact .inl (.inr ⟨o, cut_keep hs h1 fun z => z⟩)
    · exact .inr h1
  | .ins C ns ds, v, n, h => by
    unfold Rp at h ⊢
    obtain ⟨a, dx, xs, rfl, h1, h2, h3⟩ := h
    exact ⟨a, dx, xs, rfl, cut_keep hs h1 (fun z => z), noLDs_cut hs ds xs n h2, h3⟩
  | .iset S n, v, _, h => by
    unfold Rp at h ⊢
    obtain ⟨a, rfl, h1⟩ := h
    exact ⟨a, rfl, cut_keep hs h1 fun z => z⟩
  | .exc C ds, v, n, h => by
    unfold Rp at h ⊢
    obtain ⟨a, dx, x, xs, rfl, h1, h2, h3, h4⟩ := h
    exact ⟨a, dx, x, xs, rfl, cut_keep hs h1 (fun z => z), cut_keep hs h2 (fun z => z), h3, noLDs_cut hs ds xs n h4⟩
  | .scr ns, v, _, h => by
    unfold Rp at h ⊢
    obtain ⟨a, rfl, h1⟩ := h
    refine ⟨a, rfl, ?_⟩
    rcases h1 with ⟨o, h1⟩ | h1
    · exact .inl ⟨o, cut_keep hs h1 fun z => z⟩
    · exact .inr h1
theorem noLDs_cut {F' : Hp} (hs : ∀ a o, Lent σ δ is a → F' a = some o → softO o) : ∀ (ds : List D) (xs : List V), noLDs ds = true → RpL K F' ds xs → RpL K (cutF F' σ δ is) ds xs
  | [], xs, _, h => h
  | d :: ds, xs, n, h => by
    unfold RpL at h ⊢
    obtain ⟨x, r, rfl, h1, h2⟩ := h
    obtain ⟨n1, n2⟩ := Bool.and_eq_true_iff.mp n
    exact ⟨x, r, rfl, noLD_cut hs d x n1 h1, noLDs_cut hs ds r n2 h2⟩
end
end
def lentB (n : Nat) (is : List Nat) : Env' → Bool
  | [] => true
  | some (.o d) :: δ => (!decide (n ∈ is) || isLD d) && lentB (n + 1) is δ
  | _ :: δ => lentB (n + 1) is δ
theorem lentB_ok {is : List Nat} : ∀ {δ : Env'} {n : Nat}, lentB n is δ = true → ∀ j d, n + j ∈ is → δ[j]? = some (some (.o d)) → isLD d = true
  | [], _, _, j, d, _, h => by cases h
  | o :: δ, n, h, 0, d, hj, e => by
    simp at e
    subst e
    have h := (Bool.and_eq_true_iff.mp (show ((!decide (n ∈ is) || isLD d) && lentB (n + 1) is δ) = true from h)).1
    rw [decide_eq_true (show n ∈ is from hj)] at h
    simpa using h
  | o :: δ, n, h, j + 1, d, hj, e => by
    have h2 : lentB (n + 1) is δ = true := by
      cases o with
      | none => exact h
      | some c =>
        cases c with
        | o d' => exact (Bool.and_eq_true_iff.mp (show ((!decide (n ∈ is) || isLD d') && lentB (n + 1) is δ) = true from h)).2
        | p _ => exact h
        | u _ _ => exact h
        | n _ => exact h
        | s _ => exact h
    exact lentB_ok h2 j d (by rw [show n + 1 + j = n + (j + 1) by omega]; exact hj) (by simpa using e)
/-- e, to which the slots in is are lent -/
def dLend (is : List Nat) (t : TD) : TD := fun δ Q => lentB 0 is δ = true ∧ t (lendE 0 is δ) fun b δ' => δ' = lendE 0 is δ ∧ noLB b = true ∧ Q b δ
open Classical in
theorem de_lend {X : Cx} {W : Fix} {e : Expr} {t : TD} (is : List Nat) (h : ∀ W, DE X W e t) : DE X W e (dLend is t) := by
  refine ⟨fun F H σ δ Q S q => ?_⟩
  obtain ⟨ok, q⟩ := q
  have ok : LentOk δ is := fun j d hj => lentB_ok ok j d (by rw [Nat.zero_add]; exact hj)
  refine ((h _).run _ H σ _ _ (S.lend (is := is)) q).imp fun v H' z => ?_
  obtain ⟨F', b, δ', e1, S', r, _, rfl, nb, q⟩ := z
  have eF : Same F (lendF H F σ δ is) := fun a o h => by
    unfold lendF
    rw [if_neg (fun z => by
      obtain ⟨_, _, h2, _⟩ := z.at S
      rw [h] at h2
      cases h2)]
    exact h
  have inF : ∀ a, Lent σ δ is a → ∃ o, H a = some o ∧ F' a = some o ∧ H' a = some o := fun a z => by
    obtain ⟨d, hO, _⟩ := z.at S
    obtain ⟨o, ho⟩ := hO.some
    have e2 : lendF H F σ δ is a = some o := by
      unfold lendF
      rw [if_pos z]
      exact ho
    exact ⟨o, ho, e1 _ _ e2, S'.fh _ _ (e1 _ _ e2)⟩
  have hs : ∀ a o, Lent σ δ is a → F' a = some o → softO o := fun a o z h => by
    obtain ⟨o', g1, g2, _⟩ := inF a z
    rw [h] at g2
    cases g2
    exact z.soft S ok g1
  have keep : ∀ a, Kept σ δ is a ∨ W.P = some a → H' a = H a := fun a z => by
    have hex : ∃ o, H a = some o := by
      rcases z with z | z
      · exact (z.at S).2
      · exact (S.fp a z).2.1
    obtain ⟨o, ho⟩ := hex
    rw [ho]
    refine S'.h0 a o ?_ (fun w => by cases w)
    show (if Kept σ δ is a ∨ W.P = some a then H a else W.H0 a) = some o
    rw [if_pos z]
    exact ho
  have cutS : Same F (cutF F' σ δ is) := fun a o h => by
    unfold cutF
    rw [if_neg (fun z => by
      obtain ⟨_, _, h2, _⟩ := z.at S
      rw [h] at h2
      cases h2)]
    exact e1 _ _ (eF _ _ h)
  have ownOld : ∀ {j : Nat} {d : D} {a : Addr}, δ[j]? = some (some (.o d)) → σ[j]? = some (some (.ref a)) → H' a = H a := fun {j d a} h1 h2 => by
    by_cases hj : j ∈ is
    · obtain ⟨o, g1, _, g3⟩ := inF a ⟨j, d, hj, h1, h2⟩
      rw [g1, g3]
    · exact keep a (.inl ⟨j, .o d, fun z => hj z.1, h1, rfl, h2⟩)
  have cutN : ∀ a, F a = none → (Lent σ δ is a ∨ Kept σ δ is a ∨ W.P = some a) → cutF F' σ δ is a = none := fun a hF z => by
    unfold cutF
    by_cases zl : Lent σ δ is a
    · rw [if_pos zl]
    · rw [if_neg zl]
      have z := z.resolve_left zl
      cases q : F' a with
      | none => rfl
      | some o =>
        rcases S'.fr a o q with g | g
        · have := S.f0 a o g
          rw [hF] at this
          cases this
        · have g : (if Kept σ δ is a ∨ W.P = some a then H a else W.H0 a) = none := g
          rw [if_pos z] at g
          have hex : ∃ o, H a = some o := by
            rcases z with z | z
            · exact (z.at S).2
            · exact (S.fp a z).2.1
          obtain ⟨o', ho⟩ := hex
          rw [g] at ho
          cases ho
  have S2 : SD X.K W (cutF F' σ δ is) H' σ δ := by
    refine ⟨S.f0.trans cutS, fun a o g n => ?_, fun a o g => ?_, fun a o g => ?_, fun a g => ?_, S.len, fun i c g => ?_, S.sep⟩
    · by_cases z : Kept σ δ is a ∨ W.P = some a
      · rw [keep a z]
        exact S.h0 a o g n
      · refine S'.h0 a o ?_ (fun w => by cases w)
        show (if Kept σ δ is a ∨ W.P = some a then H a else W.H0 a) = some o
        rw [if_neg z]
        exact g
    · unfold cutF at g
      by_cases z : Lent σ δ is a
      · rw [if_pos z] at g
        cases g
      · rw [if_neg z] at g
        exact S'.fh a o g
    · unfold cutF at g
      by_cases z : Lent σ δ is a
      · rw [if_pos z] at g
        cases g
      · rw [if_neg z] at g
        rcases S'.fr a o g with w | w
        · exact .inl w
        · have w : (if Kept σ δ is a ∨ W.P = some a then H a else W.H0 a) = none := w
          by_cases y : Kept σ δ is a ∨ W.P = some a
          · rw [if_pos y] at w
            have hex : ∃ o, H a = some o := by
              rcases y with y | y
              · exact (y.at S).2
              · exact (S.fp a y).2.1
            obtain ⟨o', ho⟩ := hex
            rw [w] at ho
            cases ho
          · rw [if_neg y] at w
            exact .inr w
    · obtain ⟨h1, h2, h3⟩ := S.fp a g
      refine ⟨cutN a h1 (.inr (.inr g)), ?_, h3⟩
      rw [keep a (.inr g)]
      exact h2
    · obtain ⟨v, h1, h2⟩ := S.get i c g
      refine ⟨v, h1, ?_⟩
      cases c with
      | p d => exact Rp.mono cutS _ _ h2
      | n ds =>
        obtain ⟨t, xs, rfl, g1, g2, g3⟩ := h2
        exact ⟨t, xs, rfl, cutS _ _ g1, RpL.mono cutS _ _ g2, fun a ha => by
          obtain ⟨⟨ys, g4⟩, g5⟩ := g3 a ha
          exact ⟨⟨ys, cutS _ _ g4⟩, g5⟩⟩
      | o d =>
        obtain ⟨a, rfl, g1, g2, g3⟩ := h2
        have hl : Lent σ δ is a ∨ Kept σ δ is a := by
          by_cases hj : i ∈ is
          · exact .inl ⟨i, d, hj, g, h1⟩
          · exact .inr ⟨i, .o d, fun z => hj z.1, g, rfl, h1⟩
        refine ⟨a, rfl, cutN a g1 (hl.elim .inl fun z => .inr (.inl z)), g2, own_keep (d := d) g3 cutS fun o ho => ?_⟩
        rw [ownOld g h1]
        exact ho
      | u w m =>
        obtain ⟨a, x, y, z, rfl, g1, g2, g3, g4⟩ := h2
        have hk : Kept σ δ is a := ⟨i, _, (fun z => by obtain ⟨_, d, e⟩ := z; cases e), g, rfl, h1⟩
        refine ⟨a, x, y, z, rfl, cutN a g1 (.inr (.inl hk)), g2, ?_, g4⟩
        rw [keep a (.inl hk)]
        exact g3
      | s d =>
        obtain ⟨a, rfl, g1, g2, g3⟩ := h2
        have hk : Kept σ δ is a := ⟨i, _, (fun z => by obtain ⟨_, d', e⟩ := z; cases e), g, rfl, h1⟩
        refine ⟨a, rfl, cutN a g1 (.inr (.inl hk)), g2, own_keep (d := d) g3 cutS fun o ho => ?_⟩
        rw [keep a (.inl hk)]
        exact ho
  have sepN : ∀ {a : Addr}, F' a = none → (lendW W H σ δ is).H0 a = none → ∀ (j : Nat) (c : B), δ[j]? = some (some c) → c.own = true → σ[j]? ≠ some (some (.ref a)) := fun {a} g1 g2 j c h1 h2 h3 => by
    by_cases hj : j ∈ is ∧ ∃ d, c = .o d
    · obtain ⟨hj, d, rfl⟩ := hj
      obtain ⟨o, _, g4, _⟩ := inF a ⟨j, d, hj, h1, h3⟩
      rw [g1] at g4
      cases g4
    · have hk : Kept σ δ is a := ⟨j, c, hj, h1, h2, h3⟩
      have g2 : (if Kept σ δ is a ∨ W.P = some a then H a else W.H0 a) = none := g2
      rw [if_pos (.inl hk)] at g2
      obtain ⟨o, ho⟩ := (hk.at S).2
      rw [g2] at ho
      cases ho
  have fresh0 : ∀ {a : Addr}, (lendW W H σ δ is).H0 a = none → W.H0 a = none := fun {a} g => by
    have g : (if Kept σ δ is a ∨ W.P = some a then H a else W.H0 a) = none := g
    by_cases y : Kept σ δ is a ∨ W.P = some a
    · rw [if_pos y] at g
      have hex : ∃ o, H a = some o := by
        rcases y with y | y
        · exact (y.at S).2
        · exact (S.fp a y).2.1
      obtain ⟨o', ho⟩ := hex
      rw [g] at ho
      cases ho
    · rw [if_neg y] at g
      exact g
  cases b with
  | p d => exact ⟨_, .p d, δ, cutS, S2, noLD_cut hs d v nb r, (fun z => by cases z), q⟩
  | n ds => cases nb
  | u w m => cases nb
  | s d => cases nb
  | o d =>
    obtain ⟨a, rfl, g1, g2, g3⟩ := r
    have hcut : cutF F' σ δ is a = none := by
      unfold cutF
      split
      · rfl
      · exact g1
    refine ⟨_, .o d, δ, cutS, S2, ⟨a, rfl, hcut, fresh0 g2, ?_⟩, fun _ => sepN g1 g2, q⟩
    cases d <;> first | (cases nb; done) | skip
    · obtain ⟨xs, k1, k2⟩ := g3
      exact ⟨xs, k1, noLDs_cut hs _ _ nb k2⟩
    · obtain ⟨dx, xs, k1, k2, k3⟩ := g3
      exact ⟨dx, xs, k1, noLDs_cut hs _ _ nb k2, k3⟩
end DD

set_option Elab.async false
set_option linter.all false
set_option maxRecDepth 100000
set_option maxHeartbeats 4000000
/-! DD36: {(a, b): c}; len(set(ints)); a, b, .. = x, y, .. by way of a tuple. -/
namespace DD
open PySem PySem.Spec PyProof.Rows L2
section
variable {X : Cx} {W : Fix} {ek e : Expr} {tk tv : TD} {pos : Pos}
def dDctT (tk tv : TD) : TD := fun δ Q => dp tk δ fun y δ1 => dp tv δ1 fun d δ2 => ∃ k, keyT y = some k ∧ Q (.o (.dcT [k] [d])) δ2
theorem de_dctT (hu : X.A.units + 64 < cLine) (hk : ∀ W, DE X W ek tk) (hv : ∀ W, DE X W e tv) : DE X W (.Dict [some ek] [e] pos) (dDctT tk tv) :=
  .of (pe_dispT (X := X) (tk := cE X ek) (tv := cE X e) hu cE_pe cE_pe) fun F H σ δ Q S q p hp => by
    have S1 := S.newO (o := .dT []) hp
    have h0 := S.fresh0 hp
    have hF := S.freshF hp
    have hP : W.P ≠ some p := fun z => by
      obtain ⟨_, ⟨o, z2⟩, _⟩ := S.fp p z
      rw [hp] at z2
      cases z2
    have Sh := S1.held (o := .dT []) upd_same h0 hF hP fun j c h1 h2 h3 => by
      obtain ⟨u, h4, h5⟩ := S.get j c h1
      rw [h3] at h4
      cases h4
      obtain ⟨a', o, z, h6, _⟩ := h5.there h2
      cases z
      rw [hp] at h6
      cases h6
    refine ((hk (W.hold p (.dT []))).plain Sh q).imp fun v H1 h1 => ?_
    obtain ⟨F1, y, δ1, e1, S2, r1, q1⟩ := h1
    refine ((hv (W.hold p (.dT []))).plain S2 q1).imp fun v2 H2 h2 => ?_
    obtain ⟨F2, d, δ2, e2, S3, r2, k, hk, q2⟩ := h2
    obtain ⟨S4, h3, hF1, hn⟩ := S3.unheld h0 (S.f0.free hF) hP
    cases y <;> first | (cases hk; done) | skip
    obtain ⟨b, xs, rfl, g1, g2⟩ := rpTupS (Rp.mono e2 _ _ r1)
    rw [keyL_vals g2 hk] at g1
    refine ⟨h3, b, k, rfl, S4.fh _ _ g1, ?_⟩
    exact ⟨F2, .o (.dcT [k] [d]), δ2, e1.trans e2, S4.turn h0 hF1 hn, ⟨p, rfl, hF1, h0, [v2], upd_same, .cons r2 .nil, rfl⟩, fun _ => hn, q2⟩
end
/-! ### len(set(xs)), ints -/
/-- the different ones, in the order of first meeting -/
def dedup (ns : List Int) : List Int := firstMet (fun i => ns.getD i 0) ns.length
section
variable {X : Cx} {W : Fix} {a : Expr} {ta : TD} {p p2 q pos : Pos}
def tLenSetA (K : PySem.W.Frag) (ta : TE) : TE := fun σ H Q => ta σ H fun x H1 => ∃ (l : Addr) (ns : List Int), x = .ref l ∧ SqL K H1 l (ns.map V.int) ∧ ns.length ≤ 4000 ∧ Q (.int ((dedup ns).length : Nat)) H1
theorem dedup_len (ns : List Int) : (dedup ns).length ≤ ns.length := by
  have aux : ∀ i, (firstMet (fun i => ns.getD i 0) i).length ≤ i := fun i => by
    induction i with
    | zero => exact Nat.le_refl _
    | succ i ih =>
      rw [firstMet_succ]
      unfold step_dedup
      split
      · omega
      · rw [List.length_append, List.length_singleton]
        omega
  exact aux ns.length
theorem pe_lenSetA {ta : TE} (hc : X.calm = true) (hg : Gl X "len") (hm : X.mg "len" = none) (hg2 : Gl X "set") (hm2 : X.mg "set" = none) (ha : PE X a ta)
    (na : starEach [a] X.env = (false, eval a X.env) :: starEach [] X.env := by rfl) : PE X (.Call (.Name "len" p) [.Call (.Name "set" p2) [a] [] q] [] pos) (tLenSetA X.K ta) := by
  refine ⟨fun pins s σ H Q I h => ?_⟩
  refine Call_ (ld_blt I hg hm PySem.boot_len ?_)
  refine PyProof.Rows.callWith_builtin1 (PyProof.Rows.args_cons ?_ rfl) rfl rfl
  refine Call_ (ld_blt I hg2 hm2 PyProof.Rows.boot_set ?_)
  refine PyProof.Rows.callWith_type1 (PyProof.Rows.args_cons (thn (ha.run pins s σ H _ I h) fun v s1 ⟨x, H1, I1, r1, q1⟩ => PyProof.Rows.args_nil ?_) na) na rfl
  obtain ⟨l, ns, rfl, hq, h1, q1⟩ := q1
  cases r1
  obtain ⟨its, r, pl, hz⟩ := I1.list hq
  have hl : its.toArray.size = ns.length := by rw [List.size_toArray, ← r.length, List.length_map]
  refine call_set_list (I1.ok.hd hc) pl.isList (ns := ns) (by simpa using intsAre_of r) (by unfold scanBound; omega) fun h' tk hS hk => ?_
  rw [hl] at hS
  refine PyProof.Rows.args_nil ?_
  obtain ⟨o, es, ep, t, ho, hex, hd, _, _, _, hf, hn⟩ := hS
  have I2 : Inv X pins σ H1 { s1 with heap := h', toks := tk } := I1.kept fun b o e => hk b o (Heap.lt_size e) e
  have hb : (dedup ns).length ≤ ns.length := dedup_len ns
  have hn' : (dedup ns).length = _ := hn.symm
  exact call_len_set ho hex hd hf (by rw [hn]; show (((dedup ns).length : Nat) : Int) < _; omega) ⟨.int ((dedup ns).length : Nat), H1, I2.tok _, ⟨_, by rw [hn]; rfl⟩, q1⟩
def dLenSetA (ta : TD) : TD := fun δ Q => dp ta δ fun d δ1 => ∃ ns : List Int, d = .lst (ns.map D.int) ∧ ns.length ≤ 4000 ∧ Q (.p (.int ((dedup ns).length : Nat))) δ1
theorem de_lenSetA (hc : X.calm = true) (hm : X.mg "len" = none) (hm2 : X.mg "set" = none) (h : DE X W a ta) (hg : Gl X "len" := by exact rfl) (hg2 : Gl X "set" := by exact rfl)
    (na : starEach [a] X.env = (false, eval a X.env) :: starEach [] X.env := by rfl) : DE X W (.Call (.Name "len" p) [.Call (.Name "set" p2) [a] [] q] [] pos) (dLenSetA ta) :=
  .of (pe_lenSetA (X := X) hc hg hm hg2 hm2 cE_pe na) fun F H σ δ Q S z => by
    refine (h.plain S z).imp fun v H1 h1 => ?_
    obtain ⟨F1, d, δ1, e1, S1, r1, ns, rfl, hl, q1⟩ := h1
    obtain ⟨l, ys, rfl, h3, h4⟩ := rpLst r1
    rw [RpL.int h4] at h3
    exact ⟨l, ns, rfl, SqL.of (S1.fh _ _ h3), hl, (mkP (Q := fun b => Q b δ1) S1 rp_int q1).fix e1⟩
end
/-! ### by way of a tuple -/
section
variable {X : Cx} {W : Fix} {t : TDB} {F H : Hp}
/-- targets that are names -/
structure Nms (X : Cx) (tgs : List Expr) (ns : List Nat) : Prop where
  run : ∀ (pins : List (Addr × Obj)) (s : Shared) (σ : L2.St) (H : Hp) (vs : List V) (us : List Value), Inv X pins σ H s → Vals vs us → vs.length = ns.length →
    wpAny (model X.prog X.w) X.A (assignInOrder ((assignEach tgs X.env).map (·.2)) us) (fun _ s' => Inv X pins ((ns.zip vs).foldl (fun τ p => τ.set p.1 (some p.2)) σ) H s') X.xe s
theorem nms_nil : Nms X [] [] := ⟨fun pins s σ H vs us I r hl => by
  have e : vs = [] := List.length_eq_zero_iff.mp hl
  subst e
  cases r
  exact assignInOrder_nil I⟩
theorem nms_cons {i : Nat} {x : Str} {p : Pos} {tgs : List Expr} {ns : List Nat} (hN : X.N.Nodup) (hi : X.N[i]? = some x) (h : Nms X tgs ns) (hx : Loc X.env.scope x := by first | exact Or.inl rfl | exact Or.inr rfl) (hf : X.fn x = true ∨ X.env.scope.names.lookup x = some .local := by first | exact .inl rfl | exact .inr rfl | assumption)
    (hs : (assignEach (.Name x p :: tgs) X.env).map (·.2) = assign (.Name x p) X.env :: (assignEach tgs X.env).map (·.2) := by rfl) : Nms X (.Name x p :: tgs) (i :: ns) := ⟨fun pins s σ H vs us I r hl => by
  cases r with
  | nil => cases hl
  | @cons v u vs us r rr =>
    rw [hs]
    refine assignInOrder_cons (thn ((pg_name (X := X) (pos := p) hN hi hx hf).run pins s σ H v u (fun σ' H' => σ' = σ.set i (some v) ∧ H' = H) I r ⟨rfl, rfl⟩) fun _ s1 h1 => ?_)
    obtain ⟨σ1, H1, I1, rfl, rfl⟩ := h1
    exact h.run pins s1 _ _ vs us I1 rr (by simpa using hl)⟩
def gTupV (K : PySem.W.Frag) (ns : List Nat) : TG := fun v σ H Q => ∃ a xs, v = .ref a ∧ SqT K H a xs ∧ xs.length = ns.length ∧ Q ((ns.zip xs).foldl (fun τ p => τ.set p.1 (some p.2)) σ) H
theorem pg_tupV {tgs : List Expr} {ns : List Nat} {k : Nat} {pos : Pos} (hc : X.calm = true) (h : Nms X tgs ns) (hn : (assignEach tgs X.env).length = ns.length := by rfl) (hst : (assignEach tgs X.env).findIdx? (·.1) = none := by rfl) : PG X (.Tuple tgs k pos) (gTupV X.K ns) := by
  refine ⟨fun pins s σ H v u Q I r hw => ?_⟩
  obtain ⟨a, xs, rfl, hq, hl, hw⟩ := hw
  cases r
  obtain ⟨its, rv, ht, hz⟩ := I.tuple hq
  refine assign_Tuple_tuple (I.ok.hd hc) ht (by simp [hn, ← hl, rv.length]) hst fun h' hx => ?_
  have I1 : Inv X pins σ H { s with heap := h' } := I.kept (t' := s.toks) fun b o e => hx b o (Nat.ne_of_lt (Heap.lt_size e)) e
  exact thn (h.run pins _ σ H xs _ I1 (by simpa using rv) hl) fun _ s' I' => ⟨_, H, I', hw⟩
theorem ds_parT {tgs es : List Expr} {ns : List Nat} {k k2 : Nat} {pt pt2 pos : Pos} (hc : X.calm = true) (hnd : ns.Nodup) (hsm : ns.length ≤ 64) (hg : Nms X tgs ns) (h : DB X es t)
    (hn : (assignEach tgs X.env).length = ns.length := by rfl) (hst : (assignEach tgs X.env).findIdx? (·.1) = none := by rfl)
    (hs : swapsWithSole [.Tuple tgs k pt] (.Tuple es k2 pt2) pos.line X.env = pure false := by rfl) (hw : swappedStores [.Tuple tgs k pt] (.Tuple es k2 pt2) X.env = pure none := by rfl)
    (h1 : (assignEach [.Tuple tgs k pt] X.env).map (·.2) = [assign (.Tuple tgs k pt) X.env] := by rfl) : DS X W (.Assign [.Tuple tgs k pt] (.Tuple es k2 pt2) pos) (dPar ns t) :=
  .of (ps_asg (X := X) (pe_tup (cA_pa (es := es))) (pg_tupV hc hg hn hst) hs hw h1) fun F H σ δ D S q => by
    refine (h.run W F H σ δ _ S q).imp fun vs H1 h1 => ?_
    obtain ⟨F1, bs, δ1, e1, S1, T, hl, q1⟩ := h1
    have hv : vs.length = bs.length := (Paired.length T.rb).symm
    refine ⟨?_, fun p hp => ?_⟩
    · rw [hv, hl]
      exact Nat.le_trans hsm (by decide)
    have S2 := S1.newO (o := .tup vs) hp
    have T2 : BsAt X.K W F1 (upd H1 p (.tup vs)) σ δ1 bs vs := ⟨Paired.mapP T.rb fun b v r => RB.keep r (Same.refl F1) (fun a o _ _ z => by rw [upd_ne (ne_of_none z hp)]; exact z) (fun _ _ _ z => z), T.off, T.sep, T.noU⟩
    obtain ⟨σ', δ', e2, e3, S3⟩ := S2.puts (is := []) (ns := ns) hnd hl.symm T2
    refine ⟨p, vs, rfl, SqT.of upd_same, by rw [hv, hl], F1, δ', ?_, by rw [e3]; exact q1⟩
    rw [e2] at S3
    exact S3
end
end DD

set_option Elab.async false
set_option linter.all false
set_option maxRecDepth 100000
set_option maxHeartbeats 4000000
/-! DD37: while by an invariant and a measure; tables of ints. -/
namespace DD
open PySem PySem.Spec PyProof.Rows L2
theorem while_inv {tc : TDT} {tb : TSD} {Z : EndsD} (I : Nat → Env' → Prop)
    (step : ∀ m δ, I m δ → ∀ N : Env' → Prop, (∀ m' δ', m' < m → I m' δ' → N δ') → tc δ fun k δ1 => if k = true then tb { Z with nx := N, ct := N, bk := Z.nx } δ1 else Z.nx δ1) {m : Nat} {δ : Env'} (h : I m δ) : dWhile tc tb Z δ := by
  have key : ∀ m δ, I m δ → ∀ f, m ≤ f → whileN tc tb Z (f + 1) δ := by
    intro m
    induction m using Nat.strongRecOn with
    | _ m ih =>
      intro δ h f hf
      show tc δ fun k δ1 => if k = true then tb { Z with nx := whileN tc tb Z f, ct := whileN tc tb Z f, bk := Z.nx } δ1 else Z.nx δ1
      refine step m δ h _ fun m' δ' hm hi => ?_
      cases f with
      | zero => omega
      | succ f => exact ih m' hm δ' hi f (by omega)
  exact ⟨m + 1, key m δ h m (Nat.le_refl _)⟩
/-- for over a list of data of one kind, by what was taken so far -/
theorem forL_run {α : Type} (f : α → D) (I : List α → Env' → Prop) {g : TGD} {tb : TSD} {Z : EndsD} : ∀ {l pre : List α} {δ : Env'},
    (∀ (p : List α) (a : α) (r : List α) (δ : Env'), pre ++ l = p ++ a :: r → I p δ → ∀ N : Env' → Prop, (∀ δ', I (p ++ [a]) δ' → N δ') → g (f a) δ fun δ1 => tb { Z with nx := N, ct := N, bk := Z.nx } δ1) →
    (∀ δ, I (pre ++ l) δ → Z.nx δ) → I pre δ → forL g tb Z (l.map f) δ
  | [], pre, δ, _, hd, h => hd δ (by rw [List.append_nil]; exact h)
  | a :: l, pre, δ, hs, hd, h => by
    show g (f a) δ fun δ1 => tb { Z with nx := forL g tb Z (l.map f), ct := forL g tb Z (l.map f), bk := Z.nx } δ1
    refine hs pre a l δ rfl h _ fun δ' h' => ?_
    exact forL_run f I (l := l) (pre := pre ++ [a]) (fun p b r δ e => hs p b r δ (by rw [← e, List.append_assoc]; rfl)) (fun δ h => hd δ (by rw [List.append_assoc] at h; exact h)) h'
theorem upto_map {n : Nat} : upto 0 n = (List.range n).map fun i => D.int (i : Nat) := by
  unfold upto
  congr 1
  funext i
  rw [Int.zero_add]
/-- comprehensions over data of one kind -/
theorem lcL_mapA {α : Type} {g : TGD} {tt : TDT} {te : TD} {vs : List Nat} {Q : List D → Env' → Prop} {δ : Env'} (f : α → D) (t : α → Bool) (h : α → D) (e1 e2 : α → Env') : ∀ {l : List α} {acc : List D},
    (∀ a ∈ l, ∀ (Y : D → Env' → Prop) (N : Env' → Prop), (t a = true → Y (h a) (e1 a)) → (t a = false → N (e2 a)) → g (f a) δ fun δ1 => tt δ1 fun k δ2 => if k = true then dp te δ2 Y else N δ2) →
    (∀ a ∈ l, wipeE (e1 a) vs = δ ∧ wipeE (e2 a) vs = δ) → acc.length + l.length ≤ sizeLine → Q (acc ++ (l.filter t).map h) δ → lcL g tt te vs Q (l.map f) acc δ
  | [], acc, _, _, _, q => by
    have q : Q (acc ++ []) δ := q
    rw [List.append_nil] at q
    exact q
  | a :: l, acc, hs, hw, hz, q => by
    obtain ⟨w1, w2⟩ := hw a List.mem_cons_self
    rw [List.length_cons] at hz
    refine hs a List.mem_cons_self _ _ (fun hf => ⟨by omega, ?_⟩) fun hf => ?_
    · rw [w1]
      refine lcL_mapA f t h e1 e2 (fun d' hd' => hs d' (List.mem_cons_of_mem _ hd')) (fun d' hd' => hw d' (List.mem_cons_of_mem _ hd')) (by rw [List.length_append, List.length_singleton]; omega) ?_
      rw [List.filter_cons_of_pos hf, List.map_cons] at q
      rw [List.append_assoc]
      exact q
    · rw [w2]
      refine lcL_mapA f t h e1 e2 (fun d' hd' => hs d' (List.mem_cons_of_mem _ hd')) (fun d' hd' => hw d' (List.mem_cons_of_mem _ hd')) (by omega) ?_
      rw [List.filter_cons_of_neg (by rw [hf]; decide)] at q
      exact q
theorem lcL_allA {α : Type} {g : TGD} {tt : TDT} {te : TD} {vs : List Nat} {Q : List D → Env' → Prop} {δ : Env'} (f h : α → D) (e1 : α → Env') {l : List α} {acc : List D}
    (hs : ∀ a ∈ l, ∀ (Y : D → Env' → Prop) (N : Env' → Prop), Y (h a) (e1 a) → g (f a) δ fun δ1 => tt δ1 fun k δ2 => if k = true then dp te δ2 Y else N δ2)
    (hw : ∀ a ∈ l, wipeE (e1 a) vs = δ) (hz : acc.length + l.length ≤ sizeLine) (q : Q (acc ++ l.map h) δ) : lcL g tt te vs Q (l.map f) acc δ :=
  lcL_mapA f (fun _ => true) h e1 e1 (fun a ha Y N y n => hs a ha Y N (y rfl)) (fun a ha => ⟨hw a ha, hw a ha⟩) hz (by rw [show l.filter (fun _ => true) = l from List.filter_eq_self.mpr fun _ _ => rfl]; exact q)
theorem dcL_mapA {α : Type} {g : TGD} {tt : TDT} {tk tv : TD} {vs : List Nat} {Q : List Key → List D → Env' → Prop} {δ : Env'} (f kd fv : α → D) (fk : α → Key) (e1 : α → Env') : ∀ {l : List α} {ks : List Key} {es : List D},
    (∀ a ∈ l, ∀ (Y : D → D → Env' → Prop) (N : Env' → Prop), Y (kd a) (fv a) (e1 a) → g (f a) δ fun δ1 => tt δ1 fun k δ2 => if k = true then dp tk δ2 fun y δ3 => dp tv δ3 fun z δ4 => Y y z δ4 else N δ2) →
    (∀ a ∈ l, keyD (kd a) = some (fk a) ∧ wipeE (e1 a) vs = δ) → ks.length + l.length ≤ sizeLine → (∀ a ∈ l, fk a ∉ ks) → (l.map fk).Nodup → Q (ks ++ l.map fk) (es ++ l.map fv) δ → dcL g tt tk tv vs Q (l.map f) ks es δ
  | [], ks, es, _, _, _, _, _, q => by
    have q : Q (ks ++ []) (es ++ []) δ := q
    rw [List.append_nil, List.append_nil] at q
    exact q
  | d :: ds, ks, es, hs, hw, hz, hn, hd, q => by
    obtain ⟨w1, w2⟩ := hw d List.mem_cons_self
    rw [List.length_cons] at hz
    refine hs d List.mem_cons_self (fun y z δ4 => ∃ c, keyD y = some c ∧ ks.length < sizeLine ∧ dcL g tt tk tv vs Q (ds.map f) (putG ks es c z).1 (putG ks es c z).2 (wipeE δ4 vs)) (fun δ2 => dcL g tt tk tv vs Q (ds.map f) ks es (wipeE δ2 vs)) ⟨fk d, w1, by omega, ?_⟩
    rw [w2, putG_new (hn d List.mem_cons_self)]
    rw [List.map_cons, List.nodup_cons] at hd
    refine dcL_mapA f kd fv fk e1 (fun d' hd' => hs d' (List.mem_cons_of_mem _ hd')) (fun d' hd' => hw d' (List.mem_cons_of_mem _ hd')) (by rw [List.length_append, List.length_singleton]; omega) (fun d' hd' => ?_) hd.2 ?_
    · rw [List.mem_append, List.mem_singleton]
      rintro (z | z)
      · exact hn d' (List.mem_cons_of_mem _ hd') z
      · exact hd.1 (List.mem_map.mpr ⟨d', hd', z⟩)
    · rw [List.append_assoc, List.append_assoc]
      exact q
/-- enumerate -/
theorem enumD_map {α : Type} {f : α → D} : ∀ {l : List α} {k : Nat}, enumD k (l.map f) = (l.zipIdx k).map fun p => D.tup [.int (p.2 : Nat), f p.1]
  | [], _ => rfl
  | a :: l, k => by
    show D.tup [.int (k : Nat), f a] :: enumD (k + 1) (l.map f) = _
    rw [enumD_map, List.zipIdx_cons, List.map_cons]
theorem zipIdx_fst {α β : Type} (g : α → β) : ∀ {l : List α} {k : Nat}, (l.zipIdx k).map (fun p => g p.1) = l.map g
  | [], _ => rfl
  | a :: l, k => by rw [List.zipIdx_cons, List.map_cons, List.map_cons, zipIdx_fst g]
theorem zipIdx_snd {α β : Type} (g : Nat → β) : ∀ {l : List α} {k : Nat}, (l.zipIdx k).map (fun p => g p.2) = (List.range' k l.length).map g
  | [], _ => rfl
  | a :: l, k => by
    rw [List.zipIdx_cons, List.map_cons, zipIdx_snd g, List.length_cons]
    rfl
section
variable {X : Cx} {W : Fix} {pos : Pos}
def dDctT0 : TD := fun δ Q => Q (.o (.dcT [] [])) δ
theorem de_dctT0 : DE X W (.Dict [] [] pos) dDctT0 := .of (pe_dnewT (X := X)) fun F H σ δ Q S q p hp => .mkO (d := .dcT [] []) S hp ⟨[], upd_same, .nil, rfl⟩ q
end
/-! ### keys that are ints -/
theorem lookG_map {α κ : Type} [DecidableEq κ] {f : α → κ} {g : α → D} (hf : ∀ a b, f a = f b → a = b) : ∀ {l : List α} {a : α}, a ∈ l → lookG (l.map f) (l.map g) (f a) = some (g a)
  | b :: l, a, h => by
    show (if f b = f a then some (g b) else lookG (l.map f) (l.map g) (f a)) = some (g a)
    by_cases e : f b = f a
    · rw [if_pos e, hf b a e]
    · rw [if_neg e]
      rcases List.mem_cons.mp h with rfl | h
      · exact absurd rfl e
      · exact lookG_map hf h
theorem lookG_not {κ : Type} [DecidableEq κ] {k : κ} : ∀ {ks : List κ} {ds : List D}, k ∉ ks → lookG ks ds k = none
  | [], _, _ => by simp [lookG]
  | _ :: _, [], _ => by simp [lookG]
  | j :: ks, d :: ds, h => by
    rw [List.mem_cons, not_or] at h
    unfold lookG
    rw [if_neg (fun z => h.1 z.symm)]
    exact lookG_not h.2
/-- the value of the key at place i -/
theorem lookG_at {κ : Type} [DecidableEq κ] {k : κ} {d : D} : ∀ {ks : List κ} {ds : List D} {i : Nat}, ks.Nodup → ks[i]? = some k → ds[i]? = some d → lookG ks ds k = some d
  | [], _, i, _, h, _ => by simp at h
  | j :: ks, [], i, _, _, h => by simp at h
  | j :: ks, d' :: ds, 0, _, h, g => by
    simp at h g
    subst h g
    unfold lookG
    rw [if_pos rfl]
  | j :: ks, d' :: ds, i + 1, n, h, g => by
    rw [List.nodup_cons] at n
    rw [List.getElem?_cons_succ] at h g
    unfold lookG
    rw [if_neg (fun z => n.1 (by rw [z]; exact List.mem_of_getElem? h))]
    exact lookG_at n.2 h g
theorem atI_map {α : Type} {f : α → D} {l : List α} {i : Nat} {a : α} (h : l[i]? = some a) : atI (l.map f) (i : Int) = some (f a) := atI_nat (by rw [List.getElem?_map, h]; rfl)
end DD

set_option Elab.async false
set_option linter.all false
set_option maxRecDepth 100000
set_option maxHeartbeats 4000000
/-! DD38: a list against the empty list, whatever its items are. -/
namespace DD
open PySem PySem.Spec PyProof.Rows L2
def rNil (K : PySem.W.Frag) (t : Bool) : R2 := fun x y H Q => ∃ a b xs, x = .ref a ∧ y = .ref b ∧ SqL K H a xs ∧ SqL K H b [] ∧ Q (.bl (xs.isEmpty == t)) H
theorem nil_sizes {its itb : List Value} {xs : List V} (rv : Vals xs its) (rb : Vals [] itb) : itb.toArray.size = 0 ∧ (its.toArray.size = 0 ↔ xs.isEmpty = true) := by
  constructor
  · cases rb
    rfl
  · cases rv
    · exact ⟨fun _ => rfl, fun _ => rfl⟩
    · exact ⟨fun z => (by cases z), fun z => (by cases z)⟩
theorem op_eqNil {X : Cx} (hu : X.A.units + 64 < cLine) : OpR X (compareOp .Eq) (rNil X.K true) := by
  intro pins s σ H x y v u Q I rx ry h
  obtain ⟨a, b, xs, rfl, rfl, h1, h2, q⟩ := h
  cases rx
  cases ry
  obtain ⟨its, rv, ⟨o, n, ho, hc, _, hd⟩, _⟩ := I.list h1
  obtain ⟨itb, rb, ⟨o2, n2, ho2, hc2, _, hd2⟩, _⟩ := I.list h2
  obtain ⟨z1, z2⟩ := nil_sizes rv rb
  have l1 : s.heap.IsList a its.toArray := ⟨o, ho, hc, n, hd⟩
  have l2 : s.heap.IsList b itb.toArray := ⟨o2, ho2, hc2, n2, hd2⟩
  by_cases hz : its.toArray.size = 0
  · rw [z2.mp hz] at q
    have e : (List.range its.toArray.size).all (fun _ => true) = true := by rw [hz]; rfl
    refine SeqAt.eq_listAt (e := fun _ => true) l1 l2 (by omega) (by omega) (fun j h1 _ => by omega) ?_
    rw [e]
    exact ⟨.bl _, H, I, rfl, q⟩
  · have e : xs.isEmpty = false := by
      cases w : xs.isEmpty with
      | false => rfl
      | true => exact absurd (z2.mpr w) hz
    rw [e] at q
    exact SeqAt.eq_list_lengthsAt l1 l2 (by rw [z1]; exact bne_iff_ne.mpr hz) (by omega) ⟨.bl _, H, I, rfl, q⟩
theorem op_neNil {X : Cx} (hu : X.A.units + 64 < cLine) : OpR X (compareOp .NotEq) (rNil X.K false) := by
  intro pins s σ H x y v u Q I rx ry h
  obtain ⟨a, b, xs, rfl, rfl, h1, h2, q⟩ := h
  cases rx
  cases ry
  obtain ⟨its, rv, ⟨o, n, ho, hc, _, hd⟩, _⟩ := I.list h1
  obtain ⟨itb, rb, ⟨o2, n2, ho2, hc2, _, hd2⟩, _⟩ := I.list h2
  obtain ⟨z1, z2⟩ := nil_sizes rv rb
  have l1 : s.heap.IsList a its.toArray := ⟨o, ho, hc, n, hd⟩
  have l2 : s.heap.IsList b itb.toArray := ⟨o2, ho2, hc2, n2, hd2⟩
  by_cases hz : its.toArray.size = 0
  · rw [z2.mp hz] at q
    have e : (List.range its.toArray.size).all (fun _ => true) = true := by rw [hz]; rfl
    refine SeqAt.RcNeAt.lists (e := fun _ => true) l1 l2 (by omega) (by omega) (fun j h1 _ => by omega) _ _ _ _ ?_
    rw [e]
    exact ⟨.bl _, H, I, rfl, q⟩
  · have e : xs.isEmpty = false := by
      cases w : xs.isEmpty with
      | false => rfl
      | true => exact absurd (z2.mpr w) hz
    rw [e] at q
    exact SeqAt.RcNeAt.lists_lengths l1 l2 (by rw [z1]; exact bne_iff_ne.mpr hz) (by omega) _ _ _ _ ⟨.bl _, H, I, rfl, q⟩
def nilG (t : Bool) : D → D → (B → Prop) → Prop := fun x y Q => ∃ ds, x = .lst ds ∧ y = .lst [] ∧ Q (.p (.bl (ds.isEmpty == t)))
theorem rd_nil {K : PySem.W.Frag} {t : Bool} : RD K (rNil K t) (nilG t) := by
  intro W F H σ δ x y c d Q Z S rc rd g hZ
  obtain ⟨ds, rfl, rfl, q⟩ := g
  obtain ⟨a, xs, rfl, h1, h2⟩ := rpLst rc
  obtain ⟨b, ys, rfl, h3, h4⟩ := rpLst rd
  cases h4
  refine ⟨a, b, xs, rfl, rfl, SqL.of (S.fh _ _ h1), SqL.of (S.fh _ _ h3), hZ _ _ (mkP (d := .bl _) S rp_bl ?_)⟩
  have e : xs.isEmpty = ds.isEmpty := by
    have := h2.length
    cases xs <;> cases ds <;> first | rfl | cases this
  rw [e]
  exact q
def nilL (t : Bool) (c d : D) (Q : D → Prop) : Prop := ∃ ds, c = .lst ds ∧ d = .lst [] ∧ Q (.bl (ds.isEmpty == t))
theorem rl_nil {K : PySem.W.Frag} {t : Bool} : RL K (rNil K t) (nilL t) := by
  intro F H x y c d Q Z e lc ld g hZ
  obtain ⟨ds, rfl, rfl, q⟩ := g
  obtain ⟨a, xs, rfl, h1, h2⟩ := lc.lst e
  obtain ⟨b, ys, rfl, h3, h4⟩ := ld.lst e
  cases h4
  refine ⟨a, b, xs, rfl, rfl, SqL.of h1, SqL.of h3, hZ _ (.bl _) rp_bl ?_⟩
  have el : xs.isEmpty = ds.isEmpty := by
    have := h2.length
    cases xs <;> cases ds <;> first | rfl | cases this
  rw [el]
  exact q
theorem forL_ds (I : List D → Env' → Prop) {g : TGD} {tb : TSD} {Z : EndsD} {l : List D} {δ : Env'}
    (h : ∀ (p : List D) (a : D) (r : List D) (δ : Env'), l = p ++ a :: r → I p δ → ∀ N : Env' → Prop, (∀ δ', I (p ++ [a]) δ' → N δ') → g a δ fun δ1 => tb { Z with nx := N, ct := N, bk := Z.nx } δ1)
    (hd : ∀ δ, I l δ → Z.nx δ) (h0 : I [] δ) : forL g tb Z l δ := by
  have := forL_run (fun x => x) I (g := g) (tb := tb) (Z := Z) (l := l) (pre := []) (δ := δ) (fun p a r δ e => h p a r δ (by rw [List.nil_append] at e; exact e)) (fun δ => hd δ) h0
  rw [List.map_id'] at this
  exact this
/-- within a comprehension -/
theorem de_fldC {X : Cx} {W : Fix} {e : Expr} {f : Str} {pos : Pos} {te : TD} {K : PySem.W.Frag} (hK : X.K = K) (h : DE X W e te) (hb : attributeBase e f X.env (eval e X.env) = eval e X.env := by rfl) : DE X W (.Attribute e f pos) (dFld K f te) := by
  subst hK
  exact de_fld h hb
end DD

set_option linter.all false
/-! AU1: machines as plain lists: the states in the order of first meeting; renumbering. -/
namespace DD
abbrev MRow := Nat × Nat × Nat
def addN (o : List Nat) (s : Nat) : List Nat := if s ∈ o then o else o ++ [s]
def rowAt (rs : List MRow) (q : Nat) : MRow := rs.getD q (0, 0, 0)
def visit (rs : List MRow) (o : List Nat) (q : Nat) : List Nat := addN (addN (addN o (rowAt rs q).1) (rowAt rs q).2.1) (rowAt rs q).2.2
def bfs (rs : List MRow) : Nat → List Nat
  | 0 => [0]
  | k + 1 => if k < (bfs rs k).length then visit rs (bfs rs k) ((bfs rs k).getD k 0) else bfs rs k
/-- the rows of a machine -/
structure RowsOk (rs : List MRow) : Prop where
  pos : 0 < rs.length
  le : rs.length ≤ 3000
  lt : ∀ r ∈ rs, r.1 < rs.length ∧ r.2.1 < rs.length ∧ r.2.2 < rs.length
/-- states in some order, none twice -/
structure OrdOk (n : Nat) (o : List Nat) : Prop where
  nd : o.Nodup
  lt : ∀ x ∈ o, x < n
theorem OrdOk.len {n : Nat} {o : List Nat} (h : OrdOk n o) : o.length ≤ n := by
  have := h.nd.length_le_of_subset (l₂ := List.range n) fun x hx => List.mem_range.mpr (h.lt x hx)
  simpa using this
theorem OrdOk.add {n : Nat} {o : List Nat} {s : Nat} (h : OrdOk n o) (hs : s < n) : OrdOk n (addN o s) := by
  unfold addN
  by_cases e : s ∈ o
  · rw [if_pos e]
    exact h
  · rw [if_neg e]
    refine ⟨?_, fun x hx => ?_⟩
    · rw [List.nodup_append]
      exact ⟨h.nd, by simp, fun a ha b hb => by
        rw [List.mem_singleton.mp hb]
        exact fun z => e (z ▸ ha)⟩
    · rcases List.mem_append.mp hx with z | z
      · exact h.lt x z
      · rw [List.mem_singleton.mp z]
        exact hs
theorem RowsOk.at {rs : List MRow} (ok : RowsOk rs) {q : Nat} (h : q < rs.length) : rs[q]? = some (rowAt rs q) ∧ (rowAt rs q).1 < rs.length ∧ (rowAt rs q).2.1 < rs.length ∧ (rowAt rs q).2.2 < rs.length := by
  have e : rs[q]? = some rs[q] := List.getElem?_eq_getElem h
  have e2 : rowAt rs q = rs[q] := by
    unfold rowAt
    rw [List.getD_eq_getElem?_getD, e]
    rfl
  rw [e2]
  exact ⟨e, ok.lt _ (List.getElem_mem h)⟩
theorem OrdOk.visit {rs : List MRow} {o : List Nat} {q : Nat} (ok : RowsOk rs) (h : OrdOk rs.length o) (hq : q < rs.length) : OrdOk rs.length (visit rs o q) := by
  obtain ⟨_, h1, h2, h3⟩ := ok.at hq
  exact ((h.add h1).add h2).add h3
theorem bfs_ok {rs : List MRow} (ok : RowsOk rs) : ∀ k, OrdOk rs.length (bfs rs k)
  | 0 => ⟨by simp [bfs], fun x hx => by
    rw [List.mem_singleton.mp (show x ∈ [0] from hx)]
    exact ok.pos⟩
  | k + 1 => by
    unfold bfs
    by_cases h : k < (bfs rs k).length
    · rw [if_pos h]
      refine (bfs_ok ok k).visit ok ((bfs_ok ok k).lt _ ?_)
      rw [List.getD_eq_getElem?_getD, List.getElem?_eq_getElem h]
      exact List.getElem_mem h
    · rw [if_neg h]
      exact bfs_ok ok k
theorem addN_in {o : List Nat} {s : Nat} (h : s ∈ o) : addN o s = o := if_pos h
theorem addN_out {o : List Nat} {s : Nat} (h : s ∉ o) : addN o s = o ++ [s] := if_neg h
theorem addN_pre {o : List Nat} {s : Nat} : ∃ t, addN o s = o ++ t := by
  unfold addN
  split
  · exact ⟨[], (List.append_nil _).symm⟩
  · exact ⟨[s], rfl⟩
theorem mem_addN {o : List Nat} {s x : Nat} (h : x ∈ o) : x ∈ addN o s := by
  obtain ⟨t, e⟩ := addN_pre (o := o) (s := s)
  rw [e]
  exact List.mem_append_left _ h
theorem addN_mem {o : List Nat} {s : Nat} : s ∈ addN o s := by
  unfold addN
  split
  · assumption
  · exact List.mem_append_right _ (List.mem_singleton.mpr rfl)
theorem visit_pre {rs : List MRow} {o : List Nat} {q : Nat} : ∃ t, visit rs o q = o ++ t := by
  obtain ⟨t1, e1⟩ := addN_pre (o := o) (s := (rowAt rs q).1)
  obtain ⟨t2, e2⟩ := addN_pre (o := addN o (rowAt rs q).1) (s := (rowAt rs q).2.1)
  obtain ⟨t3, e3⟩ := addN_pre (o := addN (addN o (rowAt rs q).1) (rowAt rs q).2.1) (s := (rowAt rs q).2.2)
  refine ⟨t1 ++ t2 ++ t3, ?_⟩
  unfold visit
  rw [e3, e2, e1]
  simp [List.append_assoc]
theorem visit_mem {rs : List MRow} {o : List Nat} {q : Nat} : (rowAt rs q).1 ∈ visit rs o q ∧ (rowAt rs q).2.1 ∈ visit rs o q ∧ (rowAt rs q).2.2 ∈ visit rs o q :=
  ⟨mem_addN (mem_addN addN_mem), mem_addN addN_mem, addN_mem⟩
theorem visit_len {rs : List MRow} {o : List Nat} {q : Nat} : o.length ≤ (visit rs o q).length := by
  obtain ⟨t, e⟩ := visit_pre (rs := rs) (o := o) (q := q)
  rw [e, List.length_append]
  exact Nat.le_add_right _ _
theorem bfs_step {rs : List MRow} {k : Nat} (h : k < (bfs rs k).length) : bfs rs (k + 1) = visit rs (bfs rs k) ((bfs rs k).getD k 0) := if_pos h
theorem bfs_stop {rs : List MRow} {k : Nat} (h : (bfs rs k).length ≤ k) : ∀ j, bfs rs (k + j) = bfs rs k
  | 0 => rfl
  | j + 1 => by
    show (if k + j < (bfs rs (k + j)).length then _ else bfs rs (k + j)) = _
    rw [bfs_stop h j, if_neg (by omega)]
theorem bfs_end {rs : List MRow} {k : Nat} (h : (bfs rs k).length ≤ k) (hk : k ≤ rs.length) : bfs rs rs.length = bfs rs k := by
  have := bfs_stop h (rs.length - k)
  rw [show k + (rs.length - k) = rs.length by omega] at this
  exact this
theorem bfs_pre {rs : List MRow} : ∀ {k j : Nat}, ∃ t, bfs rs (k + j) = bfs rs k ++ t
  | k, 0 => ⟨[], (List.append_nil _).symm⟩
  | k, j + 1 => by
    obtain ⟨t, e⟩ := bfs_pre (rs := rs) (k := k) (j := j)
    show ∃ t, (if k + j < (bfs rs (k + j)).length then visit rs (bfs rs (k + j)) ((bfs rs (k + j)).getD (k + j) 0) else bfs rs (k + j)) = _
    split
    · obtain ⟨u, e2⟩ := visit_pre (rs := rs) (o := bfs rs (k + j)) (q := (bfs rs (k + j)).getD (k + j) 0)
      exact ⟨t ++ u, by rw [e2, e, List.append_assoc]⟩
    · exact ⟨t, e⟩
/-- all states that are met, in order -/
def met (rs : List MRow) : List Nat := bfs rs rs.length
theorem met_ok {rs : List MRow} (ok : RowsOk rs) : OrdOk rs.length (met rs) := bfs_ok ok _
theorem met_at {rs : List MRow} (ok : RowsOk rs) {i : Nat} (hi : i < (met rs).length) : i < (bfs rs i).length ∧ (bfs rs i).getD i 0 = (met rs)[i] ∧ i < rs.length := by
  have hl := (met_ok ok).len
  have hi2 : i < rs.length := by omega
  have h1 : i < (bfs rs i).length := by
    by_cases h : i < (bfs rs i).length
    · exact h
    · have e := bfs_end (rs := rs) (k := i) (by omega) (by omega)
      have : (met rs).length = (bfs rs i).length := by
        unfold met
        rw [e]
      omega
  refine ⟨h1, ?_, hi2⟩
  obtain ⟨t, e⟩ := bfs_pre (rs := rs) (k := i) (j := rs.length - i)
  rw [show i + (rs.length - i) = rs.length by omega] at e
  rw [List.getD_eq_getElem?_getD, List.getElem?_eq_getElem h1]
  have : (met rs)[i]? = some (bfs rs i)[i] := by
    unfold met
    rw [e, List.getElem?_append_left h1, List.getElem?_eq_getElem h1]
  rw [List.getElem?_eq_getElem hi] at this
  exact (Option.some.inj this).symm
theorem met_next {rs : List MRow} (ok : RowsOk rs) {i : Nat} (hi : i < (met rs).length) : ∃ t, met rs = visit rs (bfs rs i) (met rs)[i] ++ t := by
  obtain ⟨h1, h2, h3⟩ := met_at ok hi
  obtain ⟨t, e⟩ := bfs_pre (rs := rs) (k := i + 1) (j := rs.length - (i + 1))
  rw [show i + 1 + (rs.length - (i + 1)) = rs.length by omega, bfs_step h1, h2] at e
  exact ⟨t, e⟩
/-- what leads on stays within -/
theorem met_closed {rs : List MRow} (ok : RowsOk rs) : ∀ q ∈ met rs, (rowAt rs q).1 ∈ met rs ∧ (rowAt rs q).2.1 ∈ met rs ∧ (rowAt rs q).2.2 ∈ met rs := fun q hq => by
  obtain ⟨i, hi, rfl⟩ := List.getElem_of_mem hq
  obtain ⟨t, e⟩ := met_next ok hi
  obtain ⟨h1, h2, h3⟩ := visit_mem (rs := rs) (o := bfs rs i) (q := (met rs)[i])
  have sub : ∀ x, x ∈ visit rs (bfs rs i) (met rs)[i] → x ∈ met rs := fun x hx => by
    rw [e]
    exact List.mem_append_left _ hx
  exact ⟨sub _ h1, sub _ h2, sub _ h3⟩
theorem met_zero {rs : List MRow} : ∃ t, met rs = 0 :: t := by
  obtain ⟨t, e⟩ := bfs_pre (rs := rs) (k := 0) (j := rs.length)
  rw [Nat.zero_add] at e
  exact ⟨t, e⟩
/-! ### steps, words -/
def nxt (rs : List MRow) (q a : Nat) : Nat := match a with
  | 0 => (rowAt rs q).1
  | 1 => (rowAt rs q).2.1
  | _ => (rowAt rs q).2.2
def mrun (rs : List MRow) (q : Nat) (w : List Nat) : Nat := w.foldl (nxt rs) q
theorem nxt_lt {rs : List MRow} (ok : RowsOk rs) {q : Nat} (h : q < rs.length) (a : Nat) : nxt rs q a < rs.length := by
  obtain ⟨_, h1, h2, h3⟩ := ok.at h
  unfold nxt
  split
  · exact h1
  · exact h2
  · exact h3
theorem run_lt {rs : List MRow} (ok : RowsOk rs) : ∀ (w : List Nat) {q : Nat}, q < rs.length → mrun rs q w < rs.length
  | [], _, h => h
  | a :: w, q, h => run_lt ok w (q := nxt rs q a) (nxt_lt ok h a)
theorem nxt_met {rs : List MRow} (ok : RowsOk rs) {q : Nat} (h : q ∈ met rs) (a : Nat) : nxt rs q a ∈ met rs := by
  obtain ⟨h1, h2, h3⟩ := met_closed ok q h
  unfold nxt
  split
  · exact h1
  · exact h2
  · exact h3
theorem run_met {rs : List MRow} (ok : RowsOk rs) : ∀ (w : List Nat) {q : Nat}, q ∈ met rs → mrun rs q w ∈ met rs
  | [], _, h => h
  | a :: w, q, h => run_met ok w (q := nxt rs q a) (nxt_met ok h a)
theorem run_snoc {rs : List MRow} {q a : Nat} {w : List Nat} : mrun rs q (w ++ [a]) = nxt rs (mrun rs q w) a := by
  unfold mrun
  rw [List.foldl_append]
  rfl
theorem visit_of {rs : List MRow} {o : List Nat} {q x : Nat} (h : x ∈ visit rs o q) : x ∈ o ∨ ∃ a, a < 3 ∧ x = nxt rs q a := by
  have one : ∀ {o : List Nat} {s x : Nat}, x ∈ addN o s → x ∈ o ∨ x = s := fun {o s x} h => by
    unfold addN at h
    split at h
    · exact .inl h
    · rcases List.mem_append.mp h with z | z
      · exact .inl z
      · exact .inr (List.mem_singleton.mp z)
  rcases one h with h | rfl
  · rcases one h with h | rfl
    · rcases one h with h | rfl
      · exact .inl h
      · exact .inr ⟨0, by decide, rfl⟩
    · exact .inr ⟨1, by decide, rfl⟩
  · exact .inr ⟨2, by decide, rfl⟩
/-- what is met is reached -/
theorem bfs_reach {rs : List MRow} : ∀ k, ∀ x ∈ bfs rs k, ∃ w : List Nat, (∀ a ∈ w, a < 3) ∧ mrun rs 0 w = x
  | 0, x, hx => ⟨[], by simp, (List.mem_singleton.mp (show x ∈ [0] from hx)).symm⟩
  | k + 1, x, hx => by
    have hx : x ∈ (if k < (bfs rs k).length then visit rs (bfs rs k) ((bfs rs k).getD k 0) else bfs rs k) := hx
    by_cases h : k < (bfs rs k).length
    · rw [if_pos h] at hx
      rcases visit_of hx with hx | ⟨a, ha, rfl⟩
      · exact bfs_reach k x hx
      · have hm : (bfs rs k).getD k 0 ∈ bfs rs k := by
          rw [List.getD_eq_getElem?_getD, List.getElem?_eq_getElem h]
          exact List.getElem_mem h
        obtain ⟨w, h1, h2⟩ := bfs_reach k _ hm
        refine ⟨w ++ [a], fun b hb => ?_, by rw [run_snoc, h2]⟩
        rcases List.mem_append.mp hb with z | z
        · exact h1 b z
        · rw [List.mem_singleton.mp z]
          exact ha
    · rw [if_neg h] at hx
      exact bfs_reach k x hx
/-! ### renumbered -/
def plc (o : List Nat) (s : Nat) : Nat := o.idxOf s
theorem plc_lt {o : List Nat} {s : Nat} (h : s ∈ o) : plc o s < o.length := List.idxOf_lt_length_of_mem h
theorem plc_at {o : List Nat} {s : Nat} (h : s ∈ o) : o[plc o s]? = some s := by
  rw [List.getElem?_eq_getElem (plc_lt h)]
  exact congrArg some (List.getElem_idxOf (plc_lt h))
theorem plc_inj {o : List Nat} {s t : Nat} (h : s ∈ o) (g : t ∈ o) (e : plc o s = plc o t) : s = t := by
  have h1 := plc_at h
  rw [e, plc_at g] at h1
  exact (Option.some.inj h1).symm
def renRow (rs : List MRow) (o : List Nat) (q : Nat) : MRow := (plc o (rowAt rs q).1, plc o (rowAt rs q).2.1, plc o (rowAt rs q).2.2)
def renR (rs : List MRow) : List MRow := (met rs).map (renRow rs (met rs))
def renF (rs : List MRow) (fl : List Bool) : List Bool := (met rs).map fun q => fl.getD q false
theorem renR_len {rs : List MRow} : (renR rs).length = (met rs).length := List.length_map _
theorem renF_len {rs : List MRow} {fl : List Bool} : (renF rs fl).length = (met rs).length := List.length_map _
theorem renR_ok {rs : List MRow} (ok : RowsOk rs) : RowsOk (renR rs) where
  pos := by
    rw [renR_len]
    obtain ⟨t, e⟩ := met_zero (rs := rs)
    rw [e]
    exact Nat.succ_pos _
  le := by
    rw [renR_len]
    exact Nat.le_trans (met_ok ok).len ok.le
  lt := fun r hr => by
    obtain ⟨q, hq, rfl⟩ := List.mem_map.mp hr
    obtain ⟨h1, h2, h3⟩ := met_closed ok q hq
    rw [renR_len]
    exact ⟨plc_lt h1, plc_lt h2, plc_lt h3⟩
theorem renR_at {rs : List MRow} {q : Nat} (hq : q ∈ met rs) : rowAt (renR rs) (plc (met rs) q) = renRow rs (met rs) q := by
  unfold rowAt renR
  rw [List.getD_eq_getElem?_getD, List.getElem?_map, plc_at hq]
  rfl
theorem renR_nxt {rs : List MRow} {q a : Nat} (hq : q ∈ met rs) : nxt (renR rs) (plc (met rs) q) a = plc (met rs) (nxt rs q a) := by
  unfold nxt
  rw [renR_at hq]
  split <;> rfl
theorem renR_run {rs : List MRow} (ok : RowsOk rs) : ∀ (w : List Nat) {q : Nat}, q ∈ met rs → mrun (renR rs) (plc (met rs) q) w = plc (met rs) (mrun rs q w)
  | [], _, _ => rfl
  | a :: w, q, h => by
    show mrun (renR rs) (nxt (renR rs) (plc (met rs) q) a) w = plc (met rs) (mrun rs (nxt rs q a) w)
    rw [renR_nxt h]
    exact renR_run ok w (nxt_met ok h a)
theorem zero_met {rs : List MRow} : 0 ∈ met rs := by
  obtain ⟨t, e⟩ := met_zero (rs := rs)
  rw [e]
  exact List.mem_cons_self
theorem plc_zero {rs : List MRow} : plc (met rs) 0 = 0 := by
  obtain ⟨t, e⟩ := met_zero (rs := rs)
  unfold plc
  rw [e]
  simp
theorem renF_at {rs : List MRow} {fl : List Bool} {q : Nat} (hq : q ∈ met rs) : (renF rs fl).getD (plc (met rs) q) false = fl.getD q false := by
  unfold renF
  rw [List.getD_eq_getElem?_getD, List.getElem?_map, plc_at hq]
  rfl
/-- the marks that are accepted -/
def lang (rs : List MRow) (fl : List Bool) (w : List Nat) : Bool := fl.getD (mrun rs 0 w) false
theorem ren_lang {rs : List MRow} {fl : List Bool} (ok : RowsOk rs) (w : List Nat) : lang (renR rs) (renF rs fl) w = lang rs fl w := by
  unfold lang
  have h := renR_run ok w (q := 0) zero_met
  rw [plc_zero] at h
  rw [h, renF_at (run_met ok w zero_met)]
end DD

set_option linter.all false
/-! AU2: the least machine: classes of states, refined until they stay. -/
namespace DD
/-! ### what is there, each once -/
section
variable {κ : Type} [DecidableEq κ]
def addK (o : List κ) (s : κ) : List κ := if s ∈ o then o else o ++ [s]
def idxK (l : List κ) (k : κ) : Nat := l.idxOf k
def nubs (l : List κ) : List κ := l.foldl addK []
theorem addK_in {o : List κ} {s : κ} (h : s ∈ o) : addK o s = o := if_pos h
theorem addK_out {o : List κ} {s : κ} (h : s ∉ o) : addK o s = o ++ [s] := if_neg h
theorem mem_addK {o : List κ} {s x : κ} : x ∈ addK o s ↔ x ∈ o ∨ x = s := by
  unfold addK
  split
  · rename_i h
    exact ⟨.inl, fun z => z.elim id fun e => e ▸ h⟩
  · rw [List.mem_append, List.mem_singleton]
theorem nodup_addK {o : List κ} {s : κ} (h : o.Nodup) : (addK o s).Nodup := by
  unfold addK
  split
  · exact h
  · rename_i n
    rw [List.nodup_append]
    exact ⟨h, by simp, fun a ha b hb => by
      rw [List.mem_singleton.mp hb]
      exact fun z => n (z ▸ ha)⟩
theorem nubs_fold {l : List κ} : ∀ {o : List κ}, o.Nodup → (l.foldl addK o).Nodup ∧ ∀ x, x ∈ l.foldl addK o ↔ x ∈ o ∨ x ∈ l := by
  induction l with
  | nil => intro o h; exact ⟨h, fun x => by simp⟩
  | cons a l ih =>
    intro o h
    obtain ⟨h1, h2⟩ := ih (nodup_addK (s := a) h)
    refine ⟨h1, fun x => ?_⟩
    rw [List.foldl_cons, h2, mem_addK, List.mem_cons, or_assoc]
theorem nubs_nodup {l : List κ} : (nubs l).Nodup := (nubs_fold List.nodup_nil).1
theorem idxK_lt {l : List κ} {k : κ} (h : k ∈ l) : idxK l k < l.length := List.idxOf_lt_length_of_mem h
theorem idxK_at {l : List κ} {k : κ} (h : k ∈ l) : l[idxK l k]? = some k := by
  rw [List.getElem?_eq_getElem (idxK_lt h)]
  exact congrArg some (List.getElem_idxOf _)
theorem mem_nubs {l : List κ} {x : κ} : x ∈ nubs l ↔ x ∈ l := by
  unfold nubs
  rw [(nubs_fold List.nodup_nil).2]
  simp
theorem nubs_snoc {l : List κ} {x : κ} : nubs (l ++ [x]) = addK (nubs l) x := by
  unfold nubs
  rw [List.foldl_append]
  rfl
theorem nubs_le {l : List κ} : (nubs l).length ≤ l.length := nubs_nodup.length_le_of_subset fun x hx => mem_nubs.mp hx
/-- two lists of the same things, each once, are of one length -/
theorem len_eq {α : Type} {l m : List α} (h : l.Nodup) (g : m.Nodup) (e : ∀ x, x ∈ l ↔ x ∈ m) : l.length = m.length :=
  Nat.le_antisymm (h.length_le_of_subset fun x hx => (e x).mp hx) (g.length_le_of_subset fun x hx => (e x).mpr hx)
end
/-- a map onto is one to one where it is no shorter -/
theorem inj_of_len {α β : Type} [DecidableEq β] {f : α → β} : ∀ {l : List α}, l.Nodup → (nubs (l.map f)).length = l.length → ∀ a ∈ l, ∀ b ∈ l, f a = f b → a = b
  | [], _, _, a, ha, _, _, _ => by cases ha
  | x :: l, hn, hl, a, ha, b, hb, e => by
    rw [List.nodup_cons] at hn
    have le : (nubs (l.map f)).length ≤ l.length := by
      have := nubs_le (l := l.map f)
      rwa [List.length_map] at this
    have key : (nubs ((x :: l).map f)).length ≤ (nubs (l.map f)).length + 1 := by
      have h1 : (nubs ((x :: l).map f)).Nodup := nubs_nodup
      have h2 := h1.length_le_of_subset (l₂ := f x :: nubs (l.map f)) fun y hy => by
        rw [mem_nubs, List.map_cons, List.mem_cons] at hy
        rw [List.mem_cons, mem_nubs]
        exact hy
      simpa using h2
    rw [List.length_cons] at hl
    have ih := inj_of_len (f := f) hn.2 (by omega)
    have nin : f x ∉ l.map f := fun z => by
      have h1 : (nubs ((x :: l).map f)).Nodup := nubs_nodup
      have h2 := h1.length_le_of_subset (l₂ := nubs (l.map f)) fun y hy => by
        rw [mem_nubs, List.map_cons, List.mem_cons] at hy
        rw [mem_nubs]
        rcases hy with rfl | hy
        · exact z
        · exact hy
      omega
    rcases List.mem_cons.mp ha with ha2 | ha2
    · rcases List.mem_cons.mp hb with hb2 | hb2
      · rw [ha2, hb2]
      · exact absurd (show f x ∈ l.map f from List.mem_map.mpr ⟨b, hb2, by rw [← e, ha2]⟩) nin
    · rcases List.mem_cons.mp hb with hb2 | hb2
      · exact absurd (show f x ∈ l.map f from List.mem_map.mpr ⟨a, ha2, by rw [e, hb2]⟩) nin
      · exact ih a ha2 b hb2 e
/-! ### classes -/
abbrev KeyN := Nat × Nat × Nat × Nat
def cAt (c : List Nat) (q : Nat) : Nat := c.getD q 0
def keyN (rs : List MRow) (c : List Nat) (q : Nat) : KeyN := (cAt c q, cAt c (rowAt rs q).1, cAt c (rowAt rs q).2.1, cAt c (rowAt rs q).2.2)
def keysN (rs : List MRow) (c : List Nat) : List KeyN := (List.range rs.length).map (keyN rs c)
def refine1 (rs : List MRow) (c : List Nat) : List Nat := (keysN rs c).map fun k => idxK (nubs (keysN rs c)) k
theorem keysN_len {rs : List MRow} {c : List Nat} : (keysN rs c).length = rs.length := by
  unfold keysN
  rw [List.length_map, List.length_range]
theorem refine1_len {rs : List MRow} {c : List Nat} : (refine1 rs c).length = rs.length := by
  unfold refine1
  rw [List.length_map, keysN_len]
theorem refine1_at {rs : List MRow} {c : List Nat} {q : Nat} (h : q < rs.length) : cAt (refine1 rs c) q = idxK (nubs (keysN rs c)) (keyN rs c q) := by
  unfold cAt refine1
  rw [List.getD_eq_getElem?_getD, List.getElem?_map]
  have e : (keysN rs c)[q]? = some (keyN rs c q) := by
    unfold keysN
    rw [List.getElem?_map, List.getElem?_range h]
    rfl
  rw [e]
  rfl
theorem keyN_mem {rs : List MRow} {c : List Nat} {q : Nat} (h : q < rs.length) : keyN rs c q ∈ nubs (keysN rs c) :=
  mem_nubs.mpr (List.mem_map.mpr ⟨q, List.mem_range.mpr h, rfl⟩)
theorem idx_inj {κ : Type} [DecidableEq κ] {l : List κ} {a b : κ} (ha : a ∈ l) (hb : b ∈ l) (e : idxK l a = idxK l b) : a = b := by
  have e : l.idxOf a = l.idxOf b := e
  have h1 : l[l.idxOf a]? = some a := by
    rw [List.getElem?_eq_getElem (List.idxOf_lt_length_of_mem ha)]
    exact congrArg some (List.getElem_idxOf _)
  have h2 : l[l.idxOf b]? = some b := by
    rw [List.getElem?_eq_getElem (List.idxOf_lt_length_of_mem hb)]
    exact congrArg some (List.getElem_idxOf _)
  rw [e, h2] at h1
  exact (Option.some.inj h1).symm
theorem refine1_eq {rs : List MRow} {c : List Nat} {p q : Nat} (hp : p < rs.length) (hq : q < rs.length) : cAt (refine1 rs c) p = cAt (refine1 rs c) q ↔ keyN rs c p = keyN rs c q := by
  rw [refine1_at hp, refine1_at hq]
  exact ⟨idx_inj (keyN_mem hp) (keyN_mem hq), fun e => by rw [e]⟩
/-- how many classes there are -/
def manyN (c : List Nat) : Nat := (nubs c).length
theorem range_all {c : List Nat} : (List.range c.length).map (cAt c) = c := by
  apply List.ext_getElem?
  intro i
  rw [List.getElem?_map]
  by_cases h : i < c.length
  · rw [List.getElem?_range h, List.getElem?_eq_getElem h]
    show some (c.getD i 0) = _
    rw [List.getD_eq_getElem?_getD, List.getElem?_eq_getElem h]
    rfl
  · rw [List.getElem?_eq_none (by rw [List.length_range]; omega), List.getElem?_eq_none (by omega)]
    rfl
/-- the classes behind a turn are as many as the keys -/
theorem many_refine {rs : List MRow} {c : List Nat} : manyN (refine1 rs c) = (nubs (keysN rs c)).length := by
  have h : nubs (refine1 rs c) = nubs ((keysN rs c).map fun k => idxK (nubs (keysN rs c)) k) := rfl
  unfold manyN
  have e1 : ((nubs (keysN rs c)).map fun k => idxK (nubs (keysN rs c)) k).Nodup := by
    have hn : (nubs (keysN rs c)).Nodup := nubs_nodup
    rw [List.nodup_iff_pairwise_ne, List.pairwise_map]
    exact (List.Pairwise.imp_of_mem (fun {a b} ha hb (hne : a ≠ b) => fun z => hne (idx_inj ha hb z)) (List.nodup_iff_pairwise_ne.mp hn))
  rw [len_eq nubs_nodup e1 fun x => ?_, List.length_map]
  rw [mem_nubs]
  unfold refine1
  rw [List.mem_map, List.mem_map]
  constructor
  · rintro ⟨k, hk, rfl⟩
    exact ⟨k, mem_nubs.mpr hk, rfl⟩
  · rintro ⟨k, hk, rfl⟩
    exact ⟨k, mem_nubs.mp hk, rfl⟩
/-- there are at least as many keys as classes -/
theorem many_le {rs : List MRow} {c : List Nat} (hc : c.length = rs.length) : manyN c ≤ (nubs (keysN rs c)).length := by
  unfold manyN
  have h1 : nubs c = nubs ((nubs (keysN rs c)).map (·.1)) ∨ True := .inr trivial
  have h2 : (nubs c).length ≤ ((nubs (keysN rs c)).map (·.1)).length := nubs_nodup.length_le_of_subset fun x hx => by
    rw [mem_nubs, ← range_all (c := c), List.mem_map] at hx
    obtain ⟨q, hq, rfl⟩ := hx
    rw [hc] at hq
    exact List.mem_map.mpr ⟨keyN rs c q, keyN_mem (List.mem_range.mp hq), rfl⟩
  rwa [List.length_map] at h2
/-- where there are no more keys than classes, states of one class have one key -/
theorem stable_of {rs : List MRow} {c : List Nat} (hc : c.length = rs.length) (h : (nubs (keysN rs c)).length = manyN c) {p q : Nat} (hp : p < rs.length) (hq : q < rs.length) (e : cAt c p = cAt c q) : keyN rs c p = keyN rs c q := by
  refine inj_of_len (f := fun k : KeyN => k.1) (l := nubs (keysN rs c)) nubs_nodup ?_ _ (keyN_mem hp) _ (keyN_mem hq) e
  rw [h]
  unfold manyN
  refine len_eq nubs_nodup nubs_nodup fun x => ?_
  rw [mem_nubs, mem_nubs, List.mem_map]
  constructor
  · rintro ⟨k, hk, rfl⟩
    rw [mem_nubs] at hk
    obtain ⟨q, hq, rfl⟩ := List.mem_map.mp hk
    rw [List.mem_range] at hq
    show c.getD q 0 ∈ c
    rw [List.getD_eq_getElem?_getD, List.getElem?_eq_getElem (by omega)]
    exact List.getElem_mem _
  · intro hx
    rw [← range_all (c := c), List.mem_map] at hx
    obtain ⟨q, hq, rfl⟩ := hx
    rw [hc] at hq
    exact ⟨keyN rs c q, keyN_mem (List.mem_range.mp hq), rfl⟩
/-! ### states that read alike -/
def Same3 (w : List Nat) : Prop := ∀ a ∈ w, a < 3
def Alike (rs : List MRow) (fl : List Bool) (p q : Nat) : Prop := ∀ w, fl.getD (mrun rs p w) false = fl.getD (mrun rs q w) false
theorem Alike.next {rs : List MRow} {fl : List Bool} {p q : Nat} (h : Alike rs fl p q) (a : Nat) : Alike rs fl (nxt rs p a) (nxt rs q a) := fun w => h (a :: w)
/-- a classing that parts by acceptance, is kept by steps, and parts no states that read alike -/
structure Stab (rs : List MRow) (fl : List Bool) (c : List Nat) : Prop where
  len : c.length = rs.length
  acc : ∀ p q, p < rs.length → q < rs.length → cAt c p = cAt c q → fl.getD p false = fl.getD q false
  key : ∀ p q, p < rs.length → q < rs.length → cAt c p = cAt c q → keyN rs c p = keyN rs c q
  ali : ∀ p q, p < rs.length → q < rs.length → Alike rs fl p q → cAt c p = cAt c q
/-- .. on the way there -/
structure Part (rs : List MRow) (fl : List Bool) (c : List Nat) : Prop where
  len : c.length = rs.length
  acc : ∀ p q, p < rs.length → q < rs.length → cAt c p = cAt c q → fl.getD p false = fl.getD q false
  ali : ∀ p q, p < rs.length → q < rs.length → Alike rs fl p q → cAt c p = cAt c q
theorem key_next {rs : List MRow} {c : List Nat} {p q : Nat} (h : keyN rs c p = keyN rs c q) (a : Nat) : cAt c (nxt rs p a) = cAt c (nxt rs q a) := by
  unfold keyN at h
  simp only [Prod.mk.injEq] at h
  obtain ⟨_, h1, h2, h3⟩ := h
  unfold nxt
  split
  · exact h1
  · exact h2
  · exact h3
theorem Part.refine {rs : List MRow} {fl : List Bool} {c : List Nat} (ok : RowsOk rs) (h : Part rs fl c) : Part rs fl (refine1 rs c) where
  len := refine1_len
  acc := fun p q hp hq e => by
    have k := (refine1_eq hp hq).mp e
    exact h.acc p q hp hq (congrArg Prod.fst k)
  ali := fun p q hp hq al => by
    rw [refine1_eq hp hq]
    have n0 := h.ali _ _ (nxt_lt ok hp 0) (nxt_lt ok hq 0) (al.next 0)
    have n1 := h.ali _ _ (nxt_lt ok hp 1) (nxt_lt ok hq 1) (al.next 1)
    have n2 := h.ali _ _ (nxt_lt ok hp 2) (nxt_lt ok hq 2) (al.next 2)
    exact Prod.ext (h.ali p q hp hq al) (Prod.ext n0 (Prod.ext n1 n2))
theorem Part.stab {rs : List MRow} {fl : List Bool} {c : List Nat} (h : Part rs fl c) (hk : (nubs (keysN rs c)).length = manyN c) : Stab rs fl c :=
  ⟨h.len, h.acc, fun p q hp hq e => stable_of h.len hk hp hq e, h.ali⟩
theorem Stab.alike {rs : List MRow} {fl : List Bool} {c : List Nat} (ok : RowsOk rs) (h : Stab rs fl c) {p q : Nat} (hp : p < rs.length) (hq : q < rs.length) : cAt c p = cAt c q ↔ Alike rs fl p q := by
  refine ⟨fun e w => ?_, h.ali p q hp hq⟩
  induction w generalizing p q with
  | nil => exact h.acc p q hp hq e
  | cons a w ih => exact ih (nxt_lt ok hp a) (nxt_lt ok hq a) (key_next (h.key p q hp hq e) a)
/-- acceptance alone -/
def c01 (fl : List Bool) : List Nat := fl.map fun b => if b = true then 1 else 0
theorem c01_at {fl : List Bool} {q : Nat} (h : q < fl.length) : cAt (c01 fl) q = if fl.getD q false = true then 1 else 0 := by
  unfold cAt c01
  rw [List.getD_eq_getElem?_getD, List.getElem?_map, List.getD_eq_getElem?_getD, List.getElem?_eq_getElem h]
  rfl
theorem part_c01 {rs : List MRow} {fl : List Bool} (hl : fl.length = rs.length) : Part rs fl (c01 fl) where
  len := by
    unfold c01
    rw [List.length_map, hl]
  acc := fun p q hp hq e => by
    rw [c01_at (by omega), c01_at (by omega)] at e
    revert e
    cases fl.getD p false <;> cases fl.getD q false <;> simp
  ali := fun p q hp hq al => by
    rw [c01_at (by omega), c01_at (by omega)]
    have := al []
    have e : fl.getD p false = fl.getD q false := this
    rw [e]
/-- the classes that stay -/
def stay (rs : List MRow) : Nat → List Nat → List Nat
  | 0, c => c
  | k + 1, c => if (nubs (keysN rs c)).length = manyN c then c else stay rs k (refine1 rs c)
theorem stay_stab {rs : List MRow} {fl : List Bool} (ok : RowsOk rs) : ∀ (k : Nat) {c : List Nat}, Part rs fl c → rs.length ≤ manyN c + k → Stab rs fl (stay rs k c)
  | 0, c, h, hk => by
    have h1 := many_le (rs := rs) h.len
    have h2 := nubs_le (l := keysN rs c)
    rw [keysN_len] at h2
    exact h.stab (by omega)
  | k + 1, c, h, hk => by
    show Stab rs fl (if (nubs (keysN rs c)).length = manyN c then c else stay rs k (refine1 rs c))
    by_cases e : (nubs (keysN rs c)).length = manyN c
    · rw [if_pos e]
      exact h.stab e
    · rw [if_neg e]
      have h1 := many_le (rs := rs) h.len
      have h3 := many_refine (rs := rs) (c := c)
      exact stay_stab ok k (h.refine ok) (by omega)
def cls (rs : List MRow) (fl : List Bool) : List Nat := stay rs rs.length (c01 fl)
theorem cls_stab {rs : List MRow} {fl : List Bool} (ok : RowsOk rs) (hl : fl.length = rs.length) : Stab rs fl (cls rs fl) := stay_stab ok _ (part_c01 hl) (by omega)
/-! ### joined -/
def headN (c : List Nat) (x : Nat) : Nat := c.idxOf x
def joinRow (c : List Nat) (r : MRow) : MRow := (headN c (cAt c r.1), headN c (cAt c r.2.1), headN c (cAt c r.2.2))
def joinR (rs : List MRow) (c : List Nat) : List MRow := rs.map (joinRow c)
theorem cAt_mem {c : List Nat} {q : Nat} (h : q < c.length) : cAt c q ∈ c := by
  unfold cAt
  rw [List.getD_eq_getElem?_getD, List.getElem?_eq_getElem h]
  exact List.getElem_mem h
theorem head_lt {c : List Nat} {q : Nat} (h : q < c.length) : headN c (cAt c q) < c.length := List.idxOf_lt_length_of_mem (cAt_mem h)
theorem head_cls {c : List Nat} {q : Nat} (h : q < c.length) : cAt c (headN c (cAt c q)) = cAt c q := by
  have e : c[headN c (cAt c q)]? = some (cAt c q) := by
    rw [List.getElem?_eq_getElem (head_lt h)]
    exact congrArg some (List.getElem_idxOf _)
  show c.getD (headN c (cAt c q)) 0 = _
  rw [List.getD_eq_getElem?_getD, e]
  rfl
/-- the first state of a class does not depend on how classes are numbered -/
theorem head_eq {c c' : List Nat} (hl : c.length = c'.length) (h : ∀ p q, p < c.length → q < c.length → (cAt c p = cAt c q ↔ cAt c' p = cAt c' q)) {q : Nat} (hq : q < c.length) : headN c (cAt c q) = headN c' (cAt c' q) := by
  have key : ∀ {c c' : List Nat}, c.length = c'.length → (∀ p q, p < c.length → q < c.length → (cAt c p = cAt c q ↔ cAt c' p = cAt c' q)) → ∀ {q : Nat}, q < c.length → headN c (cAt c q) ≤ headN c' (cAt c' q) := by
    intro c c' hl h q hq
    have hq' : q < c'.length := by omega
    have h1 := head_cls hq'
    have h2 := head_lt hq'
    have h3 := (h _ _ (by omega) hq).mpr h1
    -- the first place of the class is no later
    have h4 : ∀ {l : List Nat} {i x : Nat}, l[i]? = some x → l.idxOf x ≤ i := by
      intro l
      induction l with
      | nil => intro i x e; simp at e
      | cons y l ih =>
        intro i x e
        rw [List.idxOf_cons]
        cases i with
        | zero =>
          simp at e
          subst e
          simp
        | succ i =>
          have := ih (i := i) (x := x) (by simpa using e)
          by_cases z : (y == x) = true
          · rw [z]
            simp
          · rw [Bool.eq_false_iff.mpr z]
            simp
            omega
    refine h4 ?_
    have e : c[headN c' (cAt c' q)]? = some (c.getD (headN c' (cAt c' q)) 0) := by
      rw [List.getD_eq_getElem?_getD, List.getElem?_eq_getElem (by omega)]
      rfl
    rw [e]
    exact congrArg some h3
  exact Nat.le_antisymm (key hl h hq) (key hl.symm (fun p q hp hq => (h p q (by omega) (by omega)).symm) (by omega))
theorem joinR_eq {rs : List MRow} {fl : List Bool} {c c' : List Nat} (ok : RowsOk rs) (h : Stab rs fl c) (g : Stab rs fl c') : joinR rs c = joinR rs c' := by
  have key : ∀ q, q < rs.length → headN c (cAt c q) = headN c' (cAt c' q) := fun q hq => head_eq (by rw [h.len, g.len]) (fun p q hp hq => by
    rw [h.len] at hp hq
    rw [h.alike ok hp hq, g.alike ok hp hq]) (by rw [h.len]; exact hq)
  unfold joinR
  refine List.map_congr_left fun r hr => ?_
  obtain ⟨h1, h2, h3⟩ := ok.lt r hr
  unfold joinRow
  rw [key _ h1, key _ h2, key _ h3]
theorem joinR_len {rs : List MRow} {c : List Nat} : (joinR rs c).length = rs.length := List.length_map _
theorem joinR_ok {rs : List MRow} {fl : List Bool} {c : List Nat} (ok : RowsOk rs) (h : Stab rs fl c) : RowsOk (joinR rs c) where
  pos := by
    rw [joinR_len]
    exact ok.pos
  le := by
    rw [joinR_len]
    exact ok.le
  lt := fun r hr => by
    obtain ⟨r', hr', rfl⟩ := List.mem_map.mp hr
    obtain ⟨h1, h2, h3⟩ := ok.lt r' hr'
    rw [joinR_len, ← h.len]
    exact ⟨head_lt (by rw [h.len]; exact h1), head_lt (by rw [h.len]; exact h2), head_lt (by rw [h.len]; exact h3)⟩
/-! ### the least machine -/
def jnR (rs : List MRow) (fl : List Bool) : List MRow := joinR (renR rs) (cls (renR rs) (renF rs fl))
def lstR (rs : List MRow) (fl : List Bool) : List MRow := renR (jnR rs fl)
def lstF (rs : List MRow) (fl : List Bool) : List Bool := renF (jnR rs fl) (renF rs fl)
theorem ren_stab {rs : List MRow} {fl : List Bool} (ok : RowsOk rs) : Stab (renR rs) (renF rs fl) (cls (renR rs) (renF rs fl)) := cls_stab (renR_ok ok) (by rw [renR_len, renF_len])
theorem jnR_ok {rs : List MRow} {fl : List Bool} (ok : RowsOk rs) : RowsOk (jnR rs fl) := joinR_ok (renR_ok ok) (ren_stab ok)
theorem jnR_len {rs : List MRow} {fl : List Bool} : (jnR rs fl).length = (renR rs).length := joinR_len
theorem lstR_ok {rs : List MRow} {fl : List Bool} (ok : RowsOk rs) : RowsOk (lstR rs fl) := renR_ok (jnR_ok ok)
theorem lst_len {rs : List MRow} {fl : List Bool} : (lstF rs fl).length = (lstR rs fl).length := by
  unfold lstF lstR
  rw [renF_len, renR_len]
end DD

set_option linter.all false
/-! AU3: what the least machine reads; two machines side by side. -/
namespace DD
theorem nxt_join {rs : List MRow} {c : List Nat} {p : Nat} (hp : p < rs.length) (a : Nat) : nxt (joinR rs c) p a = headN c (cAt c (nxt rs p a)) := by
  have e : rowAt (joinR rs c) p = joinRow c (rowAt rs p) := by
    unfold rowAt joinR
    rw [List.getD_eq_getElem?_getD, List.getElem?_map, List.getD_eq_getElem?_getD, List.getElem?_eq_getElem hp]
    rfl
  unfold nxt
  rw [e]
  split <;> rfl
theorem join_run {rs : List MRow} {fl : List Bool} {c : List Nat} (ok : RowsOk rs) (st : Stab rs fl c) : ∀ (w : List Nat) {p q : Nat}, p < rs.length → q < rs.length → cAt c p = cAt c q → mrun (joinR rs c) p w < rs.length ∧ cAt c (mrun (joinR rs c) p w) = cAt c (mrun rs q w)
  | [], p, q, hp, _, e => ⟨hp, e⟩
  | a :: w, p, q, hp, hq, e => by
    have hn : nxt rs p a < c.length := by
      rw [st.len]
      exact nxt_lt ok hp a
    have h1 : nxt (joinR rs c) p a < rs.length := by
      rw [nxt_join hp, ← st.len]
      exact head_lt hn
    refine join_run ok st w (p := nxt (joinR rs c) p a) (q := nxt rs q a) h1 (nxt_lt ok hq a) ?_
    rw [nxt_join hp, head_cls hn]
    exact key_next (st.key p q hp hq e) a
theorem join_lang {rs : List MRow} {fl : List Bool} {c : List Nat} (ok : RowsOk rs) (st : Stab rs fl c) (w : List Nat) : lang (joinR rs c) fl w = lang rs fl w := by
  obtain ⟨h1, h2⟩ := join_run ok st w ok.pos ok.pos rfl
  exact st.acc _ _ h1 (run_lt ok w ok.pos) h2
theorem lst_lang {rs : List MRow} {fl : List Bool} (ok : RowsOk rs) (w : List Nat) : lang (lstR rs fl) (lstF rs fl) w = lang rs fl w := by
  unfold lstR lstF
  rw [ren_lang (jnR_ok ok)]
  unfold jnR
  rw [join_lang (renR_ok ok) (ren_stab ok), ren_lang ok]
/-! ### side by side -/
abbrev PairN := Nat × Nat
structure Joined (rs1 rs2 : List MRow) (os : List PairN) (rows : List MRow) : Prop where
  len : rows.length = os.length
  nd : os.Nodup
  z : os[0]? = some (0, 0)
  lt : ∀ x ∈ os, x.1 < rs1.length ∧ x.2 < rs2.length
  rch : ∀ x ∈ os, ∃ w : List Nat, (∀ k ∈ w, k < 3) ∧ x = (mrun rs1 0 w, mrun rs2 0 w)
  stp : ∀ i x, os[i]? = some x → ∀ k, k < 3 → os[nxt rows i k]? = some (nxt rs1 x.1 k, nxt rs2 x.2 k)
/-- on the way there: what is known of the first places -/
structure Join (rs1 rs2 : List MRow) (os : List PairN) (rows : List MRow) : Prop where
  len : rows.length ≤ os.length
  nd : os.Nodup
  z : os[0]? = some (0, 0)
  lt : ∀ x ∈ os, x.1 < rs1.length ∧ x.2 < rs2.length
  rch : ∀ x ∈ os, ∃ w : List Nat, (∀ k ∈ w, k < 3) ∧ x = (mrun rs1 0 w, mrun rs2 0 w)
  stp : ∀ i, i < rows.length → ∀ x, os[i]? = some x → ∀ k, k < 3 → os[nxt rows i k]? = some (nxt rs1 x.1 k, nxt rs2 x.2 k)
theorem Join.done {rs1 rs2 : List MRow} {os : List PairN} {rows : List MRow} (h : Join rs1 rs2 os rows) (e : ¬ rows.length < os.length) : Joined rs1 rs2 os rows := by
  have el : rows.length = os.length := by have := h.len; omega
  exact ⟨el, h.nd, h.z, h.lt, h.rch, fun i x hx => h.stp i (by
    rw [el]
    exact (List.getElem?_eq_some_iff.mp hx).1) x hx⟩
theorem pair_code {n m a b c d : Nat} (h : b < m) (h' : d < m) (e : a * m + b = c * m + d) : a = c ∧ b = d := by
  have h1 : (a * m + b) / m = a := by
    rw [Nat.mul_comm, Nat.mul_add_div (by omega), Nat.div_eq_of_lt h, Nat.add_zero]
  have h2 : (c * m + d) / m = c := by
    rw [Nat.mul_comm, Nat.mul_add_div (by omega), Nat.div_eq_of_lt h', Nat.add_zero]
  have e1 : a = c := by rw [← h1, e, h2]
  subst e1
  exact ⟨rfl, by omega⟩
theorem nodup_mapOn {α β : Type} {f : α → β} : ∀ {l : List α}, l.Nodup → (∀ a ∈ l, ∀ b ∈ l, f a = f b → a = b) → (l.map f).Nodup
  | [], _, _ => List.nodup_nil
  | a :: l, h, g => by
    rw [List.nodup_cons] at h
    rw [List.map_cons, List.nodup_cons]
    refine ⟨fun z => ?_, nodup_mapOn h.2 fun x hx y hy => g x (List.mem_cons_of_mem _ hx) y (List.mem_cons_of_mem _ hy)⟩
    obtain ⟨b, hb, e⟩ := List.mem_map.mp z
    rw [g b (List.mem_cons_of_mem _ hb) a List.mem_cons_self e] at hb
    exact h.1 hb
theorem pairs_le {os : List PairN} {n m : Nat} (nd : os.Nodup) (lt : ∀ x ∈ os, x.1 < n ∧ x.2 < m) : os.length ≤ n * m := by
  have h1 : (os.map fun x => x.1 * m + x.2).Nodup := by
    refine nodup_mapOn nd fun x hx y hy e => ?_
    obtain ⟨e1, e2⟩ := pair_code (n := n) (lt x hx).2 (lt y hy).2 e
    exact Prod.ext e1 e2
  have h2 : ∀ y ∈ os.map (fun x => x.1 * m + x.2), y < n * m := fun y hy => by
    obtain ⟨x, hx, rfl⟩ := List.mem_map.mp hy
    obtain ⟨l1, l2⟩ := lt x hx
    have : (x.1 + 1) * m ≤ n * m := Nat.mul_le_mul_right m l1
    rw [Nat.add_mul] at this
    omega
  have := OrdOk.len ⟨h1, h2⟩
  rw [List.length_map] at this
  exact this
theorem Join.le {rs1 rs2 : List MRow} {os : List PairN} {rows : List MRow} (h : Join rs1 rs2 os rows) : os.length ≤ rs1.length * rs2.length := pairs_le h.nd h.lt
theorem Joined.le {rs1 rs2 : List MRow} {os : List PairN} {rows : List MRow} (h : Joined rs1 rs2 os rows) : os.length ≤ rs1.length * rs2.length := pairs_le h.nd h.lt
/-- a pair more, if it is new -/
def addP (os : List PairN) (x : PairN) : List PairN := if x ∈ os then os else os ++ [x]
theorem addP_in {os : List PairN} {x : PairN} (h : x ∈ os) : addP os x = os := if_pos h
theorem addP_out {os : List PairN} {x : PairN} (h : x ∉ os) : addP os x = os ++ [x] := if_neg h
/-- what a step of the joining needs of the pairs -/
structure Grow (rs1 rs2 : List MRow) (os : List PairN) : Prop where
  nd : os.Nodup
  lt : ∀ x ∈ os, x.1 < rs1.length ∧ x.2 < rs2.length
  rch : ∀ x ∈ os, ∃ w : List Nat, (∀ k ∈ w, k < 3) ∧ x = (mrun rs1 0 w, mrun rs2 0 w)
theorem Grow.add {rs1 rs2 : List MRow} {os : List PairN} {x : PairN} {k : Nat} (ok1 : RowsOk rs1) (ok2 : RowsOk rs2) (h : Grow rs1 rs2 os) (hx : x ∈ os) (hk : k < 3) :
    Grow rs1 rs2 (addP os (nxt rs1 x.1 k, nxt rs2 x.2 k)) := by
  unfold addP
  split
  · exact h
  · rename_i hn
    refine ⟨List.nodup_append.mpr ⟨h.nd, List.nodup_cons.mpr ⟨List.not_mem_nil, List.nodup_nil⟩, fun a ha b hb z => hn (by rw [← List.mem_singleton.mp hb, ← z]; exact ha)⟩, fun y hy => ?_, fun y hy => ?_⟩
    · rcases List.mem_append.mp hy with z | z
      · exact h.lt y z
      · rw [List.mem_singleton.mp z]
        exact ⟨nxt_lt ok1 (h.lt x hx).1 k, nxt_lt ok2 (h.lt x hx).2 k⟩
    · rcases List.mem_append.mp hy with z | z
      · exact h.rch y z
      · rw [List.mem_singleton.mp z]
        obtain ⟨w, hw, e⟩ := h.rch x hx
        refine ⟨w ++ [k], fun j hj => ?_, ?_⟩
        · rcases List.mem_append.mp hj with z | z
          · exact hw j z
          · rw [List.mem_singleton.mp z]
            exact hk
        · rw [run_snoc, run_snoc]
          have e1 : x.1 = mrun rs1 0 w := congrArg Prod.fst e
          have e2 : x.2 = mrun rs2 0 w := congrArg Prod.snd e
          rw [e1, e2]
theorem addP_pre {os : List PairN} {x : PairN} : ∃ t, addP os x = os ++ t := by
  unfold addP
  split
  · exact ⟨[], (List.append_nil _).symm⟩
  · exact ⟨[x], rfl⟩
theorem addP_mem {os : List PairN} {x : PairN} : x ∈ addP os x := by
  unfold addP
  split
  · assumption
  · exact List.mem_append_right _ List.mem_cons_self
/-- the three pairs after x -/
def aft (rs1 rs2 : List MRow) (x : PairN) (k : Nat) : PairN := (nxt rs1 x.1 k, nxt rs2 x.2 k)
def plP (os : List PairN) (x : PairN) : Nat := os.idxOf x
theorem plP_at {os : List PairN} {x : PairN} (h : x ∈ os) : os[plP os x]? = some x := by
  have hl := List.idxOf_lt_length_of_mem h
  unfold plP
  rw [List.getElem?_eq_getElem hl]
  exact congrArg some (List.getElem_idxOf hl)
theorem plP_app {os t : List PairN} {x : PairN} (h : x ∈ os) : plP (os ++ t) x = plP os x := by
  unfold plP
  rw [List.idxOf_append, if_pos h]
theorem Joined.alike {rs1 rs2 : List MRow} {os : List PairN} {rows : List MRow} {f1 f2 : List Bool} (J : Joined rs1 rs2 os rows) (h : ∀ w, lang rs1 f1 w = lang rs2 f2 w) : ∀ x ∈ os, f1.getD x.1 false = f2.getD x.2 false := fun x hx => by
  obtain ⟨w, _, e⟩ := J.rch x hx
  rw [e]
  exact h w
/-- a step of the joining -/
theorem Join.step {rs1 rs2 : List MRow} {os t : List PairN} {rows : List MRow} {x : PairN} (J : Join rs1 rs2 os rows) (hx : os[rows.length]? = some x) (G : Grow rs1 rs2 (os ++ t)) {a b c : Nat}
    (ha : (os ++ t)[a]? = some (aft rs1 rs2 x 0)) (hb : (os ++ t)[b]? = some (aft rs1 rs2 x 1)) (hc : (os ++ t)[c]? = some (aft rs1 rs2 x 2)) : Join rs1 rs2 (os ++ t) (rows ++ [(a, b, c)]) where
  len := by
    have := (List.getElem?_eq_some_iff.mp hx).1
    rw [List.length_append, List.length_append, List.length_singleton]
    omega
  nd := G.nd
  z := by
    have := (List.getElem?_eq_some_iff.mp J.z).1
    rw [List.getElem?_append_left this]
    exact J.z
  lt := G.lt
  rch := G.rch
  stp := fun i hi y hy k hk => by
    have hl := (List.getElem?_eq_some_iff.mp hx).1
    rw [List.length_append, List.length_singleton] at hi
    by_cases e : i = rows.length
    · subst e
      rw [List.getElem?_append_left hl, hx] at hy
      cases hy
      have er : rowAt (rows ++ [(a, b, c)]) rows.length = (a, b, c) := by
        unfold rowAt
        rw [List.getD_eq_getElem?_getD, List.getElem?_append_right (Nat.le_refl _), Nat.sub_self]
        rfl
      unfold nxt
      rw [er]
      match k, hk with
      | 0, _ => exact ha
      | 1, _ => exact hb
      | 2, _ => exact hc
    · have hi2 : i < rows.length := by omega
      rw [List.getElem?_append_left (by omega)] at hy
      have er : rowAt (rows ++ [(a, b, c)]) i = rowAt rows i := by
        unfold rowAt
        rw [List.getD_eq_getElem?_getD, List.getElem?_append_left hi2, ← List.getD_eq_getElem?_getD]
      have en : nxt (rows ++ [(a, b, c)]) i k = nxt rows i k := by
        unfold nxt
        rw [er]
      rw [en]
      have g := J.stp i hi2 y hy k hk
      rw [List.getElem?_append_left (List.getElem?_eq_some_iff.mp g).1]
      exact g
end DD

set_option Elab.async false
set_option linter.all false
set_option maxRecDepth 100000
set_option maxHeartbeats 8000000
namespace K
open PySem PySem.Spec PyProof.Rows L2 DD
local macro_rules | `(tactic| simp only [zP]) => `(tactic| simp only [startD, List.map_cons, List.map_nil, List.length_cons, List.length_nil, Nat.reduceAdd, Nat.reduceSub, List.replicate, List.cons_append, List.nil_append, dSeq, dSet, dIfS, dT, dOp, dCB, dCons, dNil, dV, dM, dC, dp, dNext, dRet, dRetN, dLst, dTup, dDrop, dNot, dAnd, dOr, dAndV, dOrV, dNotV, intG, intG0, lenG, lenD, ixG, itemD, intCG, intOf, maxG, List.getElem?_cons_zero, List.getElem?_cons_succ, List.set_cons_zero, List.set_cons_succ, Option.some.injEq, B.isU, B.d, B.rd, exists_eq_left', exists_eq_left, exists_and_left, true_and, and_true, B.p.injEq, DD.D.bl.injEq, DD.D.int.injEq, List.cons.injEq, DD.PC, decide_eq_true_eq, and_assoc, Option.map_some, dLc, iAny, walked, wipeE, gN, dCall, dCallP, dCallF, eqG, neG, Bool.not_true, Bool.not_false, if_true, if_false, Bool.false_eq_true, reduceIte, List.append_nil, dCBK, addG, dM1, gT, gsCons, gsNil, iEnumD, dAsP, iR1, dPart, dNo, dSl, freB, lstD, List.all_cons, List.all_nil, litD, Bool.and_self, dReprPair, dDctN, itemD2, ixG2, keyD, lookD, strG2, dPar, bCons, bNil, dFor, List.zip_cons_cons, List.zip_nil_right, List.foldl_cons, List.foldl_nil, dApp, B.o.injEq, DD.D.lst.injEq, DD.D.tup.injEq, exists_eq', dDct0, B.u.injEq, sizeLine_eq, Nat.reduceLeDiff, Nat.reduceLT, Nat.zero_le, true_implies, slG, List.length_map, tupleG, seqD, listG, iR2, List.length_take, List.length_drop, List.length_append, DD.D.str.injEq, mulG, dAsg, dFld, lookF, dSetF, setF, dProp, dMeth, dMake, dMakeK, cxOf_K, dChain, notNG, isNG, isNon_non, isNon_bl, isNon_int, isNon_str, isNon_lst, isNon_tup, isNon_dct, isNon_ins, isNon_exc, dXv, reprG, DD.D.ins.injEq, DD.D.exc.injEq, cmpIG, neIG, clsD, Option.bind_some, B.s.injEq, if_true, if_false, dNeg, dLenSet, dIndex, dClrE, dAppE, dCallK, eqKG, sortedSG])
local macro_rules | `(tactic| simp only [zP, $xs,*]) => `(tactic| simp only [startD, List.map_cons, List.map_nil, List.length_cons, List.length_nil, Nat.reduceAdd, Nat.reduceSub, List.replicate, List.cons_append, List.nil_append, dSeq, dSet, dIfS, dT, dOp, dCB, dCons, dNil, dV, dM, dC, dp, dNext, dRet, dRetN, dLst, dTup, dDrop, dNot, dAnd, dOr, dAndV, dOrV, dNotV, intG, intG0, lenG, lenD, ixG, itemD, intCG, intOf, maxG, List.getElem?_cons_zero, List.getElem?_cons_succ, List.set_cons_zero, List.set_cons_succ, Option.some.injEq, B.isU, B.d, B.rd, exists_eq_left', exists_eq_left, exists_and_left, true_and, and_true, B.p.injEq, DD.D.bl.injEq, DD.D.int.injEq, List.cons.injEq, DD.PC, decide_eq_true_eq, and_assoc, Option.map_some, dLc, iAny, walked, wipeE, gN, dCall, dCallP, dCallF, eqG, neG, Bool.not_true, Bool.not_false, if_true, if_false, Bool.false_eq_true, reduceIte, List.append_nil, dCBK, addG, dM1, gT, gsCons, gsNil, iEnumD, dAsP, iR1, dPart, dNo, dSl, freB, lstD, List.all_cons, List.all_nil, litD, Bool.and_self, dReprPair, dDctN, itemD2, ixG2, keyD, lookD, strG2, dPar, bCons, bNil, dFor, List.zip_cons_cons, List.zip_nil_right, List.foldl_cons, List.foldl_nil, dApp, B.o.injEq, DD.D.lst.injEq, DD.D.tup.injEq, exists_eq', dDct0, B.u.injEq, sizeLine_eq, Nat.reduceLeDiff, Nat.reduceLT, Nat.zero_le, true_implies, slG, List.length_map, tupleG, seqD, listG, iR2, List.length_take, List.length_drop, List.length_append, DD.D.str.injEq, mulG, dAsg, dFld, lookF, dSetF, setF, dProp, dMeth, dMake, dMakeK, cxOf_K, dChain, notNG, isNG, isNon_non, isNon_bl, isNon_int, isNon_str, isNon_lst, isNon_tup, isNon_dct, isNon_ins, isNon_exc, dXv, reprG, DD.D.ins.injEq, DD.D.exc.injEq, cmpIG, neIG, clsD, Option.bind_some, B.s.injEq, if_true, if_false, dNeg, dLenSet, dIndex, dClrE, dAppE, dCallK, eqKG, sortedSG, $xs,*])
local macro_rules | `(tactic| simp only [zQ]) => `(tactic| simp only [startD, List.map_cons, List.map_nil, List.length_cons, List.length_nil, Nat.reduceAdd, Nat.reduceSub, List.replicate, List.cons_append, List.nil_append, dSet, dIfS, dT, dOp, dCB, dCons, dNil, dV, dM, dC, dp, dNext, dRet, dRetN, dLst, dTup, dDrop, dNot, dAnd, dOr, dAndV, dOrV, dNotV, intG, intG0, lenG, lenD, ixG, itemD, intCG, intOf, maxG, List.getElem?_cons_zero, List.getElem?_cons_succ, List.set_cons_zero, List.set_cons_succ, Option.some.injEq, B.isU, B.d, B.rd, exists_eq_left', exists_eq_left, exists_and_left, true_and, and_true, B.p.injEq, DD.D.bl.injEq, DD.D.int.injEq, List.cons.injEq, DD.PC, decide_eq_true_eq, and_assoc, Option.map_some, dLc, iAny, walked, wipeE, gN, dCall, dCallP, dCallF, eqG, neG, Bool.not_true, Bool.not_false, if_true, if_false, Bool.false_eq_true, reduceIte, List.append_nil, dCBK, addG, dM1, gT, gsCons, gsNil, iEnumD, dAsP, iR1, dPart, dNo, dSl, freB, lstD, List.all_cons, List.all_nil, litD, Bool.and_self, dReprPair, dDctN, itemD2, ixG2, keyD, lookD, strG2, dPar, bCons, bNil, dFor, List.zip_cons_cons, List.zip_nil_right, List.foldl_cons, List.foldl_nil, dApp, B.o.injEq, DD.D.lst.injEq, DD.D.tup.injEq, exists_eq', dDct0, B.u.injEq, sizeLine_eq, Nat.reduceLeDiff, Nat.reduceLT, Nat.zero_le, true_implies, slG, List.length_map, tupleG, seqD, listG, iR2, List.length_take, List.length_drop, List.length_append, DD.D.str.injEq, mulG, dAsg, dFld, lookF, dSetF, setF, dProp, dMeth, dMake, dMakeK, cxOf_K, dChain, notNG, isNG, isNon_non, isNon_bl, isNon_int, isNon_str, isNon_lst, isNon_tup, isNon_dct, isNon_ins, isNon_exc, dXv, reprG, DD.D.ins.injEq, DD.D.exc.injEq, cmpIG, neIG, clsD, Option.bind_some, B.s.injEq, if_true, if_false, dNeg, dLenSet, dIndex, dClrE, dAppE, dCallK, eqKG, sortedSG])
local macro_rules | `(tactic| simp only [zQ, $xs,*]) => `(tactic| simp only [startD, List.map_cons, List.map_nil, List.length_cons, List.length_nil, Nat.reduceAdd, Nat.reduceSub, List.replicate, List.cons_append, List.nil_append, dSet, dIfS, dT, dOp, dCB, dCons, dNil, dV, dM, dC, dp, dNext, dRet, dRetN, dLst, dTup, dDrop, dNot, dAnd, dOr, dAndV, dOrV, dNotV, intG, intG0, lenG, lenD, ixG, itemD, intCG, intOf, maxG, List.getElem?_cons_zero, List.getElem?_cons_succ, List.set_cons_zero, List.set_cons_succ, Option.some.injEq, B.isU, B.d, B.rd, exists_eq_left', exists_eq_left, exists_and_left, true_and, and_true, B.p.injEq, DD.D.bl.injEq, DD.D.int.injEq, List.cons.injEq, DD.PC, decide_eq_true_eq, and_assoc, Option.map_some, dLc, iAny, walked, wipeE, gN, dCall, dCallP, dCallF, eqG, neG, Bool.not_true, Bool.not_false, if_true, if_false, Bool.false_eq_true, reduceIte, List.append_nil, dCBK, addG, dM1, gT, gsCons, gsNil, iEnumD, dAsP, iR1, dPart, dNo, dSl, freB, lstD, List.all_cons, List.all_nil, litD, Bool.and_self, dReprPair, dDctN, itemD2, ixG2, keyD, lookD, strG2, dPar, bCons, bNil, dFor, List.zip_cons_cons, List.zip_nil_right, List.foldl_cons, List.foldl_nil, dApp, B.o.injEq, DD.D.lst.injEq, DD.D.tup.injEq, exists_eq', dDct0, B.u.injEq, sizeLine_eq, Nat.reduceLeDiff, Nat.reduceLT, Nat.zero_le, true_implies, slG, List.length_map, tupleG, seqD, listG, iR2, List.length_take, List.length_drop, List.length_append, DD.D.str.injEq, mulG, dAsg, dFld, lookF, dSetF, setF, dProp, dMeth, dMake, dMakeK, cxOf_K, dChain, notNG, isNG, isNon_non, isNon_bl, isNon_int, isNon_str, isNon_lst, isNon_tup, isNon_dct, isNon_ins, isNon_exc, dXv, reprG, DD.D.ins.injEq, DD.D.exc.injEq, cmpIG, neIG, clsD, Option.bind_some, B.s.injEq, if_true, if_false, dNeg, dLenSet, dIndex, dClrE, dAppE, dCallK, eqKG, sortedSG, $xs,*])
local macro_rules | `(tactic| simp only [zM]) => `(tactic| simp only [startD, List.map_cons, List.map_nil, List.length_cons, List.length_nil, Nat.reduceAdd, Nat.reduceSub, List.replicate, List.cons_append, List.nil_append, dSet, dIfS, dT, dOp, dCB, dCons, dNil, dV, dM, dC, dp, dNext, dRet, dRetN, dLst, dTup, dDrop, dNot, dAnd, dOr, dAndV, dOrV, dNotV, intG, intG0, lenG, lenD, ixG, itemD, intCG, intOf, maxG, List.getElem?_cons_zero, List.getElem?_cons_succ, List.set_cons_zero, List.set_cons_succ, Option.some.injEq, B.isU, B.d, B.rd, exists_eq_left', exists_eq_left, exists_and_left, true_and, and_true, B.p.injEq, DD.D.bl.injEq, DD.D.int.injEq, List.cons.injEq, DD.PC, decide_eq_true_eq, and_assoc, Option.map_some, dLc, iAny, walked, wipeE, gN, dCall, dCallP, dCallF, eqG, neG, Bool.not_true, Bool.not_false, if_true, if_false, Bool.false_eq_true, reduceIte, List.append_nil, dCBK, addG, dM1, gT, gsCons, gsNil, iEnumD, dAsP, iR1, dPart, dNo, dSl, freB, lstD, List.all_cons, List.all_nil, litD, Bool.and_self, dReprPair, dDctN, itemD2, ixG2, keyD, lookD, strG2, dPar, bCons, bNil, dFor, List.zip_cons_cons, List.zip_nil_right, List.foldl_cons, List.foldl_nil, dApp, B.o.injEq, DD.D.lst.injEq, DD.D.tup.injEq, exists_eq', dDct0, B.u.injEq, sizeLine_eq, Nat.reduceLeDiff, Nat.reduceLT, Nat.zero_le, true_implies, slG, List.length_map, tupleG, seqD, listG, iR2, List.length_take, List.length_drop, List.length_append, DD.D.str.injEq, mulG, dAsg, dFld, lookF, dSetF, setF, dProp, dMeth, dMake, dMakeK, cxOf_K, dChain, notNG, isNG, isNon_non, isNon_bl, isNon_int, isNon_str, isNon_lst, isNon_tup, isNon_dct, isNon_ins, isNon_exc, dXv, reprG, DD.D.ins.injEq, DD.D.exc.injEq, cmpIG, neIG, clsD, Option.bind_some, B.s.injEq, if_true, if_false, dNeg, dLenSet, dIndex, dClrE, dAppE, dCallK, eqKG, sortedSG, dNL, dNR, slotD, eqL, neL, inL, isInX, ixL, itemX, getD', lenX, dLenN, dGet2, dPutN, ownS, setX, dRev, dClr, dPop, dPopAt, dExt, dAug, dDc, dLend, lendE, lend1, lentB, isLD, dDctT, dLenSetA, keyT, keyL, List.mem_cons, List.not_mem_nil, or_false, false_or, or_true, true_or, Nat.reduceEqDiff, decide_true, decide_false, Bool.or_true, Bool.true_or, Bool.false_or, Bool.or_false, Bool.and_true, Bool.true_and, reduceCtorEq, DD.D.dct.injEq, DD.D.dcT.injEq, dDctT0, nilG, nilL, List.isEmpty_nil, List.isEmpty_cons])
local macro_rules | `(tactic| simp only [zM, $xs,*]) => `(tactic| simp only [startD, List.map_cons, List.map_nil, List.length_cons, List.length_nil, Nat.reduceAdd, Nat.reduceSub, List.replicate, List.cons_append, List.nil_append, dSet, dIfS, dT, dOp, dCB, dCons, dNil, dV, dM, dC, dp, dNext, dRet, dRetN, dLst, dTup, dDrop, dNot, dAnd, dOr, dAndV, dOrV, dNotV, intG, intG0, lenG, lenD, ixG, itemD, intCG, intOf, maxG, List.getElem?_cons_zero, List.getElem?_cons_succ, List.set_cons_zero, List.set_cons_succ, Option.some.injEq, B.isU, B.d, B.rd, exists_eq_left', exists_eq_left, exists_and_left, true_and, and_true, B.p.injEq, DD.D.bl.injEq, DD.D.int.injEq, List.cons.injEq, DD.PC, decide_eq_true_eq, and_assoc, Option.map_some, dLc, iAny, walked, wipeE, gN, dCall, dCallP, dCallF, eqG, neG, Bool.not_true, Bool.not_false, if_true, if_false, Bool.false_eq_true, reduceIte, List.append_nil, dCBK, addG, dM1, gT, gsCons, gsNil, iEnumD, dAsP, iR1, dPart, dNo, dSl, freB, lstD, List.all_cons, List.all_nil, litD, Bool.and_self, dReprPair, dDctN, itemD2, ixG2, keyD, lookD, strG2, dPar, bCons, bNil, dFor, List.zip_cons_cons, List.zip_nil_right, List.foldl_cons, List.foldl_nil, dApp, B.o.injEq, DD.D.lst.injEq, DD.D.tup.injEq, exists_eq', dDct0, B.u.injEq, sizeLine_eq, Nat.reduceLeDiff, Nat.reduceLT, Nat.zero_le, true_implies, slG, List.length_map, tupleG, seqD, listG, iR2, List.length_take, List.length_drop, List.length_append, DD.D.str.injEq, mulG, dAsg, dFld, lookF, dSetF, setF, dProp, dMeth, dMake, dMakeK, cxOf_K, dChain, notNG, isNG, isNon_non, isNon_bl, isNon_int, isNon_str, isNon_lst, isNon_tup, isNon_dct, isNon_ins, isNon_exc, dXv, reprG, DD.D.ins.injEq, DD.D.exc.injEq, cmpIG, neIG, clsD, Option.bind_some, B.s.injEq, if_true, if_false, dNeg, dLenSet, dIndex, dClrE, dAppE, dCallK, eqKG, sortedSG, dNL, dNR, slotD, eqL, neL, inL, isInX, ixL, itemX, getD', lenX, dLenN, dGet2, dPutN, ownS, setX, dRev, dClr, dPop, dPopAt, dExt, dAug, dDc, dLend, lendE, lend1, lentB, isLD, dDctT, dLenSetA, keyT, keyL, List.mem_cons, List.not_mem_nil, or_false, false_or, or_true, true_or, Nat.reduceEqDiff, decide_true, decide_false, Bool.or_true, Bool.true_or, Bool.false_or, Bool.or_false, Bool.and_true, Bool.true_and, reduceCtorEq, DD.D.dct.injEq, DD.D.dcT.injEq, dDctT0, nilG, nilL, List.isEmpty_nil, List.isEmpty_cons, $xs,*])
def topS (i : Nat) : Stmt := PySem.Challenge.pw_everypair_k21_machines_refused.main.body.getD i (.Pass ⟨0, 0, 0, 0⟩)
section
variable {P : Program} {w : World} {K : PySem.W.Frag} {mg : Str → Option Value} {base : Heap}

def rowD (r : MRow) : D := .tup [.int (r.1 : Nat), .int (r.2.1 : Nat), .int (r.2.2 : Nat)]
def iD (n : Nat) : D := .int (n : Int)
theorem rowD_inj {r s : MRow} (h : rowD r = rowD s) : r = s := by
  unfold rowD at h
  simp only [D.tup.injEq, List.cons.injEq, D.int.injEq, and_true] at h
  obtain ⟨h1, h2, h3⟩ := h
  exact Prod.ext (Int.ofNat_inj.mp h1) (Prod.ext (Int.ofNat_inj.mp h2) (Int.ofNat_inj.mp h3))
def ky (n : Nat) : Key := .inl (n : Int)
theorem ky_inj {a b : Nat} (h : ky a = ky b) : a = b := by
  unfold ky at h
  injection h with h
  exact Int.ofNat_inj.mp h
theorem ky_mem {o : List Nat} {s : Nat} : ky s ∈ o.map ky ↔ s ∈ o := ⟨fun h => by
  obtain ⟨a, ha, e⟩ := List.mem_map.mp h
  rw [← ky_inj e]
  exact ha, fun h => List.mem_map.mpr ⟨s, h, rfl⟩⟩
def tr (_ : Nat) : D := .bl true
theorem known_get {o : List Nat} {s : Nat} : (lookG (o.map ky) (o.map tr) (.inl (s : Int))).isSome = decide (s ∈ o) := by
  by_cases h : s ∈ o
  · rw [decide_eq_true h]
    have := lookG_map (f := ky) (g := tr) (fun a b => ky_inj) h
    rw [show (Sum.inl (s : Int) : Key) = ky s from rfl, this]
    rfl
  · rw [decide_eq_false h, show (Sum.inl (s : Int) : Key) = ky s from rfl, lookG_not (fun z => h (ky_mem.mp z))]
    rfl
theorem known_put {o : List Nat} {s : Nat} (h : s ∉ o) : putG (o.map ky) (o.map tr) (.inl (s : Int)) (.bl true) = ((o ++ [s]).map ky, (o ++ [s]).map tr) := by
  rw [show (Sum.inl (s : Int) : Key) = ky s from rfl, putG_new (fun z => h (ky_mem.mp z)), List.map_append, List.map_append]
  rfl

abbrev s_first_met : Stmt := topS 22
theorem sc_first_met : FnScope ["rows", "order", "known", "at", "state"] ["rows"] (defScope s_first_met) := ⟨rfl, rfl, rfl, by decide +kernel, rfl, by decide +kernel, by decide +kernel⟩
def spd_first_met  : Spd := fun bs R _ => ∃ rs d, bs = [.p d] ∧ (d = .lst (rs.map rowD) ∨ d = .tup (rs.map rowD)) ∧ RowsOk rs ∧ R (.o (.lst ((met rs).map iD))) 0
theorem cal_first_met (Da : DefAt K mg "first_met" s_first_met) (m_len : mg "len" = none) : Cal P w K mg base "first_met" 1 ["rows"] spd_first_met := by
  refine cal_mk none Da sc_first_met (fun _ _ _ _ _ _ us hl => match us, hl with | [_], _ => rfl) (fun bs R E h => ?_) (fun bs R E h => ?_) fun f cdv A outer s H E W bs R ED gu hr te h fh => ?_
  · obtain ⟨rs, d, rfl, hd, ok, q⟩ := h
    rfl
  · obtain ⟨rs, d, rfl, hd, ok, q⟩ := h
    exact pur_none (by simp [B.own])
  · obtain ⟨rs, d, rfl, hd, ok, q⟩ := h
    have nd := sc_first_met.nd
    have hu := hr.units
    have ps := passes_of (X := cxOf (L2.CX P w) P w K mg base ["rows", "order", "known", "at", "state"] "first_met" (defScope s_first_met) f cdv A outer s H E) rfl
    refine ⟨_, (dss_cons (ds_set (i := 1) nd rfl (by first | exact Or.inl rfl | exact Or.inr rfl) (de_lst (da_cons de_int da_nil))) (dss_cons (ds_set (i := 2) nd rfl (by first | exact Or.inl rfl | exact Or.inr rfl) (de_dctN (dv_cons rfl (fun _ => de_bl) dv_nil) (by decide) rfl rfl (by simp) (by simp) (by simp))) (dss_cons (ds_set (i := 3) nd rfl (by first | exact Or.inl rfl | exact Or.inr rfl) de_int) (dss_cons (ds_while ps (dt_cmp op_lt rd_intB0 (de_v 3) (de_lenN 1 m_len) rfl) (dss_cons (ds_for te ps rfl (di_any (de_ixN 0 hu (de_ixN 1 hu (de_v 3) (fun _ _ => rfl)) (fun _ _ => rfl))) (fun _ => (dg_name (i := 4) nd rfl (by first | exact Or.inl rfl | exact Or.inr rfl))) (fun _ te => (dss_one (ds_if (dt_cmpR 2 (op_notInX hu) rl_in (de_v 4)) (dss_cons (ds_putN 2 hu de_bl (de_v 4)) (dss_one (ds_append (i := 1) rfl (by first | exact Or.inl rfl | exact Or.inr (Or.inl rfl)) (de_v 4) (hpe := fun ta h => pe_bm PySem.F.plainAttrs_list PySem.F.slot_list_append PySem.F.type_list_append mt_append (pv 1) (pa_cons h pa_nil))))) dss_nil)))) (dss_one (ds_set (i := 3) nd rfl (by first | exact Or.inl rfl | exact Or.inr rfl) (de_op op_addAll rd_add (de_v 3) de_int))))) (dss_one (ds_ret (de_m 1))))))), ?_⟩
    refine dseq ?_
    simp only [zM]
    refine dseq ?_
    simp only [zM]
    refine dseq ?_
    simp only [zM]
    refine dseq ?_
    simp only [zM]
    refine while_inv (fun m δ => ∃ k x4, m = rs.length - k ∧ k ≤ rs.length ∧ k ≤ (bfs rs k).length ∧ δ = [some (.p d), some (.o (.lst ((bfs rs k).map iD))), some (.o (.dct ((bfs rs k).map ky) ((bfs rs k).map tr))), some (.p (.int (k : Nat))), x4]) (fun m δ hI N hN => ?_) ⟨0, none, rfl, Nat.zero_le _, Nat.zero_le _, rfl⟩
    obtain ⟨k, x4, rfl, hk, hkl, rfl⟩ := hI
    simp only [zM]
    have og := bfs_ok ok k
    have ogl := og.len
    have ole := ok.le
    by_cases hlt : k < (bfs rs k).length
    · rw [if_pos (show ((k : Nat) : Int) < ((bfs rs k).length : Nat) by omega)]
      have eq0 : (bfs rs k)[k]? = some ((bfs rs k).getD k 0) := by rw [List.getD_eq_getElem?_getD, List.getElem?_eq_getElem hlt]; rfl
      have hq : (bfs rs k).getD k 0 < rs.length := og.lt _ (List.mem_of_getElem? eq0)
      obtain ⟨er, r1, r2, r3⟩ := ok.at hq
      refine dseq ?_
      simp only [zM]
      refine ⟨_, atI_map eq0, rowD (rowAt rs ((bfs rs k).getD k 0)), ?_, _, rfl, ?_⟩
      · rcases hd with rfl | rfl
        · exact atI_map er
        · exact atI_map er
      refine forL_run iD (fun p δ => ∃ x4, δ = [some (.p d), some (.o (.lst ((p.foldl addN (bfs rs k)).map iD))), some (.o (.dct ((p.foldl addN (bfs rs k)).map ky) ((p.foldl addN (bfs rs k)).map tr))), some (.p (.int (k : Nat))), x4]) (l := [(rowAt rs ((bfs rs k).getD k 0)).1, (rowAt rs ((bfs rs k).getD k 0)).2.1, (rowAt rs ((bfs rs k).getD k 0)).2.2]) (pre := []) (fun p a r δ e hI M hM => ?_) (fun δ hI => ?_) ⟨x4, rfl⟩
      · obtain ⟨y4, rfl⟩ := hI
        have hmem : ∀ x ∈ p ++ a :: r, x < rs.length := fun x hx => by
          rw [← e] at hx
          simp only [List.nil_append, List.mem_cons, List.not_mem_nil, or_false] at hx
          rcases hx with rfl | rfl | rfl
          · exact r1
          · exact r2
          · exact r3
        have fold_ok : ∀ (p : List Nat) (o : List Nat), (∀ x ∈ p, x < rs.length) → OrdOk rs.length o → OrdOk rs.length (p.foldl addN o) := fun p => by
          induction p with
          | nil => intro o _ h; exact h
          | cons b p ih => intro o hp h; exact ih _ (fun x hx => hp x (List.mem_cons_of_mem _ hx)) (h.add (hp b List.mem_cons_self))
        have po := fold_ok p (bfs rs k) (fun x hx => hmem x (List.mem_append_left _ hx)) og
        have pol := po.len
        have hM2 : ∀ o x4, o = addN (p.foldl addN (bfs rs k)) a → M [some (.p d), some (.o (.lst (o.map iD))), some (.o (.dct (o.map ky) (o.map tr))), some (.p (.int (k : Nat))), x4] := fun o x4 e => hM _ ⟨x4, by rw [List.foldl_append, e]; rfl⟩
        simp only [zM, iD]
        rw [known_get]
        by_cases hm : a ∈ p.foldl addN (bfs rs k)
        · rw [decide_eq_true hm]
          exact iteF (hM2 _ _ (addN_in hm).symm)
        · rw [decide_eq_false hm]
          refine iteT (dseq ?_)
          simp only [zM]
          refine ⟨_, if_pos (by omega), by omega, ?_⟩
          rw [known_put hm]
          have z := hM2 _ (some (.p (.int (a : Nat)))) (addN_out hm).symm
          rw [List.map_append (f := iD)] at z
          exact z
      · obtain ⟨y4, rfl⟩ := hI
        simp only [zM]
        have ev : bfs rs (k + 1) = visit rs (bfs rs k) ((bfs rs k).getD k 0) := by
          show (if k < (bfs rs k).length then _ else _) = _
          rw [if_pos hlt]
        have ok1 := (bfs_ok ok (k + 1)).len
        have l1 : (bfs rs k).length ≤ (bfs rs (k + 1)).length := by
          rw [ev]
          exact visit_len
        exact hN (rs.length - (k + 1)) _ (by omega) ⟨k + 1, y4, rfl, by omega, by omega, by rw [ev]; rfl⟩
    · rw [if_neg (show ¬ ((k : Nat) : Int) < ((bfs rs k).length : Nat) by omega)]
      have ee : met rs = bfs rs k := bfs_end (by omega) hk
      rw [ee] at q
      exact ⟨0, q⟩
end
end K

set_option Elab.async false
set_option linter.all false
set_option maxRecDepth 100000
set_option maxHeartbeats 8000000
namespace K
open PySem PySem.Spec PyProof.Rows L2 DD
local macro_rules | `(tactic| simp only [zP]) => `(tactic| simp only [startD, List.map_cons, List.map_nil, List.length_cons, List.length_nil, Nat.reduceAdd, Nat.reduceSub, List.replicate, List.cons_append, List.nil_append, dSeq, dSet, dIfS, dT, dOp, dCB, dCons, dNil, dV, dM, dC, dp, dNext, dRet, dRetN, dLst, dTup, dDrop, dNot, dAnd, dOr, dAndV, dOrV, dNotV, intG, intG0, lenG, lenD, ixG, itemD, intCG, intOf, maxG, List.getElem?_cons_zero, List.getElem?_cons_succ, List.set_cons_zero, List.set_cons_succ, Option.some.injEq, B.isU, B.d, B.rd, exists_eq_left', exists_eq_left, exists_and_left, true_and, and_true, B.p.injEq, DD.D.bl.injEq, DD.D.int.injEq, List.cons.injEq, DD.PC, decide_eq_true_eq, and_assoc, Option.map_some, dLc, iAny, walked, wipeE, gN, dCall, dCallP, dCallF, eqG, neG, Bool.not_true, Bool.not_false, if_true, if_false, Bool.false_eq_true, reduceIte, List.append_nil, dCBK, addG, dM1, gT, gsCons, gsNil, iEnumD, dAsP, iR1, dPart, dNo, dSl, freB, lstD, List.all_cons, List.all_nil, litD, Bool.and_self, dReprPair, dDctN, itemD2, ixG2, keyD, lookD, strG2, dPar, bCons, bNil, dFor, List.zip_cons_cons, List.zip_nil_right, List.foldl_cons, List.foldl_nil, dApp, B.o.injEq, DD.D.lst.injEq, DD.D.tup.injEq, exists_eq', dDct0, B.u.injEq, sizeLine_eq, Nat.reduceLeDiff, Nat.reduceLT, Nat.zero_le, true_implies, slG, List.length_map, tupleG, seqD, listG, iR2, List.length_take, List.length_drop, List.length_append, DD.D.str.injEq, mulG, dAsg, dFld, lookF, dSetF, setF, dProp, dMeth, dMake, dMakeK, cxOf_K, dChain, notNG, isNG, isNon_non, isNon_bl, isNon_int, isNon_str, isNon_lst, isNon_tup, isNon_dct, isNon_ins, isNon_exc, dXv, reprG, DD.D.ins.injEq, DD.D.exc.injEq, cmpIG, neIG, clsD, Option.bind_some, B.s.injEq, if_true, if_false, dNeg, dLenSet, dIndex, dClrE, dAppE, dCallK, eqKG, sortedSG])
local macro_rules | `(tactic| simp only [zP, $xs,*]) => `(tactic| simp only [startD, List.map_cons, List.map_nil, List.length_cons, List.length_nil, Nat.reduceAdd, Nat.reduceSub, List.replicate, List.cons_append, List.nil_append, dSeq, dSet, dIfS, dT, dOp, dCB, dCons, dNil, dV, dM, dC, dp, dNext, dRet, dRetN, dLst, dTup, dDrop, dNot, dAnd, dOr, dAndV, dOrV, dNotV, intG, intG0, lenG, lenD, ixG, itemD, intCG, intOf, maxG, List.getElem?_cons_zero, List.getElem?_cons_succ, List.set_cons_zero, List.set_cons_succ, Option.some.injEq, B.isU, B.d, B.rd, exists_eq_left', exists_eq_left, exists_and_left, true_and, and_true, B.p.injEq, DD.D.bl.injEq, DD.D.int.injEq, List.cons.injEq, DD.PC, decide_eq_true_eq, and_assoc, Option.map_some, dLc, iAny, walked, wipeE, gN, dCall, dCallP, dCallF, eqG, neG, Bool.not_true, Bool.not_false, if_true, if_false, Bool.false_eq_true, reduceIte, List.append_nil, dCBK, addG, dM1, gT, gsCons, gsNil, iEnumD, dAsP, iR1, dPart, dNo, dSl, freB, lstD, List.all_cons, List.all_nil, litD, Bool.and_self, dReprPair, dDctN, itemD2, ixG2, keyD, lookD, strG2, dPar, bCons, bNil, dFor, List.zip_cons_cons, List.zip_nil_right, List.foldl_cons, List.foldl_nil, dApp, B.o.injEq, DD.D.lst.injEq, DD.D.tup.injEq, exists_eq', dDct0, B.u.injEq, sizeLine_eq, Nat.reduceLeDiff, Nat.reduceLT, Nat.zero_le, true_implies, slG, List.length_map, tupleG, seqD, listG, iR2, List.length_take, List.length_drop, List.length_append, DD.D.str.injEq, mulG, dAsg, dFld, lookF, dSetF, setF, dProp, dMeth, dMake, dMakeK, cxOf_K, dChain, notNG, isNG, isNon_non, isNon_bl, isNon_int, isNon_str, isNon_lst, isNon_tup, isNon_dct, isNon_ins, isNon_exc, dXv, reprG, DD.D.ins.injEq, DD.D.exc.injEq, cmpIG, neIG, clsD, Option.bind_some, B.s.injEq, if_true, if_false, dNeg, dLenSet, dIndex, dClrE, dAppE, dCallK, eqKG, sortedSG, $xs,*])
local macro_rules | `(tactic| simp only [zQ]) => `(tactic| simp only [startD, List.map_cons, List.map_nil, List.length_cons, List.length_nil, Nat.reduceAdd, Nat.reduceSub, List.replicate, List.cons_append, List.nil_append, dSet, dIfS, dT, dOp, dCB, dCons, dNil, dV, dM, dC, dp, dNext, dRet, dRetN, dLst, dTup, dDrop, dNot, dAnd, dOr, dAndV, dOrV, dNotV, intG, intG0, lenG, lenD, ixG, itemD, intCG, intOf, maxG, List.getElem?_cons_zero, List.getElem?_cons_succ, List.set_cons_zero, List.set_cons_succ, Option.some.injEq, B.isU, B.d, B.rd, exists_eq_left', exists_eq_left, exists_and_left, true_and, and_true, B.p.injEq, DD.D.bl.injEq, DD.D.int.injEq, List.cons.injEq, DD.PC, decide_eq_true_eq, and_assoc, Option.map_some, dLc, iAny, walked, wipeE, gN, dCall, dCallP, dCallF, eqG, neG, Bool.not_true, Bool.not_false, if_true, if_false, Bool.false_eq_true, reduceIte, List.append_nil, dCBK, addG, dM1, gT, gsCons, gsNil, iEnumD, dAsP, iR1, dPart, dNo, dSl, freB, lstD, List.all_cons, List.all_nil, litD, Bool.and_self, dReprPair, dDctN, itemD2, ixG2, keyD, lookD, strG2, dPar, bCons, bNil, dFor, List.zip_cons_cons, List.zip_nil_right, List.foldl_cons, List.foldl_nil, dApp, B.o.injEq, DD.D.lst.injEq, DD.D.tup.injEq, exists_eq', dDct0, B.u.injEq, sizeLine_eq, Nat.reduceLeDiff, Nat.reduceLT, Nat.zero_le, true_implies, slG, List.length_map, tupleG, seqD, listG, iR2, List.length_take, List.length_drop, List.length_append, DD.D.str.injEq, mulG, dAsg, dFld, lookF, dSetF, setF, dProp, dMeth, dMake, dMakeK, cxOf_K, dChain, notNG, isNG, isNon_non, isNon_bl, isNon_int, isNon_str, isNon_lst, isNon_tup, isNon_dct, isNon_ins, isNon_exc, dXv, reprG, DD.D.ins.injEq, DD.D.exc.injEq, cmpIG, neIG, clsD, Option.bind_some, B.s.injEq, if_true, if_false, dNeg, dLenSet, dIndex, dClrE, dAppE, dCallK, eqKG, sortedSG])
local macro_rules | `(tactic| simp only [zQ, $xs,*]) => `(tactic| simp only [startD, List.map_cons, List.map_nil, List.length_cons, List.length_nil, Nat.reduceAdd, Nat.reduceSub, List.replicate, List.cons_append, List.nil_append, dSet, dIfS, dT, dOp, dCB, dCons, dNil, dV, dM, dC, dp, dNext, dRet, dRetN, dLst, dTup, dDrop, dNot, dAnd, dOr, dAndV, dOrV, dNotV, intG, intG0, lenG, lenD, ixG, itemD, intCG, intOf, maxG, List.getElem?_cons_zero, List.getElem?_cons_succ, List.set_cons_zero, List.set_cons_succ, Option.some.injEq, B.isU, B.d, B.rd, exists_eq_left', exists_eq_left, exists_and_left, true_and, and_true, B.p.injEq, DD.D.bl.injEq, DD.D.int.injEq, List.cons.injEq, DD.PC, decide_eq_true_eq, and_assoc, Option.map_some, dLc, iAny, walked, wipeE, gN, dCall, dCallP, dCallF, eqG, neG, Bool.not_true, Bool.not_false, if_true, if_false, Bool.false_eq_true, reduceIte, List.append_nil, dCBK, addG, dM1, gT, gsCons, gsNil, iEnumD, dAsP, iR1, dPart, dNo, dSl, freB, lstD, List.all_cons, List.all_nil, litD, Bool.and_self, dReprPair, dDctN, itemD2, ixG2, keyD, lookD, strG2, dPar, bCons, bNil, dFor, List.zip_cons_cons, List.zip_nil_right, List.foldl_cons, List.foldl_nil, dApp, B.o.injEq, DD.D.lst.injEq, DD.D.tup.injEq, exists_eq', dDct0, B.u.injEq, sizeLine_eq, Nat.reduceLeDiff, Nat.reduceLT, Nat.zero_le, true_implies, slG, List.length_map, tupleG, seqD, listG, iR2, List.length_take, List.length_drop, List.length_append, DD.D.str.injEq, mulG, dAsg, dFld, lookF, dSetF, setF, dProp, dMeth, dMake, dMakeK, cxOf_K, dChain, notNG, isNG, isNon_non, isNon_bl, isNon_int, isNon_str, isNon_lst, isNon_tup, isNon_dct, isNon_ins, isNon_exc, dXv, reprG, DD.D.ins.injEq, DD.D.exc.injEq, cmpIG, neIG, clsD, Option.bind_some, B.s.injEq, if_true, if_false, dNeg, dLenSet, dIndex, dClrE, dAppE, dCallK, eqKG, sortedSG, $xs,*])
local macro_rules | `(tactic| simp only [zM]) => `(tactic| simp only [startD, List.map_cons, List.map_nil, List.length_cons, List.length_nil, Nat.reduceAdd, Nat.reduceSub, List.replicate, List.cons_append, List.nil_append, dSet, dIfS, dT, dOp, dCB, dCons, dNil, dV, dM, dC, dp, dNext, dRet, dRetN, dLst, dTup, dDrop, dNot, dAnd, dOr, dAndV, dOrV, dNotV, intG, intG0, lenG, lenD, ixG, itemD, intCG, intOf, maxG, List.getElem?_cons_zero, List.getElem?_cons_succ, List.set_cons_zero, List.set_cons_succ, Option.some.injEq, B.isU, B.d, B.rd, exists_eq_left', exists_eq_left, exists_and_left, true_and, and_true, B.p.injEq, DD.D.bl.injEq, DD.D.int.injEq, List.cons.injEq, DD.PC, decide_eq_true_eq, and_assoc, Option.map_some, dLc, iAny, walked, wipeE, gN, dCall, dCallP, dCallF, eqG, neG, Bool.not_true, Bool.not_false, if_true, if_false, Bool.false_eq_true, reduceIte, List.append_nil, dCBK, addG, dM1, gT, gsCons, gsNil, iEnumD, dAsP, iR1, dPart, dNo, dSl, freB, lstD, List.all_cons, List.all_nil, litD, Bool.and_self, dReprPair, dDctN, itemD2, ixG2, keyD, lookD, strG2, dPar, bCons, bNil, dFor, List.zip_cons_cons, List.zip_nil_right, List.foldl_cons, List.foldl_nil, dApp, B.o.injEq, DD.D.lst.injEq, DD.D.tup.injEq, exists_eq', dDct0, B.u.injEq, sizeLine_eq, Nat.reduceLeDiff, Nat.reduceLT, Nat.zero_le, true_implies, slG, List.length_map, tupleG, seqD, listG, iR2, List.length_take, List.length_drop, List.length_append, DD.D.str.injEq, mulG, dAsg, dFld, lookF, dSetF, setF, dProp, dMeth, dMake, dMakeK, cxOf_K, dChain, notNG, isNG, isNon_non, isNon_bl, isNon_int, isNon_str, isNon_lst, isNon_tup, isNon_dct, isNon_ins, isNon_exc, dXv, reprG, DD.D.ins.injEq, DD.D.exc.injEq, cmpIG, neIG, clsD, Option.bind_some, B.s.injEq, if_true, if_false, dNeg, dLenSet, dIndex, dClrE, dAppE, dCallK, eqKG, sortedSG, dNL, dNR, slotD, eqL, neL, inL, isInX, ixL, itemX, getD', lenX, dLenN, dGet2, dPutN, ownS, setX, dRev, dClr, dPop, dPopAt, dExt, dAug, dDc, dLend, lendE, lend1, lentB, isLD, dDctT, dLenSetA, keyT, keyL, List.mem_cons, List.not_mem_nil, or_false, false_or, or_true, true_or, Nat.reduceEqDiff, decide_true, decide_false, Bool.or_true, Bool.true_or, Bool.false_or, Bool.or_false, Bool.and_true, Bool.true_and, reduceCtorEq, DD.D.dct.injEq, DD.D.dcT.injEq, dDctT0, nilG, nilL, List.isEmpty_nil, List.isEmpty_cons])
local macro_rules | `(tactic| simp only [zM, $xs,*]) => `(tactic| simp only [startD, List.map_cons, List.map_nil, List.length_cons, List.length_nil, Nat.reduceAdd, Nat.reduceSub, List.replicate, List.cons_append, List.nil_append, dSet, dIfS, dT, dOp, dCB, dCons, dNil, dV, dM, dC, dp, dNext, dRet, dRetN, dLst, dTup, dDrop, dNot, dAnd, dOr, dAndV, dOrV, dNotV, intG, intG0, lenG, lenD, ixG, itemD, intCG, intOf, maxG, List.getElem?_cons_zero, List.getElem?_cons_succ, List.set_cons_zero, List.set_cons_succ, Option.some.injEq, B.isU, B.d, B.rd, exists_eq_left', exists_eq_left, exists_and_left, true_and, and_true, B.p.injEq, DD.D.bl.injEq, DD.D.int.injEq, List.cons.injEq, DD.PC, decide_eq_true_eq, and_assoc, Option.map_some, dLc, iAny, walked, wipeE, gN, dCall, dCallP, dCallF, eqG, neG, Bool.not_true, Bool.not_false, if_true, if_false, Bool.false_eq_true, reduceIte, List.append_nil, dCBK, addG, dM1, gT, gsCons, gsNil, iEnumD, dAsP, iR1, dPart, dNo, dSl, freB, lstD, List.all_cons, List.all_nil, litD, Bool.and_self, dReprPair, dDctN, itemD2, ixG2, keyD, lookD, strG2, dPar, bCons, bNil, dFor, List.zip_cons_cons, List.zip_nil_right, List.foldl_cons, List.foldl_nil, dApp, B.o.injEq, DD.D.lst.injEq, DD.D.tup.injEq, exists_eq', dDct0, B.u.injEq, sizeLine_eq, Nat.reduceLeDiff, Nat.reduceLT, Nat.zero_le, true_implies, slG, List.length_map, tupleG, seqD, listG, iR2, List.length_take, List.length_drop, List.length_append, DD.D.str.injEq, mulG, dAsg, dFld, lookF, dSetF, setF, dProp, dMeth, dMake, dMakeK, cxOf_K, dChain, notNG, isNG, isNon_non, isNon_bl, isNon_int, isNon_str, isNon_lst, isNon_tup, isNon_dct, isNon_ins, isNon_exc, dXv, reprG, DD.D.ins.injEq, DD.D.exc.injEq, cmpIG, neIG, clsD, Option.bind_some, B.s.injEq, if_true, if_false, dNeg, dLenSet, dIndex, dClrE, dAppE, dCallK, eqKG, sortedSG, dNL, dNR, slotD, eqL, neL, inL, isInX, ixL, itemX, getD', lenX, dLenN, dGet2, dPutN, ownS, setX, dRev, dClr, dPop, dPopAt, dExt, dAug, dDc, dLend, lendE, lend1, lentB, isLD, dDctT, dLenSetA, keyT, keyL, List.mem_cons, List.not_mem_nil, or_false, false_or, or_true, true_or, Nat.reduceEqDiff, decide_true, decide_false, Bool.or_true, Bool.true_or, Bool.false_or, Bool.or_false, Bool.and_true, Bool.true_and, reduceCtorEq, DD.D.dct.injEq, DD.D.dcT.injEq, dDctT0, nilG, nilL, List.isEmpty_nil, List.isEmpty_cons, $xs,*])
section
variable {P : Program} {w : World} {K : PySem.W.Frag} {mg : Str → Option Value} {base : Heap}

def bD (b : Bool) : D := .bl b
theorem ky_nodup {o : List Nat} (h : o.Nodup) : (o.map ky).Nodup := by
  rw [List.nodup_iff_pairwise_ne] at h ⊢
  rw [List.pairwise_map]
  exact h.imp fun n e => n (ky_inj e)
theorem plc_get {o : List Nat} {s : Nat} (hn : o.Nodup) (h : s ∈ o) : lookG (o.map ky) ((List.range' 0 o.length).map iD) (.inl (s : Int)) = some (iD (plc o s)) := by
  refine lookG_at (ky_nodup hn) (i := plc o s) ?_ ?_
  · rw [List.getElem?_map, plc_at h]
    rfl
  · rw [List.getElem?_map, List.getElem?_range' (plc_lt h)]
    simp

abbrev s_renumbered : Stmt := topS 23
theorem sc_renumbered : FnScope ["rows", "accepting", "order", "place", "at", "state", "steps"] ["rows", "accepting"] (defScope s_renumbered) := ⟨rfl, rfl, rfl, by decide +kernel, rfl, by decide +kernel, by decide +kernel⟩
def spd_renumbered  : Spd := fun bs R _ => ∃ rs d fl df, bs = [.p d, .p df] ∧ (d = .lst (rs.map rowD) ∨ d = .tup (rs.map rowD)) ∧ (df = .lst (fl.map bD) ∨ df = .tup (fl.map bD)) ∧ RowsOk rs ∧ fl.length = rs.length ∧ R (.p (.tup [.lst ((renR rs).map rowD), .lst ((renF rs fl).map bD)])) 0
theorem cal_renumbered (Da : DefAt K mg "renumbered" s_renumbered) (c_first_met : Cal P w K mg base "first_met" 1 ["rows"] spd_first_met) (m_enumerate : mg "enumerate" = none) : Cal P w K mg base "renumbered" 2 ["rows", "accepting"] spd_renumbered := by
  refine cal_mk none Da sc_renumbered (fun _ _ _ _ _ _ us hl => match us, hl with | [_, _], _ => rfl) (fun bs R E h => ?_) (fun bs R E h => ?_) fun f cdv A outer s H E W bs R ED gu hr te h fh => ?_
  · obtain ⟨rs, d, fl, df, rfl, hd, hdf, ok, hl, q⟩ := h
    rfl
  · obtain ⟨rs, d, fl, df, rfl, hd, hdf, ok, hl, q⟩ := h
    exact pur_none (by simp [B.own])
  · obtain ⟨rs, d, fl, df, rfl, hd, hdf, ok, hl, q⟩ := h
    have nd := sc_renumbered.nd
    have hu := hr.units
    refine ⟨_, (dss_cons (ds_set (i := 2) nd rfl (by first | exact Or.inl rfl | exact Or.inr rfl) (de_c c_first_met gu hr (da_cons (de_v 0) da_nil))) (dss_cons (ds_set (i := 3) nd rfl (by first | exact Or.inl rfl | exact Or.inr rfl) (de_dc rfl nd (di_enum rfl m_enumerate (da_cons (de_v 2) da_nil)) (own := [("at", 4), ("state", 5)]) (blkOk_by (by kernel_rfl)) (fun _ _ _ _ _ _ => (dgc_tup (n := 2) rfl (dgcs_cons (dgc_name (i := 4) (by decide) nd rfl (by first | exact Or.inl rfl | exact Or.inr rfl)) (dgcs_cons (dgc_name (i := 5) (by decide) nd rfl (by first | exact Or.inl rfl | exact Or.inr rfl)) dgcs_nil)))) (fun _ _ _ _ _ _ => dts_nil) (fun _ _ _ _ _ _ => (de_v 5)) (fun _ _ _ _ _ _ => (de_v 4)))) (dss_cons (ds_setLc (i := 6) rfl nd rfl rfl rfl (di_any (de_v 2)) (own := [("state", 5)]) (blkOk_by (by kernel_rfl)) (fun _ _ _ _ _ _ => (dgc_name (i := 5) (by decide) nd rfl (by first | exact Or.inl rfl | exact Or.inr rfl))) (fun _ _ _ _ _ _ => dts_nil) (fun _ _ _ _ _ _ => (de_tup (da_cons (de_ixN 3 hu (de_ix2 hu (de_ixN 0 hu (de_v 5) (fun _ _ => rfl)) de_int fun _ _ => rfl) (fun _ _ => rfl)) (da_cons (de_ixN 3 hu (de_ix2 hu (de_ixN 0 hu (de_v 5) (fun _ _ => rfl)) de_int fun _ _ => rfl) (fun _ _ => rfl)) (da_cons (de_ixN 3 hu (de_ix2 hu (de_ixN 0 hu (de_v 5) (fun _ _ => rfl)) de_int fun _ _ => rfl) (fun _ _ => rfl)) da_nil)))))) (dss_one (ds_ret (de_tup (da_cons (de_v 6) (da_cons (de_lc rfl nd (di_any (de_v 2)) (own := [("state", 5)]) (blkOk_by (by kernel_rfl)) (fun _ _ _ _ _ _ => (dgc_name (i := 5) (by decide) nd rfl (by first | exact Or.inl rfl | exact Or.inr rfl))) (fun _ _ _ _ _ _ => dts_nil) (fun _ _ _ _ _ _ => (de_ixN 1 hu (de_v 5) (fun _ _ => rfl)))) da_nil)))))))), ?_⟩
    refine dseq ?_
    simp only [zM]
    refine ⟨rs, d, rfl, hd, ok, rfl, dseq ?_⟩
    simp only [zM]
    have hn := met_ok ok
    have hnl := hn.len
    have hle := ok.le
    refine .inr ?_
    rw [enumD_map]
    refine dcL_mapA _ (fun p => iD p.1) (fun p => iD p.2) (fun p => ky p.1) (fun p => [some (.p d), some (.p df), some (.p (.lst ((met rs).map iD))), none, some (.p (iD p.2)), some (.p (iD p.1)), none]) (fun p hp Y N y => ?_) (fun p hp => ⟨rfl, rfl⟩) (by rw [List.length_zipIdx, sizeLine_eq, List.length_nil]; omega) (fun _ _ h => by cases h) (by rw [zipIdx_fst ky]; exact ky_nodup hn.nd) ?_
    · simp only [zM, dYes]
      exact y
    · rw [zipIdx_fst ky, zipIdx_snd iD]
      have pl : ∀ s, s ∈ met rs → lookG ((met rs).map ky) ((List.range' 0 (met rs).length).map iD) (.inl (s : Int)) = some (iD (plc (met rs) s)) := fun s hs => plc_get hn.nd hs
      refine dseq ?_
      simp only [zM]
      have hlD : ((met rs).map iD).length ≤ 3000 := by rw [List.length_map]; omega
      have rowAt' : ∀ q, q < rs.length → itemX d (.int (q : Nat)) = some (rowD (rowAt rs q)) := fun q hq => by
        rcases hd with rfl | rfl <;> exact atI_map (ok.at hq).1
      have flAt : ∀ q, q < rs.length → itemX df (.int (q : Nat)) = some (bD (fl.getD q false)) := fun q hq => by
        have e : fl[q]? = some (fl.getD q false) := by rw [List.getD_eq_getElem?_getD, List.getElem?_eq_getElem (by omega)]; rfl
        rcases hdf with rfl | rfl <;> exact atI_map e
      have cl := met_closed ok
      refine lcL_allA iD (fun q => rowD (renRow rs (met rs) q))
        (fun q => [some (.p d), some (.p df), some (.p (.lst ((met rs).map iD))), some (.o (.dct ((met rs).map ky) ((List.range' 0 (met rs).length).map iD))), none, some (.p (iD q)), none]) (fun q hq Y N y => ?_) (fun q hq => rfl) (by rw [List.length_nil, sizeLine_eq]; omega) ?_
      · have hq' := hn.lt q hq
        obtain ⟨c1, c2, c3⟩ := cl q hq
        simp only [zM, dYes, iD]
        refine ⟨_, rowAt' q hq', _, rfl, _, pl _ c1, _, rowAt' q hq', _, rfl, _, pl _ c2, _, rowAt' q hq', _, rfl, _, pl _ c3, ?_⟩
        exact y
      · simp only [zM]
        refine lcL_allA iD (fun q => bD (fl.getD q false)) (fun q => [some (.p d), some (.p df), some (.p (.lst ((met rs).map iD))), some (.o (.dct ((met rs).map ky) ((List.range' 0 (met rs).length).map iD))), none, some (.p (iD q)), some (.p (.lst ((met rs).map fun q => rowD (renRow rs (met rs) q))))]) (fun q hq Y N y => ?_) (fun q hq => rfl) (by rw [List.length_nil, sizeLine_eq]; omega) ?_
        · have hq' := hn.lt q hq
          simp only [zM, dYes, iD]
          exact ⟨_, flAt q hq', y⟩
        · have e1 : (met rs).map (fun q => rowD (renRow rs (met rs) q)) = (renR rs).map rowD := by
            unfold renR
            rw [List.map_map]
            rfl
          have e2 : (met rs).map (fun q => bD (fl.getD q false)) = (renF rs fl).map bD := by
            unfold renF
            rw [List.map_map]
            rfl
          rw [e1, e2, List.nil_append]
          exact ⟨0, q⟩
end
end K

set_option Elab.async false
set_option linter.all false
set_option maxRecDepth 100000
set_option maxHeartbeats 8000000
namespace K
open PySem PySem.Spec PyProof.Rows L2 DD
local macro_rules | `(tactic| simp only [zP]) => `(tactic| simp only [startD, List.map_cons, List.map_nil, List.length_cons, List.length_nil, Nat.reduceAdd, Nat.reduceSub, List.replicate, List.cons_append, List.nil_append, dSeq, dSet, dIfS, dT, dOp, dCB, dCons, dNil, dV, dM, dC, dp, dNext, dRet, dRetN, dLst, dTup, dDrop, dNot, dAnd, dOr, dAndV, dOrV, dNotV, intG, intG0, lenG, lenD, ixG, itemD, intCG, intOf, maxG, List.getElem?_cons_zero, List.getElem?_cons_succ, List.set_cons_zero, List.set_cons_succ, Option.some.injEq, B.isU, B.d, B.rd, exists_eq_left', exists_eq_left, exists_and_left, true_and, and_true, B.p.injEq, DD.D.bl.injEq, DD.D.int.injEq, List.cons.injEq, DD.PC, decide_eq_true_eq, and_assoc, Option.map_some, dLc, iAny, walked, wipeE, gN, dCall, dCallP, dCallF, eqG, neG, Bool.not_true, Bool.not_false, if_true, if_false, Bool.false_eq_true, reduceIte, List.append_nil, dCBK, addG, dM1, gT, gsCons, gsNil, iEnumD, dAsP, iR1, dPart, dNo, dSl, freB, lstD, List.all_cons, List.all_nil, litD, Bool.and_self, dReprPair, dDctN, itemD2, ixG2, keyD, lookD, strG2, dPar, bCons, bNil, dFor, List.zip_cons_cons, List.zip_nil_right, List.foldl_cons, List.foldl_nil, dApp, B.o.injEq, DD.D.lst.injEq, DD.D.tup.injEq, exists_eq', dDct0, B.u.injEq, sizeLine_eq, Nat.reduceLeDiff, Nat.reduceLT, Nat.zero_le, true_implies, slG, List.length_map, tupleG, seqD, listG, iR2, List.length_take, List.length_drop, List.length_append, DD.D.str.injEq, mulG, dAsg, dFld, lookF, dSetF, setF, dProp, dMeth, dMake, dMakeK, cxOf_K, dChain, notNG, isNG, isNon_non, isNon_bl, isNon_int, isNon_str, isNon_lst, isNon_tup, isNon_dct, isNon_ins, isNon_exc, dXv, reprG, DD.D.ins.injEq, DD.D.exc.injEq, cmpIG, neIG, clsD, Option.bind_some, B.s.injEq, if_true, if_false, dNeg, dLenSet, dIndex, dClrE, dAppE, dCallK, eqKG, sortedSG])
local macro_rules | `(tactic| simp only [zP, $xs,*]) => `(tactic| simp only [startD, List.map_cons, List.map_nil, List.length_cons, List.length_nil, Nat.reduceAdd, Nat.reduceSub, List.replicate, List.cons_append, List.nil_append, dSeq, dSet, dIfS, dT, dOp, dCB, dCons, dNil, dV, dM, dC, dp, dNext, dRet, dRetN, dLst, dTup, dDrop, dNot, dAnd, dOr, dAndV, dOrV, dNotV, intG, intG0, lenG, lenD, ixG, itemD, intCG, intOf, maxG, List.getElem?_cons_zero, List.getElem?_cons_succ, List.set_cons_zero, List.set_cons_succ, Option.some.injEq, B.isU, B.d, B.rd, exists_eq_left', exists_eq_left, exists_and_left, true_and, and_true, B.p.injEq, DD.D.bl.injEq, DD.D.int.injEq, List.cons.injEq, DD.PC, decide_eq_true_eq, and_assoc, Option.map_some, dLc, iAny, walked, wipeE, gN, dCall, dCallP, dCallF, eqG, neG, Bool.not_true, Bool.not_false, if_true, if_false, Bool.false_eq_true, reduceIte, List.append_nil, dCBK, addG, dM1, gT, gsCons, gsNil, iEnumD, dAsP, iR1, dPart, dNo, dSl, freB, lstD, List.all_cons, List.all_nil, litD, Bool.and_self, dReprPair, dDctN, itemD2, ixG2, keyD, lookD, strG2, dPar, bCons, bNil, dFor, List.zip_cons_cons, List.zip_nil_right, List.foldl_cons, List.foldl_nil, dApp, B.o.injEq, DD.D.lst.injEq, DD.D.tup.injEq, exists_eq', dDct0, B.u.injEq, sizeLine_eq, Nat.reduceLeDiff, Nat.reduceLT, Nat.zero_le, true_implies, slG, List.length_map, tupleG, seqD, listG, iR2, List.length_take, List.length_drop, List.length_append, DD.D.str.injEq, mulG, dAsg, dFld, lookF, dSetF, setF, dProp, dMeth, dMake, dMakeK, cxOf_K, dChain, notNG, isNG, isNon_non, isNon_bl, isNon_int, isNon_str, isNon_lst, isNon_tup, isNon_dct, isNon_ins, isNon_exc, dXv, reprG, DD.D.ins.injEq, DD.D.exc.injEq, cmpIG, neIG, clsD, Option.bind_some, B.s.injEq, if_true, if_false, dNeg, dLenSet, dIndex, dClrE, dAppE, dCallK, eqKG, sortedSG, $xs,*])
local macro_rules | `(tactic| simp only [zQ]) => `(tactic| simp only [startD, List.map_cons, List.map_nil, List.length_cons, List.length_nil, Nat.reduceAdd, Nat.reduceSub, List.replicate, List.cons_append, List.nil_append, dSet, dIfS, dT, dOp, dCB, dCons, dNil, dV, dM, dC, dp, dNext, dRet, dRetN, dLst, dTup, dDrop, dNot, dAnd, dOr, dAndV, dOrV, dNotV, intG, intG0, lenG, lenD, ixG, itemD, intCG, intOf, maxG, List.getElem?_cons_zero, List.getElem?_cons_succ, List.set_cons_zero, List.set_cons_succ, Option.some.injEq, B.isU, B.d, B.rd, exists_eq_left', exists_eq_left, exists_and_left, true_and, and_true, B.p.injEq, DD.D.bl.injEq, DD.D.int.injEq, List.cons.injEq, DD.PC, decide_eq_true_eq, and_assoc, Option.map_some, dLc, iAny, walked, wipeE, gN, dCall, dCallP, dCallF, eqG, neG, Bool.not_true, Bool.not_false, if_true, if_false, Bool.false_eq_true, reduceIte, List.append_nil, dCBK, addG, dM1, gT, gsCons, gsNil, iEnumD, dAsP, iR1, dPart, dNo, dSl, freB, lstD, List.all_cons, List.all_nil, litD, Bool.and_self, dReprPair, dDctN, itemD2, ixG2, keyD, lookD, strG2, dPar, bCons, bNil, dFor, List.zip_cons_cons, List.zip_nil_right, List.foldl_cons, List.foldl_nil, dApp, B.o.injEq, DD.D.lst.injEq, DD.D.tup.injEq, exists_eq', dDct0, B.u.injEq, sizeLine_eq, Nat.reduceLeDiff, Nat.reduceLT, Nat.zero_le, true_implies, slG, List.length_map, tupleG, seqD, listG, iR2, List.length_take, List.length_drop, List.length_append, DD.D.str.injEq, mulG, dAsg, dFld, lookF, dSetF, setF, dProp, dMeth, dMake, dMakeK, cxOf_K, dChain, notNG, isNG, isNon_non, isNon_bl, isNon_int, isNon_str, isNon_lst, isNon_tup, isNon_dct, isNon_ins, isNon_exc, dXv, reprG, DD.D.ins.injEq, DD.D.exc.injEq, cmpIG, neIG, clsD, Option.bind_some, B.s.injEq, if_true, if_false, dNeg, dLenSet, dIndex, dClrE, dAppE, dCallK, eqKG, sortedSG])
local macro_rules | `(tactic| simp only [zQ, $xs,*]) => `(tactic| simp only [startD, List.map_cons, List.map_nil, List.length_cons, List.length_nil, Nat.reduceAdd, Nat.reduceSub, List.replicate, List.cons_append, List.nil_append, dSet, dIfS, dT, dOp, dCB, dCons, dNil, dV, dM, dC, dp, dNext, dRet, dRetN, dLst, dTup, dDrop, dNot, dAnd, dOr, dAndV, dOrV, dNotV, intG, intG0, lenG, lenD, ixG, itemD, intCG, intOf, maxG, List.getElem?_cons_zero, List.getElem?_cons_succ, List.set_cons_zero, List.set_cons_succ, Option.some.injEq, B.isU, B.d, B.rd, exists_eq_left', exists_eq_left, exists_and_left, true_and, and_true, B.p.injEq, DD.D.bl.injEq, DD.D.int.injEq, List.cons.injEq, DD.PC, decide_eq_true_eq, and_assoc, Option.map_some, dLc, iAny, walked, wipeE, gN, dCall, dCallP, dCallF, eqG, neG, Bool.not_true, Bool.not_false, if_true, if_false, Bool.false_eq_true, reduceIte, List.append_nil, dCBK, addG, dM1, gT, gsCons, gsNil, iEnumD, dAsP, iR1, dPart, dNo, dSl, freB, lstD, List.all_cons, List.all_nil, litD, Bool.and_self, dReprPair, dDctN, itemD2, ixG2, keyD, lookD, strG2, dPar, bCons, bNil, dFor, List.zip_cons_cons, List.zip_nil_right, List.foldl_cons, List.foldl_nil, dApp, B.o.injEq, DD.D.lst.injEq, DD.D.tup.injEq, exists_eq', dDct0, B.u.injEq, sizeLine_eq, Nat.reduceLeDiff, Nat.reduceLT, Nat.zero_le, true_implies, slG, List.length_map, tupleG, seqD, listG, iR2, List.length_take, List.length_drop, List.length_append, DD.D.str.injEq, mulG, dAsg, dFld, lookF, dSetF, setF, dProp, dMeth, dMake, dMakeK, cxOf_K, dChain, notNG, isNG, isNon_non, isNon_bl, isNon_int, isNon_str, isNon_lst, isNon_tup, isNon_dct, isNon_ins, isNon_exc, dXv, reprG, DD.D.ins.injEq, DD.D.exc.injEq, cmpIG, neIG, clsD, Option.bind_some, B.s.injEq, if_true, if_false, dNeg, dLenSet, dIndex, dClrE, dAppE, dCallK, eqKG, sortedSG, $xs,*])
local macro_rules | `(tactic| simp only [zM]) => `(tactic| simp only [startD, List.map_cons, List.map_nil, List.length_cons, List.length_nil, Nat.reduceAdd, Nat.reduceSub, List.replicate, List.cons_append, List.nil_append, dSet, dIfS, dT, dOp, dCB, dCons, dNil, dV, dM, dC, dp, dNext, dRet, dRetN, dLst, dTup, dDrop, dNot, dAnd, dOr, dAndV, dOrV, dNotV, intG, intG0, lenG, lenD, ixG, itemD, intCG, intOf, maxG, List.getElem?_cons_zero, List.getElem?_cons_succ, List.set_cons_zero, List.set_cons_succ, Option.some.injEq, B.isU, B.d, B.rd, exists_eq_left', exists_eq_left, exists_and_left, true_and, and_true, B.p.injEq, DD.D.bl.injEq, DD.D.int.injEq, List.cons.injEq, DD.PC, decide_eq_true_eq, and_assoc, Option.map_some, dLc, iAny, walked, wipeE, gN, dCall, dCallP, dCallF, eqG, neG, Bool.not_true, Bool.not_false, if_true, if_false, Bool.false_eq_true, reduceIte, List.append_nil, dCBK, addG, dM1, gT, gsCons, gsNil, iEnumD, dAsP, iR1, dPart, dNo, dSl, freB, lstD, List.all_cons, List.all_nil, litD, Bool.and_self, dReprPair, dDctN, itemD2, ixG2, keyD, lookD, strG2, dPar, bCons, bNil, dFor, List.zip_cons_cons, List.zip_nil_right, List.foldl_cons, List.foldl_nil, dApp, B.o.injEq, DD.D.lst.injEq, DD.D.tup.injEq, exists_eq', dDct0, B.u.injEq, sizeLine_eq, Nat.reduceLeDiff, Nat.reduceLT, Nat.zero_le, true_implies, slG, List.length_map, tupleG, seqD, listG, iR2, List.length_take, List.length_drop, List.length_append, DD.D.str.injEq, mulG, dAsg, dFld, lookF, dSetF, setF, dProp, dMeth, dMake, dMakeK, cxOf_K, dChain, notNG, isNG, isNon_non, isNon_bl, isNon_int, isNon_str, isNon_lst, isNon_tup, isNon_dct, isNon_ins, isNon_exc, dXv, reprG, DD.D.ins.injEq, DD.D.exc.injEq, cmpIG, neIG, clsD, Option.bind_some, B.s.injEq, if_true, if_false, dNeg, dLenSet, dIndex, dClrE, dAppE, dCallK, eqKG, sortedSG, dNL, dNR, slotD, eqL, neL, inL, isInX, ixL, itemX, getD', lenX, dLenN, dGet2, dPutN, ownS, setX, dRev, dClr, dPop, dPopAt, dExt, dAug, dDc, dLend, lendE, lend1, lentB, isLD, dDctT, dLenSetA, keyT, keyL, List.mem_cons, List.not_mem_nil, or_false, false_or, or_true, true_or, Nat.reduceEqDiff, decide_true, decide_false, Bool.or_true, Bool.true_or, Bool.false_or, Bool.or_false, Bool.and_true, Bool.true_and, reduceCtorEq, DD.D.dct.injEq, DD.D.dcT.injEq, dDctT0, nilG, nilL, List.isEmpty_nil, List.isEmpty_cons])
local macro_rules | `(tactic| simp only [zM, $xs,*]) => `(tactic| simp only [startD, List.map_cons, List.map_nil, List.length_cons, List.length_nil, Nat.reduceAdd, Nat.reduceSub, List.replicate, List.cons_append, List.nil_append, dSet, dIfS, dT, dOp, dCB, dCons, dNil, dV, dM, dC, dp, dNext, dRet, dRetN, dLst, dTup, dDrop, dNot, dAnd, dOr, dAndV, dOrV, dNotV, intG, intG0, lenG, lenD, ixG, itemD, intCG, intOf, maxG, List.getElem?_cons_zero, List.getElem?_cons_succ, List.set_cons_zero, List.set_cons_succ, Option.some.injEq, B.isU, B.d, B.rd, exists_eq_left', exists_eq_left, exists_and_left, true_and, and_true, B.p.injEq, DD.D.bl.injEq, DD.D.int.injEq, List.cons.injEq, DD.PC, decide_eq_true_eq, and_assoc, Option.map_some, dLc, iAny, walked, wipeE, gN, dCall, dCallP, dCallF, eqG, neG, Bool.not_true, Bool.not_false, if_true, if_false, Bool.false_eq_true, reduceIte, List.append_nil, dCBK, addG, dM1, gT, gsCons, gsNil, iEnumD, dAsP, iR1, dPart, dNo, dSl, freB, lstD, List.all_cons, List.all_nil, litD, Bool.and_self, dReprPair, dDctN, itemD2, ixG2, keyD, lookD, strG2, dPar, bCons, bNil, dFor, List.zip_cons_cons, List.zip_nil_right, List.foldl_cons, List.foldl_nil, dApp, B.o.injEq, DD.D.lst.injEq, DD.D.tup.injEq, exists_eq', dDct0, B.u.injEq, sizeLine_eq, Nat.reduceLeDiff, Nat.reduceLT, Nat.zero_le, true_implies, slG, List.length_map, tupleG, seqD, listG, iR2, List.length_take, List.length_drop, List.length_append, DD.D.str.injEq, mulG, dAsg, dFld, lookF, dSetF, setF, dProp, dMeth, dMake, dMakeK, cxOf_K, dChain, notNG, isNG, isNon_non, isNon_bl, isNon_int, isNon_str, isNon_lst, isNon_tup, isNon_dct, isNon_ins, isNon_exc, dXv, reprG, DD.D.ins.injEq, DD.D.exc.injEq, cmpIG, neIG, clsD, Option.bind_some, B.s.injEq, if_true, if_false, dNeg, dLenSet, dIndex, dClrE, dAppE, dCallK, eqKG, sortedSG, dNL, dNR, slotD, eqL, neL, inL, isInX, ixL, itemX, getD', lenX, dLenN, dGet2, dPutN, ownS, setX, dRev, dClr, dPop, dPopAt, dExt, dAug, dDc, dLend, lendE, lend1, lentB, isLD, dDctT, dLenSetA, keyT, keyL, List.mem_cons, List.not_mem_nil, or_false, false_or, or_true, true_or, Nat.reduceEqDiff, decide_true, decide_false, Bool.or_true, Bool.true_or, Bool.false_or, Bool.or_false, Bool.and_true, Bool.true_and, reduceCtorEq, DD.D.dct.injEq, DD.D.dcT.injEq, dDctT0, nilG, nilL, List.isEmpty_nil, List.isEmpty_cons, $xs,*])
section
variable {P : Program} {w : World} {K : PySem.W.Frag} {mg : Str → Option Value} {base : Heap}

def k4D (k : KeyN) : D := .tup [.int (k.1 : Nat), .int (k.2.1 : Nat), .int (k.2.2.1 : Nat), .int (k.2.2.2 : Nat)]
def kT (k : KeyN) : List Key := [.inl (k.1 : Nat), .inl (k.2.1 : Nat), .inl (k.2.2.1 : Nat), .inl (k.2.2.2 : Nat)]
theorem kT_inj (a b : KeyN) (h : kT a = kT b) : a = b := by
  unfold kT at h
  simp only [List.cons.injEq, Sum.inl.injEq, and_true] at h
  obtain ⟨h1, h2, h3, h4⟩ := h
  exact Prod.ext (Int.ofNat_inj.mp h1) (Prod.ext (Int.ofNat_inj.mp h2) (Prod.ext (Int.ofNat_inj.mp h3) (Int.ofNat_inj.mp h4)))
theorem kT_mem {o : List KeyN} {s : KeyN} : kT s ∈ o.map kT ↔ s ∈ o := ⟨fun h => by
  obtain ⟨a, ha, e⟩ := List.mem_map.mp h
  rw [← kT_inj _ _ e]
  exact ha, fun h => List.mem_map.mpr ⟨s, h, rfl⟩⟩
theorem kT_nodup {o : List KeyN} (h : o.Nodup) : (o.map kT).Nodup := by
  rw [List.nodup_iff_pairwise_ne] at h ⊢
  rw [List.pairwise_map]
  exact h.imp fun n e => n (kT_inj _ _ e)
/-- the numbers of keys -/
def numD (o : List KeyN) : D := .dcT (o.map kT) ((List.range o.length).map iD)
theorem num_has {o : List KeyN} {s : KeyN} : (lookG (o.map kT) ((List.range o.length).map iD) (kT s)).isSome = decide (s ∈ o) := by
  by_cases h : s ∈ o
  · rw [decide_eq_true h]
    cases q : lookG (o.map kT) ((List.range o.length).map iD) (kT s) with
    | some _ => rfl
    | none =>
      rw [lookG_none (by simp)] at q
      exact absurd (kT_mem.mpr h) q
  · rw [decide_eq_false h, lookG_not (fun z => h (kT_mem.mp z))]
    rfl
theorem num_get {o : List KeyN} {s : KeyN} (hn : o.Nodup) (h : s ∈ o) : lookG (o.map kT) ((List.range o.length).map iD) (kT s) = some (iD (idxK o s)) := by
  have hl := idxK_lt h
  refine lookG_at (kT_nodup hn) (i := idxK o s) ?_ ?_
  · rw [List.getElem?_map, idxK_at h]
    rfl
  · rw [List.getElem?_map, List.getElem?_range hl]
    rfl
theorem num_put {o : List KeyN} {s : KeyN} (h : s ∉ o) : putG (o.map kT) ((List.range o.length).map iD) (kT s) (iD o.length) = ((o ++ [s]).map kT, (List.range (o ++ [s]).length).map iD) := by
  rw [putG_new (fun z => h (kT_mem.mp z)), List.length_append, List.length_singleton, List.range_succ, List.map_append, List.map_append]
  rfl
theorem dedup_spec (ns : List Int) : (dedup ns).Nodup ∧ ∀ x, x ∈ dedup ns ↔ x ∈ ns := by
  have aux : ∀ i, i ≤ ns.length → (firstMet (fun i => ns.getD i 0) i).Nodup ∧ ∀ x, x ∈ firstMet (fun i => ns.getD i 0) i ↔ x ∈ ns.take i := fun i => by
    induction i with
    | zero => intro _; exact ⟨List.nodup_nil, fun x => by simp [firstMet]⟩
    | succ i ih =>
      intro hi
      obtain ⟨h1, h2⟩ := ih (by omega)
      have e : ns.getD i 0 = ns[i] := by
        rw [List.getD_eq_getElem?_getD, List.getElem?_eq_getElem (by omega)]
        rfl
      have tk : ns.take (i + 1) = ns.take i ++ [ns[i]] := by
        rw [List.take_add_one, List.getElem?_eq_getElem (by omega)]
        rfl
      rw [firstMet_succ, tk]
      unfold step_dedup
      rw [e]
      by_cases hm : (firstMet (fun i => ns.getD i 0) i).any (· == ns[i]) = true
      · rw [if_pos hm]
        refine ⟨h1, fun x => ?_⟩
        rw [h2, List.mem_append, List.mem_singleton]
        obtain ⟨y, hy, ey⟩ := List.any_eq_true.mp hm
        rw [beq_iff_eq] at ey
        exact ⟨.inl, fun z => z.elim id fun z => by rw [z, ← ey]; exact (h2 y).mp hy⟩
      · rw [if_neg hm]
        refine ⟨?_, fun x => by rw [List.mem_append, List.mem_append, h2]⟩
        rw [List.nodup_append]
        exact ⟨h1, by simp, fun a ha b hb => by
          rw [List.mem_singleton.mp hb]
          exact fun z => hm (List.any_eq_true.mpr ⟨a, ha, by rw [z]; simp⟩)⟩
  obtain ⟨h1, h2⟩ := aux ns.length (Nat.le_refl _)
  rw [List.take_length] at h2
  exact ⟨h1, h2⟩
theorem dedup_many {ns : List Nat} : (dedup (ns.map fun n : Nat => (n : Int))).length = manyN ns := by
  obtain ⟨h1, h2⟩ := dedup_spec (ns.map fun n : Nat => (n : Int))
  have hi : ∀ {l : List Nat}, l.Nodup → (l.map fun n : Nat => (n : Int)).Nodup := fun {l} h => by
    rw [List.nodup_iff_pairwise_ne] at h ⊢
    rw [List.pairwise_map]
    exact h.imp fun n e => n (Int.ofNat_inj.mp e)
  unfold manyN
  rw [len_eq h1 (hi (nubs_nodup (l := ns))) fun x => ?_, List.length_map]
  rw [h2, List.mem_map, List.mem_map]
  constructor
  · rintro ⟨a, ha, rfl⟩
    exact ⟨a, mem_nubs.mpr ha, rfl⟩
  · rintro ⟨a, ha, rfl⟩
    exact ⟨a, mem_nubs.mp ha, rfl⟩

abbrev s_grouped : Stmt := topS 24
theorem sc_grouped : FnScope ["rows", "accepting", "found", "one", "many", "keys", "state", "row", "numbers", "key"] ["rows", "accepting"] (defScope s_grouped) := ⟨rfl, rfl, rfl, by decide +kernel, rfl, by decide +kernel, by decide +kernel⟩
def spd_grouped  : Spd := fun bs R _ => ∃ rs fl, bs = [.p (.lst (rs.map rowD)), .p (.lst (fl.map bD))] ∧ RowsOk rs ∧ fl.length = rs.length ∧ ∀ c, Stab rs fl c → R (.o (.lst (c.map iD))) 0
theorem cal_grouped (Da : DefAt K mg "grouped" s_grouped) (m_len : mg "len" = none) (m_set : mg "set" = none) (m_int : mg "int" = none) (m_enumerate : mg "enumerate" = none) : Cal P w K mg base "grouped" 1 ["rows", "accepting"] spd_grouped := by
  refine cal_mk none Da sc_grouped (fun _ _ _ _ _ _ us hl => match us, hl with | [_, _], _ => rfl) (fun bs R E h => ?_) (fun bs R E h => ?_) fun f cdv A outer s H E W bs R ED gu hr te h fh => ?_
  · obtain ⟨rs, fl, rfl, ok, hl, q⟩ := h
    rfl
  · obtain ⟨rs, fl, rfl, ok, hl, q⟩ := h
    exact pur_none (by simp [B.own])
  · obtain ⟨rs, fl, rfl, ok, hl, q⟩ := h
    have nd := sc_grouped.nd
    have hu := hr.units
    have ps := passes_of (X := cxOf (L2.CX P w) P w K mg base ["rows", "accepting", "found", "one", "many", "keys", "state", "row", "numbers", "key"] "grouped" (defScope s_grouped) f cdv A outer s H E) rfl
    refine ⟨_, (dss_cons (ds_set (i := 2) nd rfl (by first | exact Or.inl rfl | exact Or.inr rfl) (de_lc rfl nd (di_any (de_v 1)) (own := [("one", 3)]) (blkOk_by (by kernel_rfl)) (fun _ _ _ _ _ _ => (dgc_name (i := 3) (by decide) nd rfl (by first | exact Or.inl rfl | exact Or.inr rfl))) (fun _ _ _ _ _ _ => dts_nil) (fun _ _ _ _ _ _ => (de_callTy call_int1 rc_int rfl m_int bt_int (da_cons (de_v 3) da_nil))))) (dss_cons (ds_set (i := 4) nd rfl (by first | exact Or.inl rfl | exact Or.inr rfl) (de_lend [2] (fun W => (de_lenSetA rfl m_len m_set (de_v 2))))) (dss_one (ds_while ps (dt_val (he := fun _ => rfl) de_bl) (dss_cons (ds_setLc (i := 5) rfl nd rfl rfl rfl (di_enum rfl m_enumerate (da_cons (de_v 0) da_nil)) (own := [("state", 6), ("row", 7)]) (blkOk_by (by kernel_rfl)) (fun _ _ _ _ _ _ => (dgc_tup (n := 2) rfl (dgcs_cons (dgc_name (i := 6) (by decide) nd rfl (by first | exact Or.inl rfl | exact Or.inr rfl)) (dgcs_cons (dgc_name (i := 7) (by decide) nd rfl (by first | exact Or.inl rfl | exact Or.inr rfl)) dgcs_nil)))) (fun _ _ _ _ _ _ => dts_nil) (fun _ _ _ _ _ _ => (de_tup (da_cons (de_ixN 2 hu (de_v 6) (fun _ _ => rfl)) (da_cons (de_ixN 2 hu (de_ixN 7 hu de_int (fun _ _ => rfl)) (fun _ _ => rfl)) (da_cons (de_ixN 2 hu (de_ixN 7 hu de_int (fun _ _ => rfl)) (fun _ _ => rfl)) (da_cons (de_ixN 2 hu (de_ixN 7 hu de_int (fun _ _ => rfl)) (fun _ _ => rfl)) da_nil))))))) (dss_cons (ds_set (i := 8) nd rfl (by first | exact Or.inl rfl | exact Or.inr rfl) de_dctT0) (dss_cons (ds_for te ps rfl (di_any (de_v 5)) (fun _ => (dg_name (i := 9) nd rfl (by first | exact Or.inl rfl | exact Or.inr rfl))) (fun _ te => (dss_one (ds_if (dt_cmpR 8 (op_notInX hu) rl_in (de_v 9)) (dss_one (ds_putN 8 hu (de_lenN 8 m_len) (de_v 9))) dss_nil)))) (dss_cons (ds_if (dt_cmpR 4 (op_eqAll hu) rl_eq (de_lenN 8 m_len)) (dss_one (ds_ret (de_m 2))) dss_nil) (dss_cons (ds_set (i := 4) nd rfl (by first | exact Or.inl rfl | exact Or.inr rfl) (de_lenN 8 m_len)) (dss_one (ds_set (i := 2) nd rfl (by first | exact Or.inl rfl | exact Or.inr rfl) (de_lc rfl nd (di_any (de_v 5)) (own := [("key", 9)]) (blkOk_by (by kernel_rfl)) (fun _ _ _ _ _ _ => (dgc_name (i := 9) (by decide) nd rfl (by first | exact Or.inl rfl | exact Or.inr rfl))) (fun _ _ _ _ _ _ => dts_nil) (fun _ _ _ _ _ _ => (de_ixN 8 hu (de_v 9) (fun _ _ => rfl))))))))))))))), ?_⟩
    have ole := ok.le
    have opos := ok.pos
    refine dseq ?_
    simp only [zM]
    refine lcL_allA bD (fun b => iD (if b = true then 1 else 0)) (fun b => [some (.p (.lst (rs.map rowD))), some (.p (.lst (fl.map bD))), none, some (.p (bD b)), none, none, none, none, none, none]) (fun b hb Y N y => ?_) (fun b hb => rfl) (by rw [List.length_nil, sizeLine_eq]; omega) ?_
    · simp only [zM, dYes, bD]
      cases b <;> exact y
    · have e0 : ([] : List D) ++ fl.map (fun b => iD (if b = true then 1 else 0)) = (c01 fl).map iD := by
        unfold c01
        rw [List.map_map]
        rfl
      rw [e0]
      refine dseq ?_
      simp only [zM]
      have ei : ∀ c : List Nat, c.map iD = (c.map fun n : Nat => (n : Int)).map D.int := fun c => by
        rw [List.map_map]
        rfl
      refine ⟨(c01 fl).map fun n : Nat => (n : Int), ei _, by unfold c01; rw [List.length_map, List.length_map]; omega, ?_⟩
      rw [dedup_many]
      refine ⟨rfl, ?_⟩
      refine while_inv (fun m δ => ∃ c x5 x6 x7 x8 x9, m = rs.length - manyN c ∧ Part rs fl c ∧ δ = [some (.p (.lst (rs.map rowD))), some (.p (.lst (fl.map bD))), some (.o (.lst (c.map iD))), none, some (.p (.int (manyN c : Nat))), x5, x6, x7, x8, x9]) (fun m δ hI N hN => ?_) ⟨c01 fl, _, _, _, _, _, rfl, part_c01 hl, rfl⟩
      obtain ⟨c, x5, x6, x7, x8, x9, rfl, hp, rfl⟩ := hI
      have cl := hp.len
      have cget : ∀ q, q < rs.length → atI (c.map iD) (q : Int) = some (iD (cAt c q)) := fun q hq => by
        refine atI_map ?_
        unfold cAt
        rw [List.getD_eq_getElem?_getD, List.getElem?_eq_getElem (by omega)]
        rfl
      simp only [zM]
      refine dseq ?_
      simp only [zM]
      refine .inr ?_
      rw [enumD_map]
      have zat : ∀ p ∈ rs.zipIdx 0, p.2 < rs.length ∧ p.1 = rowAt rs p.2 := fun p hp => by
        obtain ⟨h1, h2, h3⟩ := List.mem_zipIdx hp
        refine ⟨by omega, ?_⟩
        unfold rowAt
        rw [List.getD_eq_getElem?_getD, List.getElem?_eq_getElem (by omega), h3]
        simp
      refine lcL_allA _ (fun p => k4D (keyN rs c p.2)) (fun p => [some (.p (.lst (rs.map rowD))), some (.p (.lst (fl.map bD))), some (.o (.lst (c.map iD))), none, some (.p (.int (manyN c : Nat))), x5, some (.p (.int (p.2 : Nat))), some (.p (rowD p.1)), x8, x9]) (fun p hp2 Y N y => ?_) (fun p hp2 => rfl) (by rw [List.length_nil, List.length_zipIdx, sizeLine_eq]; omega) ?_
      · obtain ⟨p1, p2⟩ := zat p hp2
        obtain ⟨_, r1, r2, r3⟩ := ok.at p1
        simp only [zM, dYes]
        rw [p2]
        refine ⟨_, cget _ p1, _, rfl, _, cget _ r1, _, rfl, _, cget _ r2, _, rfl, _, cget _ r3, ?_⟩
        rw [p2] at y
        exact y
      · have ek : ([] : List D) ++ (rs.zipIdx 0).map (fun p => k4D (keyN rs c p.2)) = (keysN rs c).map k4D := by
          rw [zipIdx_snd (fun i => k4D (keyN rs c i))]
          unfold keysN
          rw [List.map_map, List.range_eq_range']
          rfl
        rw [ek]
        have kl := keysN_len (rs := rs) (c := c)
        have nle := nubs_le (l := keysN rs c)
        refine dseq ?_
        simp only [zM]
        refine dseq ?_
        simp only [zM]
        refine forL_run k4D (fun p δ => ∃ x9, δ = [some (.p (.lst (rs.map rowD))), some (.p (.lst (fl.map bD))), some (.o (.lst (c.map iD))), none, some (.p (.int (manyN c : Nat))), some (.p (.lst ((keysN rs c).map k4D))), none, none, some (.o (.dcT ((nubs p).map kT) ((List.range (nubs p).length).map iD))), x9]) (l := keysN rs c) (pre := []) (fun p a r δ e hI M hM => ?_) (fun δ hI => ?_) ⟨x9, rfl⟩
        · obtain ⟨y9, rfl⟩ := hI
          have nl : (nubs p).length ≤ 3000 := by
            have h1 := nubs_le (l := p)
            have h2 := congrArg List.length e
            rw [List.nil_append, List.length_append, List.length_cons] at h2
            omega
          have hM2 : ∀ x9, M [some (.p (.lst (rs.map rowD))), some (.p (.lst (fl.map bD))), some (.o (.lst (c.map iD))), none, some (.p (.int (manyN c : Nat))), some (.p (.lst ((keysN rs c).map k4D))), none, none, some (.o (.dcT ((addK (nubs p) a).map kT) ((List.range (addK (nubs p) a).length).map iD))), x9] := fun x9 => hM _ ⟨x9, by rw [nubs_snoc]⟩
          have kk : keyT (k4D a) = some (kT a) := rfl
          simp only [zM, k4D]
          have nh := num_has (o := nubs p) (s := a)
          have np : a ∉ nubs p → _ := num_put (o := nubs p) (s := a)
          unfold kT at nh np
          unfold kT
          rw [nh]
          by_cases hm : a ∈ nubs p
          · rw [decide_eq_true hm]
            have z := hM2 (some (.p (k4D a)))
            rw [addK_in hm] at z
            exact iteF z
          · rw [decide_eq_false hm]
            refine iteT ⟨_, if_pos (by omega), ?_⟩
            rw [show (D.int ((nubs p).length : Nat)) = iD (nubs p).length from rfl, np hm]
            have z := hM2 (some (.p (k4D a)))
            rw [addK_out hm] at z
            exact z
        · obtain ⟨y9, rfl⟩ := hI
          rw [List.nil_append]
          have cnt := many_refine (rs := rs) (c := c)
          have mle := many_le (rs := rs) hp.len
          simp only [zM]
          refine dseq ?_
          simp only [zM, eqD_int]
          by_cases he : (nubs (keysN rs c)).length = manyN c
          · rw [if_pos (show (((nubs (keysN rs c)).length : Nat) : Int) = (manyN c : Nat) by omega)]
            exact ⟨0, q c (hp.stab he)⟩
          · rw [if_neg (show ¬ (((nubs (keysN rs c)).length : Nat) : Int) = (manyN c : Nat) by omega)]
            refine dseq ?_
            simp only [zM]
            refine lcL_allA k4D (fun k => iD (idxK (nubs (keysN rs c)) k)) (fun k => [some (.p (.lst (rs.map rowD))), some (.p (.lst (fl.map bD))), some (.o (.lst (c.map iD))), none, some (.p (.int ((nubs (keysN rs c)).length : Nat))), some (.p (.lst ((keysN rs c).map k4D))), none, none, some (.o (.dcT ((nubs (keysN rs c)).map kT) ((List.range (nubs (keysN rs c)).length).map iD))), some (.p (k4D k))]) (fun k hk Y M y => ?_) (fun k hk => rfl) (by rw [List.length_nil, sizeLine_eq]; omega) ?_
            · have ng := num_get (o := nubs (keysN rs c)) (s := k) nubs_nodup (mem_nubs.mpr hk)
              unfold kT at ng
              simp only [zM, dYes, k4D, kT]
              exact ⟨_, ng, y⟩
            · have er : ([] : List D) ++ (keysN rs c).map (fun k => iD (idxK (nubs (keysN rs c)) k)) = (refine1 rs c).map iD := by
                unfold refine1
                rw [List.map_map]
                rfl
              rw [er]
              refine hN (rs.length - manyN (refine1 rs c)) _ (by omega) ⟨refine1 rs c, some (.p (.lst ((keysN rs c).map k4D))), none, none, some (.o (.dcT ((nubs (keysN rs c)).map kT) ((List.range (nubs (keysN rs c)).length).map iD))), none, rfl, hp.refine ok, by rw [cnt]; rfl⟩
end
end K

set_option Elab.async false
set_option linter.all false
set_option maxRecDepth 100000
set_option maxHeartbeats 8000000
namespace K
open PySem PySem.Spec PyProof.Rows L2 DD
local macro_rules | `(tactic| simp only [zP]) => `(tactic| simp only [startD, List.map_cons, List.map_nil, List.length_cons, List.length_nil, Nat.reduceAdd, Nat.reduceSub, List.replicate, List.cons_append, List.nil_append, dSeq, dSet, dIfS, dT, dOp, dCB, dCons, dNil, dV, dM, dC, dp, dNext, dRet, dRetN, dLst, dTup, dDrop, dNot, dAnd, dOr, dAndV, dOrV, dNotV, intG, intG0, lenG, lenD, ixG, itemD, intCG, intOf, maxG, List.getElem?_cons_zero, List.getElem?_cons_succ, List.set_cons_zero, List.set_cons_succ, Option.some.injEq, B.isU, B.d, B.rd, exists_eq_left', exists_eq_left, exists_and_left, true_and, and_true, B.p.injEq, DD.D.bl.injEq, DD.D.int.injEq, List.cons.injEq, DD.PC, decide_eq_true_eq, and_assoc, Option.map_some, dLc, iAny, walked, wipeE, gN, dCall, dCallP, dCallF, eqG, neG, Bool.not_true, Bool.not_false, if_true, if_false, Bool.false_eq_true, reduceIte, List.append_nil, dCBK, addG, dM1, gT, gsCons, gsNil, iEnumD, dAsP, iR1, dPart, dNo, dSl, freB, lstD, List.all_cons, List.all_nil, litD, Bool.and_self, dReprPair, dDctN, itemD2, ixG2, keyD, lookD, strG2, dPar, bCons, bNil, dFor, List.zip_cons_cons, List.zip_nil_right, List.foldl_cons, List.foldl_nil, dApp, B.o.injEq, DD.D.lst.injEq, DD.D.tup.injEq, exists_eq', dDct0, B.u.injEq, sizeLine_eq, Nat.reduceLeDiff, Nat.reduceLT, Nat.zero_le, true_implies, slG, List.length_map, tupleG, seqD, listG, iR2, List.length_take, List.length_drop, List.length_append, DD.D.str.injEq, mulG, dAsg, dFld, lookF, dSetF, setF, dProp, dMeth, dMake, dMakeK, cxOf_K, dChain, notNG, isNG, isNon_non, isNon_bl, isNon_int, isNon_str, isNon_lst, isNon_tup, isNon_dct, isNon_ins, isNon_exc, dXv, reprG, DD.D.ins.injEq, DD.D.exc.injEq, cmpIG, neIG, clsD, Option.bind_some, B.s.injEq, if_true, if_false, dNeg, dLenSet, dIndex, dClrE, dAppE, dCallK, eqKG, sortedSG])
local macro_rules | `(tactic| simp only [zP, $xs,*]) => `(tactic| simp only [startD, List.map_cons, List.map_nil, List.length_cons, List.length_nil, Nat.reduceAdd, Nat.reduceSub, List.replicate, List.cons_append, List.nil_append, dSeq, dSet, dIfS, dT, dOp, dCB, dCons, dNil, dV, dM, dC, dp, dNext, dRet, dRetN, dLst, dTup, dDrop, dNot, dAnd, dOr, dAndV, dOrV, dNotV, intG, intG0, lenG, lenD, ixG, itemD, intCG, intOf, maxG, List.getElem?_cons_zero, List.getElem?_cons_succ, List.set_cons_zero, List.set_cons_succ, Option.some.injEq, B.isU, B.d, B.rd, exists_eq_left', exists_eq_left, exists_and_left, true_and, and_true, B.p.injEq, DD.D.bl.injEq, DD.D.int.injEq, List.cons.injEq, DD.PC, decide_eq_true_eq, and_assoc, Option.map_some, dLc, iAny, walked, wipeE, gN, dCall, dCallP, dCallF, eqG, neG, Bool.not_true, Bool.not_false, if_true, if_false, Bool.false_eq_true, reduceIte, List.append_nil, dCBK, addG, dM1, gT, gsCons, gsNil, iEnumD, dAsP, iR1, dPart, dNo, dSl, freB, lstD, List.all_cons, List.all_nil, litD, Bool.and_self, dReprPair, dDctN, itemD2, ixG2, keyD, lookD, strG2, dPar, bCons, bNil, dFor, List.zip_cons_cons, List.zip_nil_right, List.foldl_cons, List.foldl_nil, dApp, B.o.injEq, DD.D.lst.injEq, DD.D.tup.injEq, exists_eq', dDct0, B.u.injEq, sizeLine_eq, Nat.reduceLeDiff, Nat.reduceLT, Nat.zero_le, true_implies, slG, List.length_map, tupleG, seqD, listG, iR2, List.length_take, List.length_drop, List.length_append, DD.D.str.injEq, mulG, dAsg, dFld, lookF, dSetF, setF, dProp, dMeth, dMake, dMakeK, cxOf_K, dChain, notNG, isNG, isNon_non, isNon_bl, isNon_int, isNon_str, isNon_lst, isNon_tup, isNon_dct, isNon_ins, isNon_exc, dXv, reprG, DD.D.ins.injEq, DD.D.exc.injEq, cmpIG, neIG, clsD, Option.bind_some, B.s.injEq, if_true, if_false, dNeg, dLenSet, dIndex, dClrE, dAppE, dCallK, eqKG, sortedSG, $xs,*])
local macro_rules | `(tactic| simp only [zQ]) => `(tactic| simp only [startD, List.map_cons, List.map_nil, List.length_cons, List.length_nil, Nat.reduceAdd, Nat.reduceSub, List.replicate, List.cons_append, List.nil_append, dSet, dIfS, dT, dOp, dCB, dCons, dNil, dV, dM, dC, dp, dNext, dRet, dRetN, dLst, dTup, dDrop, dNot, dAnd, dOr, dAndV, dOrV, dNotV, intG, intG0, lenG, lenD, ixG, itemD, intCG, intOf, maxG, List.getElem?_cons_zero, List.getElem?_cons_succ, List.set_cons_zero, List.set_cons_succ, Option.some.injEq, B.isU, B.d, B.rd, exists_eq_left', exists_eq_left, exists_and_left, true_and, and_true, B.p.injEq, DD.D.bl.injEq, DD.D.int.injEq, List.cons.injEq, DD.PC, decide_eq_true_eq, and_assoc, Option.map_some, dLc, iAny, walked, wipeE, gN, dCall, dCallP, dCallF, eqG, neG, Bool.not_true, Bool.not_false, if_true, if_false, Bool.false_eq_true, reduceIte, List.append_nil, dCBK, addG, dM1, gT, gsCons, gsNil, iEnumD, dAsP, iR1, dPart, dNo, dSl, freB, lstD, List.all_cons, List.all_nil, litD, Bool.and_self, dReprPair, dDctN, itemD2, ixG2, keyD, lookD, strG2, dPar, bCons, bNil, dFor, List.zip_cons_cons, List.zip_nil_right, List.foldl_cons, List.foldl_nil, dApp, B.o.injEq, DD.D.lst.injEq, DD.D.tup.injEq, exists_eq', dDct0, B.u.injEq, sizeLine_eq, Nat.reduceLeDiff, Nat.reduceLT, Nat.zero_le, true_implies, slG, List.length_map, tupleG, seqD, listG, iR2, List.length_take, List.length_drop, List.length_append, DD.D.str.injEq, mulG, dAsg, dFld, lookF, dSetF, setF, dProp, dMeth, dMake, dMakeK, cxOf_K, dChain, notNG, isNG, isNon_non, isNon_bl, isNon_int, isNon_str, isNon_lst, isNon_tup, isNon_dct, isNon_ins, isNon_exc, dXv, reprG, DD.D.ins.injEq, DD.D.exc.injEq, cmpIG, neIG, clsD, Option.bind_some, B.s.injEq, if_true, if_false, dNeg, dLenSet, dIndex, dClrE, dAppE, dCallK, eqKG, sortedSG])
local macro_rules | `(tactic| simp only [zQ, $xs,*]) => `(tactic| simp only [startD, List.map_cons, List.map_nil, List.length_cons, List.length_nil, Nat.reduceAdd, Nat.reduceSub, List.replicate, List.cons_append, List.nil_append, dSet, dIfS, dT, dOp, dCB, dCons, dNil, dV, dM, dC, dp, dNext, dRet, dRetN, dLst, dTup, dDrop, dNot, dAnd, dOr, dAndV, dOrV, dNotV, intG, intG0, lenG, lenD, ixG, itemD, intCG, intOf, maxG, List.getElem?_cons_zero, List.getElem?_cons_succ, List.set_cons_zero, List.set_cons_succ, Option.some.injEq, B.isU, B.d, B.rd, exists_eq_left', exists_eq_left, exists_and_left, true_and, and_true, B.p.injEq, DD.D.bl.injEq, DD.D.int.injEq, List.cons.injEq, DD.PC, decide_eq_true_eq, and_assoc, Option.map_some, dLc, iAny, walked, wipeE, gN, dCall, dCallP, dCallF, eqG, neG, Bool.not_true, Bool.not_false, if_true, if_false, Bool.false_eq_true, reduceIte, List.append_nil, dCBK, addG, dM1, gT, gsCons, gsNil, iEnumD, dAsP, iR1, dPart, dNo, dSl, freB, lstD, List.all_cons, List.all_nil, litD, Bool.and_self, dReprPair, dDctN, itemD2, ixG2, keyD, lookD, strG2, dPar, bCons, bNil, dFor, List.zip_cons_cons, List.zip_nil_right, List.foldl_cons, List.foldl_nil, dApp, B.o.injEq, DD.D.lst.injEq, DD.D.tup.injEq, exists_eq', dDct0, B.u.injEq, sizeLine_eq, Nat.reduceLeDiff, Nat.reduceLT, Nat.zero_le, true_implies, slG, List.length_map, tupleG, seqD, listG, iR2, List.length_take, List.length_drop, List.length_append, DD.D.str.injEq, mulG, dAsg, dFld, lookF, dSetF, setF, dProp, dMeth, dMake, dMakeK, cxOf_K, dChain, notNG, isNG, isNon_non, isNon_bl, isNon_int, isNon_str, isNon_lst, isNon_tup, isNon_dct, isNon_ins, isNon_exc, dXv, reprG, DD.D.ins.injEq, DD.D.exc.injEq, cmpIG, neIG, clsD, Option.bind_some, B.s.injEq, if_true, if_false, dNeg, dLenSet, dIndex, dClrE, dAppE, dCallK, eqKG, sortedSG, $xs,*])
local macro_rules | `(tactic| simp only [zM]) => `(tactic| simp only [startD, List.map_cons, List.map_nil, List.length_cons, List.length_nil, Nat.reduceAdd, Nat.reduceSub, List.replicate, List.cons_append, List.nil_append, dSet, dIfS, dT, dOp, dCB, dCons, dNil, dV, dM, dC, dp, dNext, dRet, dRetN, dLst, dTup, dDrop, dNot, dAnd, dOr, dAndV, dOrV, dNotV, intG, intG0, lenG, lenD, ixG, itemD, intCG, intOf, maxG, List.getElem?_cons_zero, List.getElem?_cons_succ, List.set_cons_zero, List.set_cons_succ, Option.some.injEq, B.isU, B.d, B.rd, exists_eq_left', exists_eq_left, exists_and_left, true_and, and_true, B.p.injEq, DD.D.bl.injEq, DD.D.int.injEq, List.cons.injEq, DD.PC, decide_eq_true_eq, and_assoc, Option.map_some, dLc, iAny, walked, wipeE, gN, dCall, dCallP, dCallF, eqG, neG, Bool.not_true, Bool.not_false, if_true, if_false, Bool.false_eq_true, reduceIte, List.append_nil, dCBK, addG, dM1, gT, gsCons, gsNil, iEnumD, dAsP, iR1, dPart, dNo, dSl, freB, lstD, List.all_cons, List.all_nil, litD, Bool.and_self, dReprPair, dDctN, itemD2, ixG2, keyD, lookD, strG2, dPar, bCons, bNil, dFor, List.zip_cons_cons, List.zip_nil_right, List.foldl_cons, List.foldl_nil, dApp, B.o.injEq, DD.D.lst.injEq, DD.D.tup.injEq, exists_eq', dDct0, B.u.injEq, sizeLine_eq, Nat.reduceLeDiff, Nat.reduceLT, Nat.zero_le, true_implies, slG, List.length_map, tupleG, seqD, listG, iR2, List.length_take, List.length_drop, List.length_append, DD.D.str.injEq, mulG, dAsg, dFld, lookF, dSetF, setF, dProp, dMeth, dMake, dMakeK, cxOf_K, dChain, notNG, isNG, isNon_non, isNon_bl, isNon_int, isNon_str, isNon_lst, isNon_tup, isNon_dct, isNon_ins, isNon_exc, dXv, reprG, DD.D.ins.injEq, DD.D.exc.injEq, cmpIG, neIG, clsD, Option.bind_some, B.s.injEq, if_true, if_false, dNeg, dLenSet, dIndex, dClrE, dAppE, dCallK, eqKG, sortedSG, dNL, dNR, slotD, eqL, neL, inL, isInX, ixL, itemX, getD', lenX, dLenN, dGet2, dPutN, ownS, setX, dRev, dClr, dPop, dPopAt, dExt, dAug, dDc, dLend, lendE, lend1, lentB, isLD, dDctT, dLenSetA, keyT, keyL, List.mem_cons, List.not_mem_nil, or_false, false_or, or_true, true_or, Nat.reduceEqDiff, decide_true, decide_false, Bool.or_true, Bool.true_or, Bool.false_or, Bool.or_false, Bool.and_true, Bool.true_and, reduceCtorEq, DD.D.dct.injEq, DD.D.dcT.injEq, dDctT0, nilG, nilL, List.isEmpty_nil, List.isEmpty_cons])
local macro_rules | `(tactic| simp only [zM, $xs,*]) => `(tactic| simp only [startD, List.map_cons, List.map_nil, List.length_cons, List.length_nil, Nat.reduceAdd, Nat.reduceSub, List.replicate, List.cons_append, List.nil_append, dSet, dIfS, dT, dOp, dCB, dCons, dNil, dV, dM, dC, dp, dNext, dRet, dRetN, dLst, dTup, dDrop, dNot, dAnd, dOr, dAndV, dOrV, dNotV, intG, intG0, lenG, lenD, ixG, itemD, intCG, intOf, maxG, List.getElem?_cons_zero, List.getElem?_cons_succ, List.set_cons_zero, List.set_cons_succ, Option.some.injEq, B.isU, B.d, B.rd, exists_eq_left', exists_eq_left, exists_and_left, true_and, and_true, B.p.injEq, DD.D.bl.injEq, DD.D.int.injEq, List.cons.injEq, DD.PC, decide_eq_true_eq, and_assoc, Option.map_some, dLc, iAny, walked, wipeE, gN, dCall, dCallP, dCallF, eqG, neG, Bool.not_true, Bool.not_false, if_true, if_false, Bool.false_eq_true, reduceIte, List.append_nil, dCBK, addG, dM1, gT, gsCons, gsNil, iEnumD, dAsP, iR1, dPart, dNo, dSl, freB, lstD, List.all_cons, List.all_nil, litD, Bool.and_self, dReprPair, dDctN, itemD2, ixG2, keyD, lookD, strG2, dPar, bCons, bNil, dFor, List.zip_cons_cons, List.zip_nil_right, List.foldl_cons, List.foldl_nil, dApp, B.o.injEq, DD.D.lst.injEq, DD.D.tup.injEq, exists_eq', dDct0, B.u.injEq, sizeLine_eq, Nat.reduceLeDiff, Nat.reduceLT, Nat.zero_le, true_implies, slG, List.length_map, tupleG, seqD, listG, iR2, List.length_take, List.length_drop, List.length_append, DD.D.str.injEq, mulG, dAsg, dFld, lookF, dSetF, setF, dProp, dMeth, dMake, dMakeK, cxOf_K, dChain, notNG, isNG, isNon_non, isNon_bl, isNon_int, isNon_str, isNon_lst, isNon_tup, isNon_dct, isNon_ins, isNon_exc, dXv, reprG, DD.D.ins.injEq, DD.D.exc.injEq, cmpIG, neIG, clsD, Option.bind_some, B.s.injEq, if_true, if_false, dNeg, dLenSet, dIndex, dClrE, dAppE, dCallK, eqKG, sortedSG, dNL, dNR, slotD, eqL, neL, inL, isInX, ixL, itemX, getD', lenX, dLenN, dGet2, dPutN, ownS, setX, dRev, dClr, dPop, dPopAt, dExt, dAug, dDc, dLend, lendE, lend1, lentB, isLD, dDctT, dLenSetA, keyT, keyL, List.mem_cons, List.not_mem_nil, or_false, false_or, or_true, true_or, Nat.reduceEqDiff, decide_true, decide_false, Bool.or_true, Bool.true_or, Bool.false_or, Bool.or_false, Bool.and_true, Bool.true_and, reduceCtorEq, DD.D.dct.injEq, DD.D.dcT.injEq, dDctT0, nilG, nilL, List.isEmpty_nil, List.isEmpty_cons, $xs,*])
section
variable {P : Program} {w : World} {K : PySem.W.Frag} {mg : Str → Option Value} {base : Heap}

/-- the first states of classes -/
theorem heads_get {o c : List Nat} {x : Nat} (h : x ∈ o) : lookG (o.map ky) (o.map fun x => iD (headN c x)) (.inl (x : Int)) = some (iD (headN c x)) := lookG_map (f := ky) (g := fun x => iD (headN c x)) (fun a b => ky_inj) h
theorem heads_has {o c : List Nat} {x : Nat} : (lookG (o.map ky) (o.map fun x => iD (headN c x)) (.inl (x : Int))).isSome = decide (x ∈ o) := by
  by_cases h : x ∈ o
  · rw [heads_get h, decide_eq_true h]
    rfl
  · rw [decide_eq_false h, show (Sum.inl (x : Int) : Key) = ky x from rfl, lookG_not (fun z => h (ky_mem.mp z))]
    rfl
theorem heads_put {o c : List Nat} {x : Nat} (h : x ∉ o) : putG (o.map ky) (o.map fun x => iD (headN c x)) (.inl (x : Int)) (iD (headN c x)) = ((o ++ [x]).map ky, (o ++ [x]).map fun x => iD (headN c x)) := by
  rw [show (Sum.inl (x : Int) : Key) = ky x from rfl, putG_new (fun z => h (ky_mem.mp z)), List.map_append, List.map_append]
  rfl
theorem head_new {p r : List Nat} {a : Nat} (h : a ∉ p) : headN (p ++ a :: r) a = p.length := by
  unfold headN
  induction p with
  | nil => simp
  | cons b p ih =>
    rw [List.mem_cons, not_or] at h
    rw [List.cons_append, List.idxOf_cons, ih h.2]
    have : (b == a) = false := beq_eq_false_iff_ne.mpr fun z => h.1 z.symm
    rw [this]
    rfl

abbrev s_least_machine : Stmt := topS 25
theorem sc_least_machine : FnScope ["rows", "accepting", "steps", "flags", "numbers", "heads", "state", "number", "joined", "row"] ["rows", "accepting"] (defScope s_least_machine) := ⟨rfl, rfl, rfl, by decide +kernel, rfl, by decide +kernel, by decide +kernel⟩
def spd_least_machine  : Spd := fun bs R _ => ∃ rs d fl df, bs = [.p d, .p df] ∧ (d = .lst (rs.map rowD) ∨ d = .tup (rs.map rowD)) ∧ (df = .lst (fl.map bD) ∨ df = .tup (fl.map bD)) ∧ RowsOk rs ∧ fl.length = rs.length ∧ R (.p (.tup [.lst ((lstR rs fl).map rowD), .lst ((lstF rs fl).map bD)])) 0
theorem cal_least_machine (Da : DefAt K mg "least_machine" s_least_machine) (c_renumbered : Cal P w K mg base "renumbered" 2 ["rows", "accepting"] spd_renumbered) (c_grouped : Cal P w K mg base "grouped" 1 ["rows", "accepting"] spd_grouped) (m_enumerate : mg "enumerate" = none) : Cal P w K mg base "least_machine" 3 ["rows", "accepting"] spd_least_machine := by
  refine cal_mk none Da sc_least_machine (fun _ _ _ _ _ _ us hl => match us, hl with | [_, _], _ => rfl) (fun bs R E h => ?_) (fun bs R E h => ?_) fun f cdv A outer s H E W bs R ED gu hr te h fh => ?_
  · obtain ⟨rs, d, fl, df, rfl, hd, hdf, ok, hl, q⟩ := h
    rfl
  · obtain ⟨rs, d, fl, df, rfl, hd, hdf, ok, hl, q⟩ := h
    exact pur_none (by simp [B.own])
  · obtain ⟨rs, d, fl, df, rfl, hd, hdf, ok, hl, q⟩ := h
    have nd := sc_least_machine.nd
    have hu := hr.units
    have ps := passes_of (X := cxOf (L2.CX P w) P w K mg base ["rows", "accepting", "steps", "flags", "numbers", "heads", "state", "number", "joined", "row"] "least_machine" (defScope s_least_machine) f cdv A outer s H E) rfl
    refine ⟨_, (dss_cons (ds_asg (de_c c_renumbered gu hr (da_cons (de_v 0) (da_cons (de_v 1) da_nil))) (dg_tup (n := 2) rfl (dgs_cons (dg_name (i := 2) nd rfl (by first | exact Or.inl rfl | exact Or.inr rfl)) (dgs_cons (dg_name (i := 3) nd rfl (by first | exact Or.inl rfl | exact Or.inr rfl)) dgs_nil)))) (dss_cons (ds_set (i := 4) nd rfl (by first | exact Or.inl rfl | exact Or.inr rfl) (de_c c_grouped gu hr (da_cons (de_v 2) (da_cons (de_v 3) da_nil)))) (dss_cons (ds_set (i := 5) nd rfl (by first | exact Or.inl rfl | exact Or.inr rfl) de_dct0) (dss_cons (ds_for te ps rfl (di_enum rfl m_enumerate (da_cons (de_v 4) da_nil)) (fun _ => (dg_tup (n := 2) rfl (dgs_cons (dg_name (i := 6) nd rfl (by first | exact Or.inl rfl | exact Or.inr rfl)) (dgs_cons (dg_name (i := 7) nd rfl (by first | exact Or.inl rfl | exact Or.inr rfl)) dgs_nil)))) (fun _ te => (dss_one (ds_if (dt_cmpR 5 (op_notInX hu) rl_in (de_v 7)) (dss_one (ds_putN 5 hu (de_v 6) (de_v 7))) dss_nil)))) (dss_cons (ds_setLc (i := 8) rfl nd rfl rfl rfl (di_any (de_v 2)) (own := [("row", 9)]) (blkOk_by (by kernel_rfl)) (fun _ _ _ _ _ _ => (dgc_name (i := 9) (by decide) nd rfl (by first | exact Or.inl rfl | exact Or.inr rfl))) (fun _ _ _ _ _ _ => dts_nil) (fun _ _ _ _ _ _ => (de_tup (da_cons (de_ixN 5 hu (de_ixN 4 hu (de_ixN 9 hu de_int (fun _ _ => rfl)) (fun _ _ => rfl)) (fun _ _ => rfl)) (da_cons (de_ixN 5 hu (de_ixN 4 hu (de_ixN 9 hu de_int (fun _ _ => rfl)) (fun _ _ => rfl)) (fun _ _ => rfl)) (da_cons (de_ixN 5 hu (de_ixN 4 hu (de_ixN 9 hu de_int (fun _ _ => rfl)) (fun _ _ => rfl)) (fun _ _ => rfl)) da_nil)))))) (dss_one (ds_ret (de_c c_renumbered gu hr (da_cons (de_v 8) (da_cons (de_v 3) da_nil)))))))))), ?_⟩
    refine dseq ?_
    simp only [zM]
    refine ⟨rs, d, fl, df, rfl, hd, hdf, ok, hl, rfl, rfl, _, rfl, rfl, _, _, rfl, _, _, rfl, rfl, dseq ?_⟩
    have ok2 := renR_ok ok
    have st := ren_stab (fl := fl) ok
    have le2 := ok2.le
    simp only [zM]
    refine ⟨renR rs, renF rs fl, rfl, ok2, by rw [renF_len, renR_len], fun c hc => ⟨rfl, dseq ?_⟩⟩
    have hcl := hc.len
    have cmem : ∀ q, q < (renR rs).length → cAt c q ∈ nubs c := fun q hq => mem_nubs.mpr (cAt_mem (by omega))
    simp only [zM]
    refine dseq ?_
    simp only [zM]
    refine .inr ?_
    rw [enumD_map]
    refine forL_run (fun p : Nat × Nat => D.tup [.int (p.2 : Nat), iD p.1]) (fun p δ => ∃ x6 x7, δ = [some (.p d), some (.p df), some (.p (.lst ((renR rs).map rowD))), some (.p (.lst ((renF rs fl).map bD))), some (.p (.lst (c.map iD))), some (.o (.dct ((nubs (p.map (·.1))).map ky) ((nubs (p.map (·.1))).map fun x => iD (headN c x)))), x6, x7, none, none]) (l := c.zipIdx 0) (pre := []) (fun p a r δ e hI M hM => ?_) (fun δ hI => ?_) ⟨none, none, rfl⟩
    · obtain ⟨x6, x7, rfl⟩ := hI
      have ec : c = p.map (·.1) ++ a.1 :: r.map (·.1) := by
        have z := congrArg (List.map (·.1)) e
        rw [List.nil_append, zipIdx_fst (fun x => x), List.map_id'] at z
        rw [z, List.map_append, List.map_cons]
      have ea : a.2 = p.length := by
        have z := congrArg (fun l => l[p.length]?) e
        simp only [List.nil_append] at z
        rw [List.getElem?_append_right (Nat.le_refl _), Nat.sub_self, List.getElem?_cons_zero, List.getElem?_zipIdx] at z
        cases q : c[p.length]? with
        | none =>
          rw [q] at z
          cases z
        | some y =>
          rw [q] at z
          have z := Option.some.inj z
          rw [← z]
          simp
      have nle := nubs_le (l := p.map (·.1))
      rw [List.length_map] at nle
      have ple : p.length ≤ 3000 := by
        have z := congrArg List.length ec
        rw [List.length_append, List.length_map] at z
        omega
      have hM2 : ∀ x6 x7, M [some (.p d), some (.p df), some (.p (.lst ((renR rs).map rowD))), some (.p (.lst ((renF rs fl).map bD))), some (.p (.lst (c.map iD))), some (.o (.dct ((addK (nubs (p.map (·.1))) a.1).map ky) ((addK (nubs (p.map (·.1))) a.1).map fun x => iD (headN c x)))), x6, x7, none, none] := fun x6 x7 => hM _ ⟨x6, x7, by rw [List.map_append, List.map_cons, List.map_nil, nubs_snoc]⟩
      simp only [zM, iD]
      have hh := heads_has (o := nubs (p.map (·.1))) (c := c) (x := a.1)
      have hp := heads_put (o := nubs (p.map (·.1))) (c := c) (x := a.1)
      unfold iD at hh hp
      rw [hh]
      by_cases hm : a.1 ∈ nubs (p.map (·.1))
      · rw [decide_eq_true hm]
        have z := hM2 (some (.p (.int (a.2 : Nat)))) (some (.p (.int (a.1 : Nat))))
        rw [addK_in hm] at z
        exact iteF z
      · rw [decide_eq_false hm]
        refine iteT ⟨_, if_pos (by omega), ?_⟩
        have hd2 : a.2 = headN c a.1 := by
          have z := head_new (p := p.map (·.1)) (r := r.map (·.1)) (a := a.1) (fun z => hm (mem_nubs.mpr z))
          rw [← ec, List.length_map] at z
          rw [z, ea]
        rw [hd2, hp hm]
        have z := hM2 (some (.p (.int (headN c a.1 : Nat)))) (some (.p (.int (a.1 : Nat))))
        rw [addK_out hm] at z
        exact z
    · obtain ⟨x6, x7, rfl⟩ := hI
      rw [List.nil_append, zipIdx_fst (fun x => x), List.map_id']
      simp only [zM]
      refine dseq ?_
      simp only [zM]
      have cget : ∀ q, q < (renR rs).length → atI (c.map iD) (q : Int) = some (iD (cAt c q)) := fun q hq => by
        refine atI_map ?_
        unfold cAt
        rw [List.getD_eq_getElem?_getD, List.getElem?_eq_getElem (by omega)]
        rfl
      refine lcL_allA rowD (fun r => rowD (joinRow c r)) (fun r => [some (.p d), some (.p df), some (.p (.lst ((renR rs).map rowD))), some (.p (.lst ((renF rs fl).map bD))), some (.p (.lst (c.map iD))), some (.o (.dct ((nubs c).map ky) ((nubs c).map fun x => iD (headN c x)))), x6, x7, none, some (.p (rowD r))]) (fun r hr Y N y => ?_) (fun r hr => rfl) (by rw [List.length_nil, sizeLine_eq]; omega) ?_
      · obtain ⟨r1, r2, r3⟩ := ok2.lt r hr
        simp only [zM, dYes]
        refine ⟨_, rfl, _, cget _ r1, _, heads_get (cmem _ r1), _, rfl, _, cget _ r2, _, heads_get (cmem _ r2), _, rfl, _, cget _ r3, _, heads_get (cmem _ r3), ?_⟩
        exact y
      · have ej : ([] : List D) ++ (renR rs).map (fun r => rowD (joinRow c r)) = (jnR rs fl).map rowD := by
          unfold jnR
          rw [← joinR_eq ok2 hc st]
          unfold joinR
          rw [List.map_map]
          rfl
        rw [ej]
        simp only [zM]
        exact ⟨jnR rs fl, _, renF rs fl, _, rfl, .inl rfl, .inl rfl, jnR_ok ok, by rw [jnR_len, renF_len, renR_len], rfl, rfl, 0, q⟩
end
end K

set_option Elab.async false
set_option linter.all false
set_option maxRecDepth 100000
set_option maxHeartbeats 8000000
namespace K
open PySem PySem.Spec PyProof.Rows L2 DD
local macro_rules | `(tactic| simp only [zP]) => `(tactic| simp only [startD, List.map_cons, List.map_nil, List.length_cons, List.length_nil, Nat.reduceAdd, Nat.reduceSub, List.replicate, List.cons_append, List.nil_append, dSeq, dSet, dIfS, dT, dOp, dCB, dCons, dNil, dV, dM, dC, dp, dNext, dRet, dRetN, dLst, dTup, dDrop, dNot, dAnd, dOr, dAndV, dOrV, dNotV, intG, intG0, lenG, lenD, ixG, itemD, intCG, intOf, maxG, List.getElem?_cons_zero, List.getElem?_cons_succ, List.set_cons_zero, List.set_cons_succ, Option.some.injEq, B.isU, B.d, B.rd, exists_eq_left', exists_eq_left, exists_and_left, true_and, and_true, B.p.injEq, DD.D.bl.injEq, DD.D.int.injEq, List.cons.injEq, DD.PC, decide_eq_true_eq, and_assoc, Option.map_some, dLc, iAny, walked, wipeE, gN, dCall, dCallP, dCallF, eqG, neG, Bool.not_true, Bool.not_false, if_true, if_false, Bool.false_eq_true, reduceIte, List.append_nil, dCBK, addG, dM1, gT, gsCons, gsNil, iEnumD, dAsP, iR1, dPart, dNo, dSl, freB, lstD, List.all_cons, List.all_nil, litD, Bool.and_self, dReprPair, dDctN, itemD2, ixG2, keyD, lookD, strG2, dPar, bCons, bNil, dFor, List.zip_cons_cons, List.zip_nil_right, List.foldl_cons, List.foldl_nil, dApp, B.o.injEq, DD.D.lst.injEq, DD.D.tup.injEq, exists_eq', dDct0, B.u.injEq, sizeLine_eq, Nat.reduceLeDiff, Nat.reduceLT, Nat.zero_le, true_implies, slG, List.length_map, tupleG, seqD, listG, iR2, List.length_take, List.length_drop, List.length_append, DD.D.str.injEq, mulG, dAsg, dFld, lookF, dSetF, setF, dProp, dMeth, dMake, dMakeK, cxOf_K, dChain, notNG, isNG, isNon_non, isNon_bl, isNon_int, isNon_str, isNon_lst, isNon_tup, isNon_dct, isNon_ins, isNon_exc, dXv, reprG, DD.D.ins.injEq, DD.D.exc.injEq, cmpIG, neIG, clsD, Option.bind_some, B.s.injEq, if_true, if_false, dNeg, dLenSet, dIndex, dClrE, dAppE, dCallK, eqKG, sortedSG])
local macro_rules | `(tactic| simp only [zP, $xs,*]) => `(tactic| simp only [startD, List.map_cons, List.map_nil, List.length_cons, List.length_nil, Nat.reduceAdd, Nat.reduceSub, List.replicate, List.cons_append, List.nil_append, dSeq, dSet, dIfS, dT, dOp, dCB, dCons, dNil, dV, dM, dC, dp, dNext, dRet, dRetN, dLst, dTup, dDrop, dNot, dAnd, dOr, dAndV, dOrV, dNotV, intG, intG0, lenG, lenD, ixG, itemD, intCG, intOf, maxG, List.getElem?_cons_zero, List.getElem?_cons_succ, List.set_cons_zero, List.set_cons_succ, Option.some.injEq, B.isU, B.d, B.rd, exists_eq_left', exists_eq_left, exists_and_left, true_and, and_true, B.p.injEq, DD.D.bl.injEq, DD.D.int.injEq, List.cons.injEq, DD.PC, decide_eq_true_eq, and_assoc, Option.map_some, dLc, iAny, walked, wipeE, gN, dCall, dCallP, dCallF, eqG, neG, Bool.not_true, Bool.not_false, if_true, if_false, Bool.false_eq_true, reduceIte, List.append_nil, dCBK, addG, dM1, gT, gsCons, gsNil, iEnumD, dAsP, iR1, dPart, dNo, dSl, freB, lstD, List.all_cons, List.all_nil, litD, Bool.and_self, dReprPair, dDctN, itemD2, ixG2, keyD, lookD, strG2, dPar, bCons, bNil, dFor, List.zip_cons_cons, List.zip_nil_right, List.foldl_cons, List.foldl_nil, dApp, B.o.injEq, DD.D.lst.injEq, DD.D.tup.injEq, exists_eq', dDct0, B.u.injEq, sizeLine_eq, Nat.reduceLeDiff, Nat.reduceLT, Nat.zero_le, true_implies, slG, List.length_map, tupleG, seqD, listG, iR2, List.length_take, List.length_drop, List.length_append, DD.D.str.injEq, mulG, dAsg, dFld, lookF, dSetF, setF, dProp, dMeth, dMake, dMakeK, cxOf_K, dChain, notNG, isNG, isNon_non, isNon_bl, isNon_int, isNon_str, isNon_lst, isNon_tup, isNon_dct, isNon_ins, isNon_exc, dXv, reprG, DD.D.ins.injEq, DD.D.exc.injEq, cmpIG, neIG, clsD, Option.bind_some, B.s.injEq, if_true, if_false, dNeg, dLenSet, dIndex, dClrE, dAppE, dCallK, eqKG, sortedSG, $xs,*])
local macro_rules | `(tactic| simp only [zQ]) => `(tactic| simp only [startD, List.map_cons, List.map_nil, List.length_cons, List.length_nil, Nat.reduceAdd, Nat.reduceSub, List.replicate, List.cons_append, List.nil_append, dSet, dIfS, dT, dOp, dCB, dCons, dNil, dV, dM, dC, dp, dNext, dRet, dRetN, dLst, dTup, dDrop, dNot, dAnd, dOr, dAndV, dOrV, dNotV, intG, intG0, lenG, lenD, ixG, itemD, intCG, intOf, maxG, List.getElem?_cons_zero, List.getElem?_cons_succ, List.set_cons_zero, List.set_cons_succ, Option.some.injEq, B.isU, B.d, B.rd, exists_eq_left', exists_eq_left, exists_and_left, true_and, and_true, B.p.injEq, DD.D.bl.injEq, DD.D.int.injEq, List.cons.injEq, DD.PC, decide_eq_true_eq, and_assoc, Option.map_some, dLc, iAny, walked, wipeE, gN, dCall, dCallP, dCallF, eqG, neG, Bool.not_true, Bool.not_false, if_true, if_false, Bool.false_eq_true, reduceIte, List.append_nil, dCBK, addG, dM1, gT, gsCons, gsNil, iEnumD, dAsP, iR1, dPart, dNo, dSl, freB, lstD, List.all_cons, List.all_nil, litD, Bool.and_self, dReprPair, dDctN, itemD2, ixG2, keyD, lookD, strG2, dPar, bCons, bNil, dFor, List.zip_cons_cons, List.zip_nil_right, List.foldl_cons, List.foldl_nil, dApp, B.o.injEq, DD.D.lst.injEq, DD.D.tup.injEq, exists_eq', dDct0, B.u.injEq, sizeLine_eq, Nat.reduceLeDiff, Nat.reduceLT, Nat.zero_le, true_implies, slG, List.length_map, tupleG, seqD, listG, iR2, List.length_take, List.length_drop, List.length_append, DD.D.str.injEq, mulG, dAsg, dFld, lookF, dSetF, setF, dProp, dMeth, dMake, dMakeK, cxOf_K, dChain, notNG, isNG, isNon_non, isNon_bl, isNon_int, isNon_str, isNon_lst, isNon_tup, isNon_dct, isNon_ins, isNon_exc, dXv, reprG, DD.D.ins.injEq, DD.D.exc.injEq, cmpIG, neIG, clsD, Option.bind_some, B.s.injEq, if_true, if_false, dNeg, dLenSet, dIndex, dClrE, dAppE, dCallK, eqKG, sortedSG])
local macro_rules | `(tactic| simp only [zQ, $xs,*]) => `(tactic| simp only [startD, List.map_cons, List.map_nil, List.length_cons, List.length_nil, Nat.reduceAdd, Nat.reduceSub, List.replicate, List.cons_append, List.nil_append, dSet, dIfS, dT, dOp, dCB, dCons, dNil, dV, dM, dC, dp, dNext, dRet, dRetN, dLst, dTup, dDrop, dNot, dAnd, dOr, dAndV, dOrV, dNotV, intG, intG0, lenG, lenD, ixG, itemD, intCG, intOf, maxG, List.getElem?_cons_zero, List.getElem?_cons_succ, List.set_cons_zero, List.set_cons_succ, Option.some.injEq, B.isU, B.d, B.rd, exists_eq_left', exists_eq_left, exists_and_left, true_and, and_true, B.p.injEq, DD.D.bl.injEq, DD.D.int.injEq, List.cons.injEq, DD.PC, decide_eq_true_eq, and_assoc, Option.map_some, dLc, iAny, walked, wipeE, gN, dCall, dCallP, dCallF, eqG, neG, Bool.not_true, Bool.not_false, if_true, if_false, Bool.false_eq_true, reduceIte, List.append_nil, dCBK, addG, dM1, gT, gsCons, gsNil, iEnumD, dAsP, iR1, dPart, dNo, dSl, freB, lstD, List.all_cons, List.all_nil, litD, Bool.and_self, dReprPair, dDctN, itemD2, ixG2, keyD, lookD, strG2, dPar, bCons, bNil, dFor, List.zip_cons_cons, List.zip_nil_right, List.foldl_cons, List.foldl_nil, dApp, B.o.injEq, DD.D.lst.injEq, DD.D.tup.injEq, exists_eq', dDct0, B.u.injEq, sizeLine_eq, Nat.reduceLeDiff, Nat.reduceLT, Nat.zero_le, true_implies, slG, List.length_map, tupleG, seqD, listG, iR2, List.length_take, List.length_drop, List.length_append, DD.D.str.injEq, mulG, dAsg, dFld, lookF, dSetF, setF, dProp, dMeth, dMake, dMakeK, cxOf_K, dChain, notNG, isNG, isNon_non, isNon_bl, isNon_int, isNon_str, isNon_lst, isNon_tup, isNon_dct, isNon_ins, isNon_exc, dXv, reprG, DD.D.ins.injEq, DD.D.exc.injEq, cmpIG, neIG, clsD, Option.bind_some, B.s.injEq, if_true, if_false, dNeg, dLenSet, dIndex, dClrE, dAppE, dCallK, eqKG, sortedSG, $xs,*])
local macro_rules | `(tactic| simp only [zM]) => `(tactic| simp only [startD, List.map_cons, List.map_nil, List.length_cons, List.length_nil, Nat.reduceAdd, Nat.reduceSub, List.replicate, List.cons_append, List.nil_append, dSet, dIfS, dT, dOp, dCB, dCons, dNil, dV, dM, dC, dp, dNext, dRet, dRetN, dLst, dTup, dDrop, dNot, dAnd, dOr, dAndV, dOrV, dNotV, intG, intG0, lenG, lenD, ixG, itemD, intCG, intOf, maxG, List.getElem?_cons_zero, List.getElem?_cons_succ, List.set_cons_zero, List.set_cons_succ, Option.some.injEq, B.isU, B.d, B.rd, exists_eq_left', exists_eq_left, exists_and_left, true_and, and_true, B.p.injEq, DD.D.bl.injEq, DD.D.int.injEq, List.cons.injEq, DD.PC, decide_eq_true_eq, and_assoc, Option.map_some, dLc, iAny, walked, wipeE, gN, dCall, dCallP, dCallF, eqG, neG, Bool.not_true, Bool.not_false, if_true, if_false, Bool.false_eq_true, reduceIte, List.append_nil, dCBK, addG, dM1, gT, gsCons, gsNil, iEnumD, dAsP, iR1, dPart, dNo, dSl, freB, lstD, List.all_cons, List.all_nil, litD, Bool.and_self, dReprPair, dDctN, itemD2, ixG2, keyD, lookD, strG2, dPar, bCons, bNil, dFor, List.zip_cons_cons, List.zip_nil_right, List.foldl_cons, List.foldl_nil, dApp, B.o.injEq, DD.D.lst.injEq, DD.D.tup.injEq, exists_eq', dDct0, B.u.injEq, sizeLine_eq, Nat.reduceLeDiff, Nat.reduceLT, Nat.zero_le, true_implies, slG, List.length_map, tupleG, seqD, listG, iR2, List.length_take, List.length_drop, List.length_append, DD.D.str.injEq, mulG, dAsg, dFld, lookF, dSetF, setF, dProp, dMeth, dMake, dMakeK, cxOf_K, dChain, notNG, isNG, isNon_non, isNon_bl, isNon_int, isNon_str, isNon_lst, isNon_tup, isNon_dct, isNon_ins, isNon_exc, dXv, reprG, DD.D.ins.injEq, DD.D.exc.injEq, cmpIG, neIG, clsD, Option.bind_some, B.s.injEq, if_true, if_false, dNeg, dLenSet, dIndex, dClrE, dAppE, dCallK, eqKG, sortedSG, dNL, dNR, slotD, eqL, neL, inL, isInX, ixL, itemX, getD', lenX, dLenN, dGet2, dPutN, ownS, setX, dRev, dClr, dPop, dPopAt, dExt, dAug, dDc, dLend, lendE, lend1, lentB, isLD, dDctT, dLenSetA, keyT, keyL, List.mem_cons, List.not_mem_nil, or_false, false_or, or_true, true_or, Nat.reduceEqDiff, decide_true, decide_false, Bool.or_true, Bool.true_or, Bool.false_or, Bool.or_false, Bool.and_true, Bool.true_and, reduceCtorEq, DD.D.dct.injEq, DD.D.dcT.injEq, dDctT0, nilG, nilL, List.isEmpty_nil, List.isEmpty_cons])
local macro_rules | `(tactic| simp only [zM, $xs,*]) => `(tactic| simp only [startD, List.map_cons, List.map_nil, List.length_cons, List.length_nil, Nat.reduceAdd, Nat.reduceSub, List.replicate, List.cons_append, List.nil_append, dSet, dIfS, dT, dOp, dCB, dCons, dNil, dV, dM, dC, dp, dNext, dRet, dRetN, dLst, dTup, dDrop, dNot, dAnd, dOr, dAndV, dOrV, dNotV, intG, intG0, lenG, lenD, ixG, itemD, intCG, intOf, maxG, List.getElem?_cons_zero, List.getElem?_cons_succ, List.set_cons_zero, List.set_cons_succ, Option.some.injEq, B.isU, B.d, B.rd, exists_eq_left', exists_eq_left, exists_and_left, true_and, and_true, B.p.injEq, DD.D.bl.injEq, DD.D.int.injEq, List.cons.injEq, DD.PC, decide_eq_true_eq, and_assoc, Option.map_some, dLc, iAny, walked, wipeE, gN, dCall, dCallP, dCallF, eqG, neG, Bool.not_true, Bool.not_false, if_true, if_false, Bool.false_eq_true, reduceIte, List.append_nil, dCBK, addG, dM1, gT, gsCons, gsNil, iEnumD, dAsP, iR1, dPart, dNo, dSl, freB, lstD, List.all_cons, List.all_nil, litD, Bool.and_self, dReprPair, dDctN, itemD2, ixG2, keyD, lookD, strG2, dPar, bCons, bNil, dFor, List.zip_cons_cons, List.zip_nil_right, List.foldl_cons, List.foldl_nil, dApp, B.o.injEq, DD.D.lst.injEq, DD.D.tup.injEq, exists_eq', dDct0, B.u.injEq, sizeLine_eq, Nat.reduceLeDiff, Nat.reduceLT, Nat.zero_le, true_implies, slG, List.length_map, tupleG, seqD, listG, iR2, List.length_take, List.length_drop, List.length_append, DD.D.str.injEq, mulG, dAsg, dFld, lookF, dSetF, setF, dProp, dMeth, dMake, dMakeK, cxOf_K, dChain, notNG, isNG, isNon_non, isNon_bl, isNon_int, isNon_str, isNon_lst, isNon_tup, isNon_dct, isNon_ins, isNon_exc, dXv, reprG, DD.D.ins.injEq, DD.D.exc.injEq, cmpIG, neIG, clsD, Option.bind_some, B.s.injEq, if_true, if_false, dNeg, dLenSet, dIndex, dClrE, dAppE, dCallK, eqKG, sortedSG, dNL, dNR, slotD, eqL, neL, inL, isInX, ixL, itemX, getD', lenX, dLenN, dGet2, dPutN, ownS, setX, dRev, dClr, dPop, dPopAt, dExt, dAug, dDc, dLend, lendE, lend1, lentB, isLD, dDctT, dLenSetA, keyT, keyL, List.mem_cons, List.not_mem_nil, or_false, false_or, or_true, true_or, Nat.reduceEqDiff, decide_true, decide_false, Bool.or_true, Bool.true_or, Bool.false_or, Bool.or_false, Bool.and_true, Bool.true_and, reduceCtorEq, DD.D.dct.injEq, DD.D.dcT.injEq, dDctT0, nilG, nilL, List.isEmpty_nil, List.isEmpty_cons, $xs,*])
section
variable {P : Program} {w : World} {K : PySem.W.Frag} {mg : Str → Option Value} {base : Heap}

def isWh : D → Bool
  | .int _ => true
  | _ => false

abbrev s_is_whole : Stmt := topS 2
theorem sc_is_whole : FnScope ["value"] ["value"] (defScope s_is_whole) := ⟨rfl, rfl, rfl, by decide +kernel, rfl, by decide +kernel, by decide +kernel⟩
def spd_is_whole  : Spd := fun bs R _ => ∃ d, bs = [.p d] ∧ dat d = true ∧ R (.p (.bl (isWh d))) 0
theorem cal_is_whole (Da : DefAt K mg "is_whole" s_is_whole) (m_isinstance : mg "isinstance" = none) (m_int : mg "int" = none) (m_bool : mg "bool" = none) : Cal P w K mg base "is_whole" 1 ["value"] spd_is_whole := by
  refine cal_mk none Da sc_is_whole (fun _ _ _ _ _ _ us hl => match us, hl with | [_], _ => rfl) (fun bs R E h => ?_) (fun bs R E h => ?_) fun f cdv A outer s H E W bs R ED gu hr te h fh => ?_
  · obtain ⟨d, rfl, hd, q⟩ := h
    rfl
  · obtain ⟨d, rfl, hd, q⟩ := h
    exact pur_none (by simp [B.own])
  · obtain ⟨d, rfl, hd, q⟩ := h
    have nd := sc_is_whole.nd
    have hu := hr.units
    refine ⟨_, (dss_one (ds_ret (de_and (de_callB call_isZ (rc_isa (K := K)) rfl m_isinstance bt_isinstance (da_cons (de_v 0) (da_cons (de_ty m_int bt_int) da_nil))) (de_one (de_not (de_callB call_isZ (rc_isa (K := K)) rfl m_isinstance bt_isinstance (da_cons (de_v 0) (da_cons (de_ty m_bool bt_bool) da_nil)))))))), ?_⟩
    simp only [zP, isa_Int hd, isa_Bool hd]
    cases d <;> first | (cases hd; done) | exact ⟨0, q⟩

def isSt (many : Nat) : D → Bool
  | .int i => decide (0 ≤ i) && decide (i < (many : Int))
  | _ => false

abbrev s_is_state : Stmt := topS 33
theorem sc_is_state : FnScope ["value", "many"] ["value", "many"] (defScope s_is_state) := ⟨rfl, rfl, rfl, by decide +kernel, rfl, by decide +kernel, by decide +kernel⟩
def spd_is_state  : Spd := fun bs R _ => ∃ d many, bs = [.p d, .p (.int (many : Nat))] ∧ dat d = true ∧ R (.p (.bl (isSt many d))) 0
theorem cal_is_state (Da : DefAt K mg "is_state" s_is_state) (c_is_whole : Cal P w K mg base "is_whole" 1 ["value"] spd_is_whole) : Cal P w K mg base "is_state" 2 ["value", "many"] spd_is_state := by
  refine cal_mk none Da sc_is_state (fun _ _ _ _ _ _ us hl => match us, hl with | [_, _], _ => rfl) (fun bs R E h => ?_) (fun bs R E h => ?_) fun f cdv A outer s H E W bs R ED gu hr te h fh => ?_
  · obtain ⟨d, many, rfl, hd, q⟩ := h
    rfl
  · obtain ⟨d, many, rfl, hd, q⟩ := h
    exact pur_none (by simp [B.own])
  · obtain ⟨d, many, rfl, hd, q⟩ := h
    have nd := sc_is_state.nd
    have hu := hr.units
    refine ⟨_, (dss_one (ds_ret (de_and (de_c c_is_whole gu hr (da_cons (de_v 0) da_nil)) (de_one (de_chain op_le rd_intB0 op_lt rd_intB0 de_int (de_v 0) (de_v 1)))))), ?_⟩
    simp only [zM]
    refine ⟨d, rfl, hd, rfl, _, rfl, ?_⟩
    cases d with
    | int i =>
      refine iteT ?_
      simp only [zM]
      by_cases h0 : 0 ≤ i
      · rw [if_pos h0]
        have e : isSt many (.int i) = decide (i < (many : Int)) := by
          show (decide (0 ≤ i) && decide (i < (many : Int))) = _
          rw [decide_eq_true h0, Bool.true_and]
        rw [e] at q
        exact ⟨0, q⟩
      · rw [if_neg h0]
        have e : isSt many (.int i) = false := by
          show (decide (0 ≤ i) && decide (i < (many : Int))) = _
          rw [decide_eq_false h0, Bool.false_and]
        rw [e] at q
        exact ⟨0, q⟩
    | _ => exact iteF ⟨0, q⟩

def stOf : D → Option Int
  | .int i => some i
  | _ => none
def isRow (many : Nat) : D → Bool
  | .tup [a, b, c] => isSt many a && isSt many b && isSt many c
  | _ => false
/-- no state twice -/
def accOk (many : Nat) (l : List D) : Bool := l.all (isSt many) && decide (l.filterMap stOf).Nodup
def isMach : D → D → Bool
  | .lst rows, .lst acc => !rows.isEmpty && rows.all (isRow rows.length) && accOk rows.length acc
  | _, _ => false
/-- what may stand where a row is wanted -/
def rowish (x : D) : Prop := dat x = true ∧ (∀ xs, x = .tup xs → ∀ y ∈ xs, dat y = true) ∧ ∀ xs, x = .cst xs → xs.length ≠ 3
structure Mch (d e : D) : Prop where
  hd : dat d = true
  he : dat e = true
  rw : ∀ ds, d = .lst ds → ds.length ≤ 3000 ∧ ∀ x ∈ ds, rowish x
  ac : ∀ ds, e = .lst ds → ds.length ≤ 3001 ∧ ∀ x ∈ ds, dat x = true
theorem tw (i : Int) : stOf (.int i) = some i := rfl
theorem accs_at {l p r : List D} {x : D} {n : Nat} {is : List Int} (e : l = p ++ x :: r) (hp : p = is.map D.int) : accOk n l = true → ∃ i, x = .int i ∧ isSt n x = true ∧ i ∉ is := by
  intro h
  unfold accOk at h
  rw [Bool.and_eq_true, decide_eq_true_eq] at h
  obtain ⟨h1, h2⟩ := h
  have hx := List.all_eq_true.mp h1 x (by rw [e]; simp)
  cases x with
  | int i =>
    refine ⟨i, rfl, hx, fun z => ?_⟩
    rw [e, hp, List.filterMap_append, List.filterMap_cons, tw] at h2
    rw [List.filterMap_map, show (stOf ∘ D.int) = some from rfl, List.filterMap_some] at h2
    exact (List.nodup_append.mp h2).2.2 i z i List.mem_cons_self rfl
  | _ => cases hx
theorem accs_all {l : List D} {n : Nat} {is : List Int} (hp : l = is.map D.int) (hs : ∀ x ∈ l, isSt n x = true) (hn : is.Nodup) : accOk n l = true := by
  unfold accOk
  rw [Bool.and_eq_true, decide_eq_true_eq]
  refine ⟨List.all_eq_true.mpr hs, ?_⟩
  rw [hp, List.filterMap_map, show (stOf ∘ D.int) = some from rfl, List.filterMap_some]
  exact hn

abbrev s_is_machine : Stmt := topS 34
theorem sc_is_machine : FnScope ["rows", "accepting", "row", "state", "known"] ["rows", "accepting"] (defScope s_is_machine) := ⟨rfl, rfl, rfl, by decide +kernel, rfl, by decide +kernel, by decide +kernel⟩
def spd_is_machine  : Spd := fun bs R _ => ∃ d e, bs = [.p d, .p e] ∧ Mch d e ∧ R (.p (.bl (isMach d e))) 0
theorem cal_is_machine (Da : DefAt K mg "is_machine" s_is_machine) (c_is_state : Cal P w K mg base "is_state" 2 ["value", "many"] spd_is_state) (m_isinstance : mg "isinstance" = none) (m_list : mg "list" = none) (m_tuple : mg "tuple" = none) (m_len : mg "len" = none) : Cal P w K mg base "is_machine" 3 ["rows", "accepting"] spd_is_machine := by
  refine cal_mk none Da sc_is_machine (fun _ _ _ _ _ _ us hl => match us, hl with | [_, _], _ => rfl) (fun bs R E h => ?_) (fun bs R E h => ?_) fun f cdv A outer s H E W bs R ED gu hr te h fh => ?_
  · obtain ⟨d, e, rfl, hm, q⟩ := h
    rfl
  · obtain ⟨d, e, rfl, hm, q⟩ := h
    exact pur_none (by simp [B.own])
  · obtain ⟨d, e, rfl, hm, q⟩ := h
    have nd := sc_is_machine.nd
    have hu := hr.units
    have ps := passes_of (X := cxOf (L2.CX P w) P w K mg base ["rows", "accepting", "row", "state", "known"] "is_machine" (defScope s_is_machine) f cdv A outer s H E) rfl
    refine ⟨_, (dss_cons (ds_if (DW.dt (dw_or (dt_not (dt_val (he := fun _ => rfl) (de_callB call_isZ (rc_isa (K := K)) rfl m_isinstance bt_isinstance (da_cons (de_v 0) (da_cons (de_ty m_list bt_list) da_nil))))) (dw_or (dt_cmp (op_eqAll hu) rd_eq (de_lenN 0 m_len) de_int rfl) (dw_or1 (dt_not (dt_val (he := fun _ => rfl) (de_callB call_isZ (rc_isa (K := K)) rfl m_isinstance bt_isinstance (da_cons (de_v 1) (da_cons (de_ty m_list bt_list) da_nil))))))))) (dss_one (ds_ret de_bl)) dss_nil) (dss_cons (ds_for te ps rfl (di_any (de_v 0)) (fun _ => (dg_name (i := 2) nd rfl (by first | exact Or.inl rfl | exact Or.inr rfl))) (fun _ te => (dss_cons (ds_if (DW.dt (dw_or (dt_not (dt_val (he := fun _ => rfl) (de_callB call_isZ (rc_isa (K := K)) rfl m_isinstance bt_isinstance (da_cons (de_v 2) (da_cons (de_ty m_tuple bt_tuple) da_nil))))) (dw_or1 (dt_cmp (op_neAll hu) rd_ne (de_lenN 2 m_len) de_int rfl)))) (dss_one (ds_ret de_bl)) dss_nil) (dss_one (ds_if (dt_cmp (op_neNil hu) (rd_nil (t := false)) (de_lc rfl nd (di_any (de_v 2)) (own := [("state", 3)]) (blkOk_by (by kernel_rfl)) (fun _ _ _ _ _ _ => (dgc_name (i := 3) (by decide) nd rfl (by first | exact Or.inl rfl | exact Or.inr rfl))) (fun _ _ _ _ _ _ => (dts_one (dt_not (dt_val (he := fun _ => rfl) (de_c c_is_state gu hr (da_cons (de_v 3) (da_cons (de_lenN 0 m_len) da_nil))))))) (fun _ _ _ _ _ _ => (de_v 3))) (de_lst da_nil) rfl) (dss_one (ds_ret de_bl)) dss_nil))))) (dss_cons (ds_set (i := 4) nd rfl (by first | exact Or.inl rfl | exact Or.inr rfl) de_dct0) (dss_cons (ds_for te ps rfl (di_any (de_v 1)) (fun _ => (dg_name (i := 3) nd rfl (by first | exact Or.inl rfl | exact Or.inr rfl))) (fun _ te => (dss_cons (ds_if (DW.dt (dw_or (dt_not (dt_val (he := fun _ => rfl) (de_c c_is_state gu hr (da_cons (de_v 3) (da_cons (de_lenN 0 m_len) da_nil))))) (dw_or1 (dt_cmpR 4 (op_inX hu) rl_in (de_v 3))))) (dss_one (ds_ret de_bl)) dss_nil) (dss_one (ds_putN 4 hu de_bl (de_v 3)))))) (dss_one (ds_ret de_bl)))))), ?_⟩
    obtain ⟨hd, he, hd2, he2⟩ := hm
    refine dseq ?_
    simp only [zM, isa_Lst hd, isa_Lst he, dYes]
    cases d with
    | lst rows =>
      obtain ⟨hl, hr⟩ := hd2 rows rfl
      refine iteF ⟨_, rfl, _, eqD_int, ?_⟩
      by_cases hz : rows = []
      · subst hz
        exact iteT ⟨0, by cases e <;> exact q⟩
      · have en : ¬ ((rows.length : Nat) : Int) = 0 := fun z => hz (List.length_eq_zero_iff.mp (by omega))
        rw [decide_eq_false en]
        refine iteF ?_
        have hzf : rows.isEmpty = false := by
          cases rows
          · exact absurd rfl hz
          · rfl
        cases e with
        | lst acc =>
          obtain ⟨hla, hra⟩ := he2 acc rfl
          have qv : isMach (.lst rows) (.lst acc) = (rows.all (isRow rows.length) && accOk rows.length acc) := by
            show (!rows.isEmpty && _ && _) = _
            rw [hzf]
            rfl
          rw [qv] at q
          refine iteF (dseq ?_)
          simp only [zM]
          refine forL_ds (fun p δ => (∀ x ∈ p, isRow rows.length x = true) ∧ ∃ x2 x3, δ = [some (.p (.lst rows)), some (.p (.lst acc)), x2, x3, none]) (l := rows) (fun p x r δ e hI N hN => ?_) (fun δ hI => ?_) ⟨fun _ h => (by cases h), none, none, rfl⟩
          · obtain ⟨hp, x2, x3, rfl⟩ := hI
            have hx := hr x (by rw [e]; simp)
            have bad : isRow rows.length x = false → R (.p (.bl false)) 0 := fun z => by
              have w : rows.all (isRow rows.length) = false := by
                cases w : rows.all (isRow rows.length) with
                | false => rfl
                | true =>
                  have := List.all_eq_true.mp w x (by rw [e]; simp)
                  rw [z] at this
                  cases this
              rw [w] at q
              exact q
            have good : isRow rows.length x = true → ∀ x3, N [some (.p (.lst rows)), some (.p (.lst acc)), some (.p x), x3, none] := fun z x3 => hN _ ⟨fun y hy => (by
              rcases List.mem_append.mp hy with w | w
              · exact hp y w
              · rw [List.mem_singleton.mp w]
                exact z), _, _, rfl⟩
            refine dseq ?_
            simp only [zM, isa_Tup hx.1, dYes]
            cases x with
            | tup xs =>
              refine iteF ⟨_, rfl, _, eqD_int, ?_⟩
              by_cases h3 : xs.length = 3
              · obtain ⟨a, xs, rfl⟩ := List.exists_cons_of_length_eq_add_one h3
                obtain ⟨b, xs, rfl⟩ := List.exists_cons_of_length_eq_add_one (Nat.succ.inj h3)
                obtain ⟨c, xs, rfl⟩ := List.exists_cons_of_length_eq_add_one (Nat.succ.inj (Nat.succ.inj h3))
                have := List.length_eq_zero_iff.mp (Nat.succ.inj (Nat.succ.inj (Nat.succ.inj h3)))
                subst this
                have hdat := hx.2.1 [a, b, c] rfl
                refine iteF ⟨_, rfl, lcL_map (fun x => !isSt rows.length x) (fun x => x) (fun x => [some (.p (.lst rows)), some (.p (.lst acc)), some (.p (.tup [a, b, c])), some (.p x), none]) (fun x => [some (.p (.lst rows)), some (.p (.lst acc)), some (.p (.tup [a, b, c])), some (.p x), none]) (fun y hy Y M yy nn => ?_) (fun y hy => ⟨rfl, rfl⟩) (by rw [sizeLine_eq]; show 3 ≤ 16777216; decide) ?_⟩
                · simp only [zM]
                  refine ⟨y, rows.length, rfl, hdat y hy, rfl, ?_⟩
                  cases hs : isSt rows.length y with
                  | true => exact ⟨_, rfl, iteF (nn (by rw [hs]; rfl))⟩
                  | false => exact ⟨_, rfl, iteT (yy (by rw [hs]; rfl))⟩
                · have er : isRow rows.length (.tup [a, b, c]) = (isSt rows.length a && isSt rows.length b && isSt rows.length c) := rfl
                  rw [er] at bad good
                  simp only [List.filter_cons, List.filter_nil]
                  cases ha : isSt rows.length a <;> cases hb : isSt rows.length b <;> cases hc : isSt rows.length c <;> rw [ha, hb, hc] at bad good <;> first | exact iteF (good rfl _) | exact iteT ⟨0, bad rfl⟩
              · have e3 : ¬ ((xs.length : Nat) : Int) = 3 := fun z => h3 (by omega)
                rw [decide_eq_false e3]
                refine iteT ⟨0, bad ?_⟩
                unfold isRow
                split
                · rename_i z
                  rw [D.tup.inj z] at h3
                  exact absurd rfl h3
                · rfl
            | cst xs =>
              refine iteF ⟨_, rfl, _, eqD_int, ?_⟩
              have e3 : ¬ ((xs.length : Nat) : Int) = 3 := fun z => hx.2.2 xs rfl (by omega)
              rw [decide_eq_false e3]
              exact iteT ⟨0, bad rfl⟩
            | _ => exact iteT ⟨0, bad rfl⟩
          · obtain ⟨hp, x2, x3, rfl⟩ := hI
            rw [show rows.all (isRow rows.length) = true from List.all_eq_true.mpr hp, Bool.true_and] at q
            simp only [zM]
            refine dseq ?_
            simp only [zM]
            refine dseq ?_
            simp only [zM]
            refine forL_ds (fun p δ => (∀ x ∈ p, isSt rows.length x = true) ∧ ∃ (is : List Int) (x3 : Option B), p = is.map D.int ∧ is.Nodup ∧ δ = [some (.p (.lst rows)), some (.p (.lst acc)), x2, x3, some (.o (.dct (is.map fun i => (.inl i : Key)) (is.map fun _ => .bl true)))]) (l := acc) (fun p x r δ e hI N hN => ?_) (fun δ hI => ?_) ⟨fun _ h => (by cases h), [], x3, rfl, List.nodup_nil, rfl⟩
            · obtain ⟨hp, is, x3, ep, hn, rfl⟩ := hI
              have hx := hra x (by rw [e]; simp)
              simp only [zM]
              refine dseq ?_
              simp only [zM, dYes]
              have bad : ¬ (∃ i, x = .int i ∧ isSt rows.length x = true ∧ i ∉ is) → R (.p (.bl false)) 0 := fun z => by
                have w : accOk rows.length acc = false := by
                  cases w : accOk rows.length acc with
                  | false => rfl
                  | true => exact absurd (accs_at e ep w) z
                rw [w] at q
                exact q
              refine ⟨x, rows.length, rfl, hx, rfl, _, rfl, ?_⟩
              cases hs : isSt rows.length x with
              | false => exact iteT ⟨0, bad fun ⟨i, _, h, _⟩ => (by rw [hs] at h; cases h)⟩
              | true =>
                refine iteF ?_
                cases x with
                | int i =>
                  by_cases hi : i ∈ is
                  · have g := lookG_map (f := fun i : Int => (Sum.inl i : Key)) (g := fun _ => D.bl true) (fun a b h => Sum.inl.inj h) hi
                    refine ⟨true, ?_, iteT ⟨0, bad fun ⟨j, h1, _, h2⟩ => h2 (D.int.inj h1 ▸ hi)⟩⟩
                    simp only [Option.map_some]
                    rw [g]
                    rfl
                  · have hnk : (Sum.inl i : Key) ∉ is.map (fun i => (Sum.inl i : Key)) := fun z => by
                      obtain ⟨j, hj, h⟩ := List.mem_map.mp z
                      exact hi (Sum.inl.inj h ▸ hj)
                    have hle : is.length ≤ 3001 := by
                      have h1 := congrArg List.length e
                      have h2 := congrArg List.length ep
                      rw [List.length_append, List.length_cons] at h1
                      rw [List.length_map] at h2
                      omega
                    refine ⟨false, ?_, iteF ⟨_, if_pos (by omega), ?_⟩⟩
                    · simp only [Option.map_some]
                      rw [lookG_not hnk]
                      rfl
                    · rw [putG_new hnk]
                      refine hN _ ⟨fun y hy => ?_, is ++ [i], some (.p (.int i)), (by rw [ep, List.map_append]; rfl), ?_, ?_⟩
                      · rcases List.mem_append.mp hy with w | w
                        · exact hp y w
                        · rw [List.mem_singleton.mp w]
                          exact hs
                      · exact List.nodup_append.mpr ⟨hn, List.nodup_cons.mpr ⟨List.not_mem_nil, List.nodup_nil⟩, fun a ha b hb z => hi (by rw [← List.mem_singleton.mp hb, ← z]; exact ha)⟩
                      · rw [List.map_append, List.map_append]
                        rfl
                | _ => cases hs
            · obtain ⟨hp, is, x3, ep, hn, rfl⟩ := hI
              rw [accs_all ep hp hn] at q
              simp only [zM]
              exact ⟨0, q⟩
        | _ => exact iteT ⟨0, q⟩
    | _ =>
      exact iteT ⟨0, q⟩
end
end K

set_option Elab.async false
set_option linter.all false
set_option maxRecDepth 100000
set_option maxHeartbeats 8000000
namespace K
open PySem PySem.Spec PyProof.Rows L2 DD
local macro_rules | `(tactic| simp only [zP]) => `(tactic| simp only [startD, List.map_cons, List.map_nil, List.length_cons, List.length_nil, Nat.reduceAdd, Nat.reduceSub, List.replicate, List.cons_append, List.nil_append, dSeq, dSet, dIfS, dT, dOp, dCB, dCons, dNil, dV, dM, dC, dp, dNext, dRet, dRetN, dLst, dTup, dDrop, dNot, dAnd, dOr, dAndV, dOrV, dNotV, intG, intG0, lenG, lenD, ixG, itemD, intCG, intOf, maxG, List.getElem?_cons_zero, List.getElem?_cons_succ, List.set_cons_zero, List.set_cons_succ, Option.some.injEq, B.isU, B.d, B.rd, exists_eq_left', exists_eq_left, exists_and_left, true_and, and_true, B.p.injEq, DD.D.bl.injEq, DD.D.int.injEq, List.cons.injEq, DD.PC, decide_eq_true_eq, and_assoc, Option.map_some, dLc, iAny, walked, wipeE, gN, dCall, dCallP, dCallF, eqG, neG, Bool.not_true, Bool.not_false, if_true, if_false, Bool.false_eq_true, reduceIte, List.append_nil, dCBK, addG, dM1, gT, gsCons, gsNil, iEnumD, dAsP, iR1, dPart, dNo, dSl, freB, lstD, List.all_cons, List.all_nil, litD, Bool.and_self, dReprPair, dDctN, itemD2, ixG2, keyD, lookD, strG2, dPar, bCons, bNil, dFor, List.zip_cons_cons, List.zip_nil_right, List.foldl_cons, List.foldl_nil, dApp, B.o.injEq, DD.D.lst.injEq, DD.D.tup.injEq, exists_eq', dDct0, B.u.injEq, sizeLine_eq, Nat.reduceLeDiff, Nat.reduceLT, Nat.zero_le, true_implies, slG, List.length_map, tupleG, seqD, listG, iR2, List.length_take, List.length_drop, List.length_append, DD.D.str.injEq, mulG, dAsg, dFld, lookF, dSetF, setF, dProp, dMeth, dMake, dMakeK, cxOf_K, dChain, notNG, isNG, isNon_non, isNon_bl, isNon_int, isNon_str, isNon_lst, isNon_tup, isNon_dct, isNon_ins, isNon_exc, dXv, reprG, DD.D.ins.injEq, DD.D.exc.injEq, cmpIG, neIG, clsD, Option.bind_some, B.s.injEq, if_true, if_false, dNeg, dLenSet, dIndex, dClrE, dAppE, dCallK, eqKG, sortedSG])
local macro_rules | `(tactic| simp only [zP, $xs,*]) => `(tactic| simp only [startD, List.map_cons, List.map_nil, List.length_cons, List.length_nil, Nat.reduceAdd, Nat.reduceSub, List.replicate, List.cons_append, List.nil_append, dSeq, dSet, dIfS, dT, dOp, dCB, dCons, dNil, dV, dM, dC, dp, dNext, dRet, dRetN, dLst, dTup, dDrop, dNot, dAnd, dOr, dAndV, dOrV, dNotV, intG, intG0, lenG, lenD, ixG, itemD, intCG, intOf, maxG, List.getElem?_cons_zero, List.getElem?_cons_succ, List.set_cons_zero, List.set_cons_succ, Option.some.injEq, B.isU, B.d, B.rd, exists_eq_left', exists_eq_left, exists_and_left, true_and, and_true, B.p.injEq, DD.D.bl.injEq, DD.D.int.injEq, List.cons.injEq, DD.PC, decide_eq_true_eq, and_assoc, Option.map_some, dLc, iAny, walked, wipeE, gN, dCall, dCallP, dCallF, eqG, neG, Bool.not_true, Bool.not_false, if_true, if_false, Bool.false_eq_true, reduceIte, List.append_nil, dCBK, addG, dM1, gT, gsCons, gsNil, iEnumD, dAsP, iR1, dPart, dNo, dSl, freB, lstD, List.all_cons, List.all_nil, litD, Bool.and_self, dReprPair, dDctN, itemD2, ixG2, keyD, lookD, strG2, dPar, bCons, bNil, dFor, List.zip_cons_cons, List.zip_nil_right, List.foldl_cons, List.foldl_nil, dApp, B.o.injEq, DD.D.lst.injEq, DD.D.tup.injEq, exists_eq', dDct0, B.u.injEq, sizeLine_eq, Nat.reduceLeDiff, Nat.reduceLT, Nat.zero_le, true_implies, slG, List.length_map, tupleG, seqD, listG, iR2, List.length_take, List.length_drop, List.length_append, DD.D.str.injEq, mulG, dAsg, dFld, lookF, dSetF, setF, dProp, dMeth, dMake, dMakeK, cxOf_K, dChain, notNG, isNG, isNon_non, isNon_bl, isNon_int, isNon_str, isNon_lst, isNon_tup, isNon_dct, isNon_ins, isNon_exc, dXv, reprG, DD.D.ins.injEq, DD.D.exc.injEq, cmpIG, neIG, clsD, Option.bind_some, B.s.injEq, if_true, if_false, dNeg, dLenSet, dIndex, dClrE, dAppE, dCallK, eqKG, sortedSG, $xs,*])
local macro_rules | `(tactic| simp only [zQ]) => `(tactic| simp only [startD, List.map_cons, List.map_nil, List.length_cons, List.length_nil, Nat.reduceAdd, Nat.reduceSub, List.replicate, List.cons_append, List.nil_append, dSet, dIfS, dT, dOp, dCB, dCons, dNil, dV, dM, dC, dp, dNext, dRet, dRetN, dLst, dTup, dDrop, dNot, dAnd, dOr, dAndV, dOrV, dNotV, intG, intG0, lenG, lenD, ixG, itemD, intCG, intOf, maxG, List.getElem?_cons_zero, List.getElem?_cons_succ, List.set_cons_zero, List.set_cons_succ, Option.some.injEq, B.isU, B.d, B.rd, exists_eq_left', exists_eq_left, exists_and_left, true_and, and_true, B.p.injEq, DD.D.bl.injEq, DD.D.int.injEq, List.cons.injEq, DD.PC, decide_eq_true_eq, and_assoc, Option.map_some, dLc, iAny, walked, wipeE, gN, dCall, dCallP, dCallF, eqG, neG, Bool.not_true, Bool.not_false, if_true, if_false, Bool.false_eq_true, reduceIte, List.append_nil, dCBK, addG, dM1, gT, gsCons, gsNil, iEnumD, dAsP, iR1, dPart, dNo, dSl, freB, lstD, List.all_cons, List.all_nil, litD, Bool.and_self, dReprPair, dDctN, itemD2, ixG2, keyD, lookD, strG2, dPar, bCons, bNil, dFor, List.zip_cons_cons, List.zip_nil_right, List.foldl_cons, List.foldl_nil, dApp, B.o.injEq, DD.D.lst.injEq, DD.D.tup.injEq, exists_eq', dDct0, B.u.injEq, sizeLine_eq, Nat.reduceLeDiff, Nat.reduceLT, Nat.zero_le, true_implies, slG, List.length_map, tupleG, seqD, listG, iR2, List.length_take, List.length_drop, List.length_append, DD.D.str.injEq, mulG, dAsg, dFld, lookF, dSetF, setF, dProp, dMeth, dMake, dMakeK, cxOf_K, dChain, notNG, isNG, isNon_non, isNon_bl, isNon_int, isNon_str, isNon_lst, isNon_tup, isNon_dct, isNon_ins, isNon_exc, dXv, reprG, DD.D.ins.injEq, DD.D.exc.injEq, cmpIG, neIG, clsD, Option.bind_some, B.s.injEq, if_true, if_false, dNeg, dLenSet, dIndex, dClrE, dAppE, dCallK, eqKG, sortedSG])
local macro_rules | `(tactic| simp only [zQ, $xs,*]) => `(tactic| simp only [startD, List.map_cons, List.map_nil, List.length_cons, List.length_nil, Nat.reduceAdd, Nat.reduceSub, List.replicate, List.cons_append, List.nil_append, dSet, dIfS, dT, dOp, dCB, dCons, dNil, dV, dM, dC, dp, dNext, dRet, dRetN, dLst, dTup, dDrop, dNot, dAnd, dOr, dAndV, dOrV, dNotV, intG, intG0, lenG, lenD, ixG, itemD, intCG, intOf, maxG, List.getElem?_cons_zero, List.getElem?_cons_succ, List.set_cons_zero, List.set_cons_succ, Option.some.injEq, B.isU, B.d, B.rd, exists_eq_left', exists_eq_left, exists_and_left, true_and, and_true, B.p.injEq, DD.D.bl.injEq, DD.D.int.injEq, List.cons.injEq, DD.PC, decide_eq_true_eq, and_assoc, Option.map_some, dLc, iAny, walked, wipeE, gN, dCall, dCallP, dCallF, eqG, neG, Bool.not_true, Bool.not_false, if_true, if_false, Bool.false_eq_true, reduceIte, List.append_nil, dCBK, addG, dM1, gT, gsCons, gsNil, iEnumD, dAsP, iR1, dPart, dNo, dSl, freB, lstD, List.all_cons, List.all_nil, litD, Bool.and_self, dReprPair, dDctN, itemD2, ixG2, keyD, lookD, strG2, dPar, bCons, bNil, dFor, List.zip_cons_cons, List.zip_nil_right, List.foldl_cons, List.foldl_nil, dApp, B.o.injEq, DD.D.lst.injEq, DD.D.tup.injEq, exists_eq', dDct0, B.u.injEq, sizeLine_eq, Nat.reduceLeDiff, Nat.reduceLT, Nat.zero_le, true_implies, slG, List.length_map, tupleG, seqD, listG, iR2, List.length_take, List.length_drop, List.length_append, DD.D.str.injEq, mulG, dAsg, dFld, lookF, dSetF, setF, dProp, dMeth, dMake, dMakeK, cxOf_K, dChain, notNG, isNG, isNon_non, isNon_bl, isNon_int, isNon_str, isNon_lst, isNon_tup, isNon_dct, isNon_ins, isNon_exc, dXv, reprG, DD.D.ins.injEq, DD.D.exc.injEq, cmpIG, neIG, clsD, Option.bind_some, B.s.injEq, if_true, if_false, dNeg, dLenSet, dIndex, dClrE, dAppE, dCallK, eqKG, sortedSG, $xs,*])
local macro_rules | `(tactic| simp only [zM]) => `(tactic| simp only [startD, List.map_cons, List.map_nil, List.length_cons, List.length_nil, Nat.reduceAdd, Nat.reduceSub, List.replicate, List.cons_append, List.nil_append, dSet, dIfS, dT, dOp, dCB, dCons, dNil, dV, dM, dC, dp, dNext, dRet, dRetN, dLst, dTup, dDrop, dNot, dAnd, dOr, dAndV, dOrV, dNotV, intG, intG0, lenG, lenD, ixG, itemD, intCG, intOf, maxG, List.getElem?_cons_zero, List.getElem?_cons_succ, List.set_cons_zero, List.set_cons_succ, Option.some.injEq, B.isU, B.d, B.rd, exists_eq_left', exists_eq_left, exists_and_left, true_and, and_true, B.p.injEq, DD.D.bl.injEq, DD.D.int.injEq, List.cons.injEq, DD.PC, decide_eq_true_eq, and_assoc, Option.map_some, dLc, iAny, walked, wipeE, gN, dCall, dCallP, dCallF, eqG, neG, Bool.not_true, Bool.not_false, if_true, if_false, Bool.false_eq_true, reduceIte, List.append_nil, dCBK, addG, dM1, gT, gsCons, gsNil, iEnumD, dAsP, iR1, dPart, dNo, dSl, freB, lstD, List.all_cons, List.all_nil, litD, Bool.and_self, dReprPair, dDctN, itemD2, ixG2, keyD, lookD, strG2, dPar, bCons, bNil, dFor, List.zip_cons_cons, List.zip_nil_right, List.foldl_cons, List.foldl_nil, dApp, B.o.injEq, DD.D.lst.injEq, DD.D.tup.injEq, exists_eq', dDct0, B.u.injEq, sizeLine_eq, Nat.reduceLeDiff, Nat.reduceLT, Nat.zero_le, true_implies, slG, List.length_map, tupleG, seqD, listG, iR2, List.length_take, List.length_drop, List.length_append, DD.D.str.injEq, mulG, dAsg, dFld, lookF, dSetF, setF, dProp, dMeth, dMake, dMakeK, cxOf_K, dChain, notNG, isNG, isNon_non, isNon_bl, isNon_int, isNon_str, isNon_lst, isNon_tup, isNon_dct, isNon_ins, isNon_exc, dXv, reprG, DD.D.ins.injEq, DD.D.exc.injEq, cmpIG, neIG, clsD, Option.bind_some, B.s.injEq, if_true, if_false, dNeg, dLenSet, dIndex, dClrE, dAppE, dCallK, eqKG, sortedSG, dNL, dNR, slotD, eqL, neL, inL, isInX, ixL, itemX, getD', lenX, dLenN, dGet2, dPutN, ownS, setX, dRev, dClr, dPop, dPopAt, dExt, dAug, dDc, dLend, lendE, lend1, lentB, isLD, dDctT, dLenSetA, keyT, keyL, List.mem_cons, List.not_mem_nil, or_false, false_or, or_true, true_or, Nat.reduceEqDiff, decide_true, decide_false, Bool.or_true, Bool.true_or, Bool.false_or, Bool.or_false, Bool.and_true, Bool.true_and, reduceCtorEq, DD.D.dct.injEq, DD.D.dcT.injEq, dDctT0, nilG, nilL, List.isEmpty_nil, List.isEmpty_cons])
local macro_rules | `(tactic| simp only [zM, $xs,*]) => `(tactic| simp only [startD, List.map_cons, List.map_nil, List.length_cons, List.length_nil, Nat.reduceAdd, Nat.reduceSub, List.replicate, List.cons_append, List.nil_append, dSet, dIfS, dT, dOp, dCB, dCons, dNil, dV, dM, dC, dp, dNext, dRet, dRetN, dLst, dTup, dDrop, dNot, dAnd, dOr, dAndV, dOrV, dNotV, intG, intG0, lenG, lenD, ixG, itemD, intCG, intOf, maxG, List.getElem?_cons_zero, List.getElem?_cons_succ, List.set_cons_zero, List.set_cons_succ, Option.some.injEq, B.isU, B.d, B.rd, exists_eq_left', exists_eq_left, exists_and_left, true_and, and_true, B.p.injEq, DD.D.bl.injEq, DD.D.int.injEq, List.cons.injEq, DD.PC, decide_eq_true_eq, and_assoc, Option.map_some, dLc, iAny, walked, wipeE, gN, dCall, dCallP, dCallF, eqG, neG, Bool.not_true, Bool.not_false, if_true, if_false, Bool.false_eq_true, reduceIte, List.append_nil, dCBK, addG, dM1, gT, gsCons, gsNil, iEnumD, dAsP, iR1, dPart, dNo, dSl, freB, lstD, List.all_cons, List.all_nil, litD, Bool.and_self, dReprPair, dDctN, itemD2, ixG2, keyD, lookD, strG2, dPar, bCons, bNil, dFor, List.zip_cons_cons, List.zip_nil_right, List.foldl_cons, List.foldl_nil, dApp, B.o.injEq, DD.D.lst.injEq, DD.D.tup.injEq, exists_eq', dDct0, B.u.injEq, sizeLine_eq, Nat.reduceLeDiff, Nat.reduceLT, Nat.zero_le, true_implies, slG, List.length_map, tupleG, seqD, listG, iR2, List.length_take, List.length_drop, List.length_append, DD.D.str.injEq, mulG, dAsg, dFld, lookF, dSetF, setF, dProp, dMeth, dMake, dMakeK, cxOf_K, dChain, notNG, isNG, isNon_non, isNon_bl, isNon_int, isNon_str, isNon_lst, isNon_tup, isNon_dct, isNon_ins, isNon_exc, dXv, reprG, DD.D.ins.injEq, DD.D.exc.injEq, cmpIG, neIG, clsD, Option.bind_some, B.s.injEq, if_true, if_false, dNeg, dLenSet, dIndex, dClrE, dAppE, dCallK, eqKG, sortedSG, dNL, dNR, slotD, eqL, neL, inL, isInX, ixL, itemX, getD', lenX, dLenN, dGet2, dPutN, ownS, setX, dRev, dClr, dPop, dPopAt, dExt, dAug, dDc, dLend, lendE, lend1, lentB, isLD, dDctT, dLenSetA, keyT, keyL, List.mem_cons, List.not_mem_nil, or_false, false_or, or_true, true_or, Nat.reduceEqDiff, decide_true, decide_false, Bool.or_true, Bool.true_or, Bool.false_or, Bool.or_false, Bool.and_true, Bool.true_and, reduceCtorEq, DD.D.dct.injEq, DD.D.dcT.injEq, dDctT0, nilG, nilL, List.isEmpty_nil, List.isEmpty_cons, $xs,*])
section
variable {P : Program} {w : World} {K : PySem.W.Frag} {mg : Str → Option Value} {base : Heap}

def flOf (n : Nat) (acc : List Nat) : List Bool := (List.range n).map fun q => decide (q ∈ acc)
theorem flOf_len {n : Nat} {acc : List Nat} : (flOf n acc).length = n := by
  unfold flOf
  rw [List.length_map, List.length_range]
def macD (C : Addr) (rs : List MRow) (fl : List Bool) : D := .ins C ["machine"] [.tup [.tup (rs.map rowD), .tup (fl.map bD)]]
abbrev pairD (C : Addr) (rs : List MRow) (fl : List Bool) : D := macD C (lstR rs fl) (lstF rs fl)
def accOf (fl : List Bool) : List Nat := (List.range fl.length).filter fun q => fl.getD q false

abbrev s_PairSet___init__ : Stmt := memS (topS 35) 0
theorem sc_PairSet___init__ : FnScope ["self", "rows", "accepting", "known", "state", "made"] ["self", "rows", "accepting"] (defScope s_PairSet___init__) := ⟨rfl, rfl, rfl, by decide +kernel, rfl, by decide +kernel, by decide +kernel⟩
def spi_PairSet (aP aI : Addr) : SpdS := fun d0 ds R E => ∃ C d e, d0 = .ins C [] [] ∧ C = aP ∧ ds = [d, e] ∧ Mch d e ∧ ((isMach d e = true ∧ ∃ rs acc, d = .lst (rs.map rowD) ∧ e = .lst (acc.map iD) ∧ RowsOk rs ∧ acc.Nodup ∧ acc.length ≤ 3001 ∧ R (.p .non) (pairD C rs (flOf rs.length acc))) ∨ (isMach d e = false ∧ E aI [.tup [d, e]] (.ins C [] [])))
theorem cal_PairSet {a_PairSet : Addr} (Da : InitAt K mg "PairSet" a_PairSet "PairSet.__init__" s_PairSet___init__ [] []) (c_is_machine : Cal P w K mg base "is_machine" 3 ["rows", "accepting"] spd_is_machine) (c_least_machine : Cal P w K mg base "least_machine" 3 ["rows", "accepting"] spd_least_machine) (fo_m : FldOk K a_PairSet "machine") {aI fI : Addr} (o_InvalidMachine : OwnX P K aI fI) (m_InvalidMachine : mg "InvalidMachine" = some (.ref aI)) (m_tuple : mg "tuple" = none) (m_range : mg "range" = none) (m_len : mg "len" = none) :
    ∃ f fd, GnOk P w K mg base 5 f fd ["self", "rows", "accepting"] (toSpS K (spi_PairSet a_PairSet aI)) ∧ Mk K a_PairSet f ∧ mg "PairSet" = some (.ref a_PairSet) ∧ FunD K "__init__" "PairSet.__init__" (defArgs s_PairSet___init__) (defBody s_PairSet___init__) (defScope s_PairSet___init__) [] [] f fd := by
  refine make_mk Da sc_PairSet___init__ (fun d0 ds R E h => ?_) fun f cdv A outer s H E W d0 ds R ED gu hr te h fh => ?_
  · obtain ⟨C, d, e, rfl, rfl, rfl, hm, q⟩ := h
    rfl
  · obtain ⟨C, d, e, rfl, rfl, rfl, hm, q⟩ := h
    have nd := sc_PairSet___init__.nd
    have hu := hr.units
    refine ⟨_, (dss_cons (ds_if (dt_not (dt_val (he := fun _ => rfl) (de_c c_is_machine gu hr (da_cons (de_v 1) (da_cons (de_v 2) da_nil))))) (dss_one (ds_raise te o_InvalidMachine rfl hr rfl m_InvalidMachine (da_cons (de_tup (da_cons (de_v 1) (da_cons (de_v 2) da_nil))) da_nil))) dss_nil) (dss_cons (ds_set (i := 3) nd rfl (by first | exact Or.inl rfl | exact Or.inr rfl) (de_dc rfl nd (di_any (de_v 2)) (own := [("state", 4)]) (blkOk_by (by kernel_rfl)) (fun _ _ _ _ _ _ => (dgc_name (i := 4) (by decide) nd rfl (by first | exact Or.inl rfl | exact Or.inr rfl))) (fun _ _ _ _ _ _ => dts_nil) (fun _ _ _ _ _ _ => (de_v 4)) (fun _ _ _ _ _ _ => de_bl))) (dss_cons (ds_set (i := 5) nd rfl (by first | exact Or.inl rfl | exact Or.inr rfl) (de_c c_least_machine gu hr (da_cons (de_v 1) (da_cons (de_lc rfl nd (DI0.di (di_range1 rfl m_range (da_cons (de_lenN 1 m_len) da_nil))) (own := [("state", 4)]) (blkOk_by (by kernel_rfl)) (fun _ _ _ _ _ _ => (dgc_name (i := 4) (by decide) nd rfl (by first | exact Or.inl rfl | exact Or.inr rfl))) (fun _ _ _ _ _ _ => dts_nil) (fun _ _ _ _ _ _ => (de_cmpR 3 (op_inX hu) rl_in (de_v 4)))) da_nil)))) (dss_one (ds_setF (i := 0) rfl (de_tup (da_cons (de_callTy call_tuple_of rc_tuple rfl m_tuple bt_tuple (da_cons (de_ixN 5 hu de_int (fun _ _ => rfl)) da_nil)) (da_cons (de_callTy call_tuple_of rc_tuple rfl m_tuple bt_tuple (da_cons (de_ixN 5 hu de_int (fun _ _ => rfl)) da_nil)) da_nil)))))))), ?_⟩
    refine dseq ?_
    simp only [zM, dRaise]
    refine ⟨d, e, rfl, hm, ?_⟩
    rcases q with ⟨hv, rs, acc, rfl, rfl, ok, hn, hla, q⟩ | ⟨hv, q⟩
    · rw [hv]
      simp only [zM]
      refine dseq ?_
      simp only [zM]
      refine dcL_mapA iD iD tr ky (fun x => [some (.s (.ins C [] [])), some (.p (.lst (rs.map rowD))), some (.p (.lst (acc.map iD))), none, some (.p (iD x)), none]) (fun x hx Y N y => ?_) (fun x hx => ⟨rfl, rfl⟩) (by rw [sizeLine_eq, List.length_nil]; omega) (fun _ _ h => (by cases h)) (ky_nodup hn) ?_
      · simp only [zM, dYes]
        exact y
      · rw [List.nil_append, List.nil_append]
        refine dseq ?_
        simp only [zM]
        rw [upto_map]
        have le := ok.le
        refine ⟨by omega, by omega, ?_⟩
        have hfl : (List.range rs.length).map (fun q => D.bl (decide (q ∈ acc))) = (flOf rs.length acc).map bD := by
          unfold flOf
          rw [List.map_map]
          rfl
        refine lcL_allA (fun i : Nat => D.int (i : Nat)) (fun q => D.bl (decide (q ∈ acc))) (fun q => [some (.s (.ins C [] [])), some (.p (.lst (rs.map rowD))), some (.p (.lst (acc.map iD))), some (.o (.dct (acc.map ky) (acc.map tr))), some (.p (.int (q : Nat))), none]) (fun r hr Y N y => ?_) (fun r hr => rfl) (by rw [List.length_nil, List.length_range, sizeLine_eq]; omega) ?_
        · simp only [zM, dYes]
          rw [known_get]
          exact y
        · rw [List.nil_append, Int.toNat_natCast, hfl]
          simp only [zM]
          refine ⟨rs, _, flOf rs.length acc, _, rfl, .inl rfl, .inl rfl, ok, flOf_len, rfl, ?_⟩
          simp only [zM]
          exact ⟨_, rfl, _, rfl, _, rfl, _, rfl, fo_m, q⟩
    · rw [hv]
      simp only [zM]
      exact q
abbrev s_PairSet_rows : Stmt := memS (topS 35) 1
theorem sc_PairSet_rows : FnScope ["self"] ["self"] (defScope s_PairSet_rows) := ⟨rfl, rfl, rfl, by decide +kernel, rfl, by decide +kernel, by decide +kernel⟩
def spd_PairSet_rows (aP : Addr) : Spd := fun bs R _ => ∃ rs fl, bs = [.p (macD aP rs fl)] ∧ rs.length ≤ 3000 ∧ R (.o (.lst (rs.map rowD))) 0
theorem cal_PairSet_rows {a_PairSet : Addr} (Da : PropAt K a_PairSet "rows" "PairSet.rows" s_PairSet_rows) (fo_m : FldOk K a_PairSet "machine") (m_list : mg "list" = none) : PropC P w K mg base a_PairSet "rows" 1 (spd_PairSet_rows a_PairSet) := by
  refine prop_mk Da sc_PairSet_rows (fun _ _ _ _ _ _ us hl => match us, hl with | [_], _ => rfl) (fun bs R E h => ?_) (fun bs R E h => ?_) fun f cdv A outer s H E W bs R ED gu hr te h fh => ?_
  · obtain ⟨rs, fl, rfl, hl, q⟩ := h
    rfl
  · obtain ⟨rs, fl, rfl, hl, q⟩ := h
    exact pur_none (by simp [B.own])
  · obtain ⟨rs, fl, rfl, hl, q⟩ := h
    have nd := sc_PairSet_rows.nd
    have hu := hr.units
    refine ⟨_, (dss_one (ds_ret (de_callTy call_list_of rc_list rfl m_list bt_list (da_cons (de_ix2 hu (de_fld (de_v 0)) de_int fun _ _ => rfl) da_nil)))), ?_⟩
    simp only [zM, macD]
    exact ⟨fo_m, _, rfl, _, rfl, 0, q⟩
abbrev s_PairSet_accepting : Stmt := memS (topS 35) 2
theorem sc_PairSet_accepting : FnScope ["self", "state"] ["self"] (defScope s_PairSet_accepting) := ⟨rfl, rfl, rfl, by decide +kernel, rfl, by decide +kernel, by decide +kernel⟩
def spd_PairSet_accepting (aP : Addr) : Spd := fun bs R _ => ∃ rs fl, bs = [.p (macD aP rs fl)] ∧ fl.length ≤ 3000 ∧ R (.o (.lst ((accOf fl).map iD))) 0
theorem cal_PairSet_accepting {a_PairSet : Addr} (Da : PropAt K a_PairSet "accepting" "PairSet.accepting" s_PairSet_accepting) (fo_m : FldOk K a_PairSet "machine") (m_range : mg "range" = none) (m_len : mg "len" = none) : PropC P w K mg base a_PairSet "accepting" 1 (spd_PairSet_accepting a_PairSet) := by
  refine prop_mk Da sc_PairSet_accepting (fun _ _ _ _ _ _ us hl => match us, hl with | [_], _ => rfl) (fun bs R E h => ?_) (fun bs R E h => ?_) fun f cdv A outer s H E W bs R ED gu hr te h fh => ?_
  · obtain ⟨rs, fl, rfl, hl, q⟩ := h
    rfl
  · obtain ⟨rs, fl, rfl, hl, q⟩ := h
    exact pur_none (by simp [B.own])
  · obtain ⟨rs, fl, rfl, hl, q⟩ := h
    have nd := sc_PairSet_accepting.nd
    have hu := hr.units
    refine ⟨_, (dss_one (ds_ret (de_lc rfl nd (DI0.di (di_range1 rfl m_range (da_cons (de_callB cr_lenAll rc_len rfl m_len bt_len (da_cons (de_ix2 hu (de_fld (de_v 0)) de_int fun _ _ => rfl) da_nil)) da_nil))) (own := [("state", 1)]) (blkOk_by (by kernel_rfl)) (fun _ _ _ _ _ _ => (dgc_name (i := 1) (by decide) nd rfl (by first | exact Or.inl rfl | exact Or.inr rfl))) (fun _ _ _ _ _ _ => (dts_one (dt_val (he := fun _ => rfl) (de_ix2 hu (de_ix2 hu (de_fldC (K := K) rfl (de_v 0)) de_int fun _ _ => rfl) (de_v 1) fun _ _ => rfl)))) (fun _ _ _ _ _ _ => (de_v 1))))), ?_⟩
    simp only [zM, macD]
    refine ⟨fo_m, _, rfl, _, rfl, ?_, ?_, ?_⟩
    · rw [List.length_map]
      omega
    · rw [List.length_map]
      omega
    rw [Int.toNat_natCast, upto_map, List.length_map]
    refine lcL_mapA (fun i : Nat => D.int (i : Nat)) (fun q => fl.getD q false) iD (fun q => [some (.p (.ins a_PairSet ["machine"] [.tup [.tup (rs.map rowD), .tup (fl.map bD)]])), some (.p (.int (q : Nat)))]) (fun q => [some (.p (.ins a_PairSet ["machine"] [.tup [.tup (rs.map rowD), .tup (fl.map bD)]])), some (.p (.int (q : Nat)))]) (fun q hq Y N y n => ?_) (fun q hq => ⟨rfl, rfl⟩) (by rw [List.length_nil, List.length_range, sizeLine_eq]; omega) ?_
    · have hq := List.mem_range.mp hq
      simp only [zM]
      refine ⟨fo_m, _, rfl, _, atI_map (List.getElem?_eq_getElem hq), ?_⟩
      have e : fl.getD q false = fl[q] := by
        rw [List.getD_eq_getElem?_getD, List.getElem?_eq_getElem hq]
        rfl
      rw [e] at y n
      refine ⟨_, rfl, ?_⟩
      cases h : fl[q] with
      | true => exact iteT (y h)
      | false => exact iteF (n h)
    · rw [List.nil_append]
      exact ⟨0, q⟩
end
end K

set_option Elab.async false
set_option linter.all false
set_option maxRecDepth 100000
set_option maxHeartbeats 8000000
namespace K
open PySem PySem.Spec PyProof.Rows L2 DD
local macro_rules | `(tactic| simp only [zP]) => `(tactic| simp only [startD, List.map_cons, List.map_nil, List.length_cons, List.length_nil, Nat.reduceAdd, Nat.reduceSub, List.replicate, List.cons_append, List.nil_append, dSeq, dSet, dIfS, dT, dOp, dCB, dCons, dNil, dV, dM, dC, dp, dNext, dRet, dRetN, dLst, dTup, dDrop, dNot, dAnd, dOr, dAndV, dOrV, dNotV, intG, intG0, lenG, lenD, ixG, itemD, intCG, intOf, maxG, List.getElem?_cons_zero, List.getElem?_cons_succ, List.set_cons_zero, List.set_cons_succ, Option.some.injEq, B.isU, B.d, B.rd, exists_eq_left', exists_eq_left, exists_and_left, true_and, and_true, B.p.injEq, DD.D.bl.injEq, DD.D.int.injEq, List.cons.injEq, DD.PC, decide_eq_true_eq, and_assoc, Option.map_some, dLc, iAny, walked, wipeE, gN, dCall, dCallP, dCallF, eqG, neG, Bool.not_true, Bool.not_false, if_true, if_false, Bool.false_eq_true, reduceIte, List.append_nil, dCBK, addG, dM1, gT, gsCons, gsNil, iEnumD, dAsP, iR1, dPart, dNo, dSl, freB, lstD, List.all_cons, List.all_nil, litD, Bool.and_self, dReprPair, dDctN, itemD2, ixG2, keyD, lookD, strG2, dPar, bCons, bNil, dFor, List.zip_cons_cons, List.zip_nil_right, List.foldl_cons, List.foldl_nil, dApp, B.o.injEq, DD.D.lst.injEq, DD.D.tup.injEq, exists_eq', dDct0, B.u.injEq, sizeLine_eq, Nat.reduceLeDiff, Nat.reduceLT, Nat.zero_le, true_implies, slG, List.length_map, tupleG, seqD, listG, iR2, List.length_take, List.length_drop, List.length_append, DD.D.str.injEq, mulG, dAsg, dFld, lookF, dSetF, setF, dProp, dMeth, dMake, dMakeK, cxOf_K, dChain, notNG, isNG, isNon_non, isNon_bl, isNon_int, isNon_str, isNon_lst, isNon_tup, isNon_dct, isNon_ins, isNon_exc, dXv, reprG, DD.D.ins.injEq, DD.D.exc.injEq, cmpIG, neIG, clsD, Option.bind_some, B.s.injEq, if_true, if_false, dNeg, dLenSet, dIndex, dClrE, dAppE, dCallK, eqKG, sortedSG])
local macro_rules | `(tactic| simp only [zP, $xs,*]) => `(tactic| simp only [startD, List.map_cons, List.map_nil, List.length_cons, List.length_nil, Nat.reduceAdd, Nat.reduceSub, List.replicate, List.cons_append, List.nil_append, dSeq, dSet, dIfS, dT, dOp, dCB, dCons, dNil, dV, dM, dC, dp, dNext, dRet, dRetN, dLst, dTup, dDrop, dNot, dAnd, dOr, dAndV, dOrV, dNotV, intG, intG0, lenG, lenD, ixG, itemD, intCG, intOf, maxG, List.getElem?_cons_zero, List.getElem?_cons_succ, List.set_cons_zero, List.set_cons_succ, Option.some.injEq, B.isU, B.d, B.rd, exists_eq_left', exists_eq_left, exists_and_left, true_and, and_true, B.p.injEq, DD.D.bl.injEq, DD.D.int.injEq, List.cons.injEq, DD.PC, decide_eq_true_eq, and_assoc, Option.map_some, dLc, iAny, walked, wipeE, gN, dCall, dCallP, dCallF, eqG, neG, Bool.not_true, Bool.not_false, if_true, if_false, Bool.false_eq_true, reduceIte, List.append_nil, dCBK, addG, dM1, gT, gsCons, gsNil, iEnumD, dAsP, iR1, dPart, dNo, dSl, freB, lstD, List.all_cons, List.all_nil, litD, Bool.and_self, dReprPair, dDctN, itemD2, ixG2, keyD, lookD, strG2, dPar, bCons, bNil, dFor, List.zip_cons_cons, List.zip_nil_right, List.foldl_cons, List.foldl_nil, dApp, B.o.injEq, DD.D.lst.injEq, DD.D.tup.injEq, exists_eq', dDct0, B.u.injEq, sizeLine_eq, Nat.reduceLeDiff, Nat.reduceLT, Nat.zero_le, true_implies, slG, List.length_map, tupleG, seqD, listG, iR2, List.length_take, List.length_drop, List.length_append, DD.D.str.injEq, mulG, dAsg, dFld, lookF, dSetF, setF, dProp, dMeth, dMake, dMakeK, cxOf_K, dChain, notNG, isNG, isNon_non, isNon_bl, isNon_int, isNon_str, isNon_lst, isNon_tup, isNon_dct, isNon_ins, isNon_exc, dXv, reprG, DD.D.ins.injEq, DD.D.exc.injEq, cmpIG, neIG, clsD, Option.bind_some, B.s.injEq, if_true, if_false, dNeg, dLenSet, dIndex, dClrE, dAppE, dCallK, eqKG, sortedSG, $xs,*])
local macro_rules | `(tactic| simp only [zQ]) => `(tactic| simp only [startD, List.map_cons, List.map_nil, List.length_cons, List.length_nil, Nat.reduceAdd, Nat.reduceSub, List.replicate, List.cons_append, List.nil_append, dSet, dIfS, dT, dOp, dCB, dCons, dNil, dV, dM, dC, dp, dNext, dRet, dRetN, dLst, dTup, dDrop, dNot, dAnd, dOr, dAndV, dOrV, dNotV, intG, intG0, lenG, lenD, ixG, itemD, intCG, intOf, maxG, List.getElem?_cons_zero, List.getElem?_cons_succ, List.set_cons_zero, List.set_cons_succ, Option.some.injEq, B.isU, B.d, B.rd, exists_eq_left', exists_eq_left, exists_and_left, true_and, and_true, B.p.injEq, DD.D.bl.injEq, DD.D.int.injEq, List.cons.injEq, DD.PC, decide_eq_true_eq, and_assoc, Option.map_some, dLc, iAny, walked, wipeE, gN, dCall, dCallP, dCallF, eqG, neG, Bool.not_true, Bool.not_false, if_true, if_false, Bool.false_eq_true, reduceIte, List.append_nil, dCBK, addG, dM1, gT, gsCons, gsNil, iEnumD, dAsP, iR1, dPart, dNo, dSl, freB, lstD, List.all_cons, List.all_nil, litD, Bool.and_self, dReprPair, dDctN, itemD2, ixG2, keyD, lookD, strG2, dPar, bCons, bNil, dFor, List.zip_cons_cons, List.zip_nil_right, List.foldl_cons, List.foldl_nil, dApp, B.o.injEq, DD.D.lst.injEq, DD.D.tup.injEq, exists_eq', dDct0, B.u.injEq, sizeLine_eq, Nat.reduceLeDiff, Nat.reduceLT, Nat.zero_le, true_implies, slG, List.length_map, tupleG, seqD, listG, iR2, List.length_take, List.length_drop, List.length_append, DD.D.str.injEq, mulG, dAsg, dFld, lookF, dSetF, setF, dProp, dMeth, dMake, dMakeK, cxOf_K, dChain, notNG, isNG, isNon_non, isNon_bl, isNon_int, isNon_str, isNon_lst, isNon_tup, isNon_dct, isNon_ins, isNon_exc, dXv, reprG, DD.D.ins.injEq, DD.D.exc.injEq, cmpIG, neIG, clsD, Option.bind_some, B.s.injEq, if_true, if_false, dNeg, dLenSet, dIndex, dClrE, dAppE, dCallK, eqKG, sortedSG])
local macro_rules | `(tactic| simp only [zQ, $xs,*]) => `(tactic| simp only [startD, List.map_cons, List.map_nil, List.length_cons, List.length_nil, Nat.reduceAdd, Nat.reduceSub, List.replicate, List.cons_append, List.nil_append, dSet, dIfS, dT, dOp, dCB, dCons, dNil, dV, dM, dC, dp, dNext, dRet, dRetN, dLst, dTup, dDrop, dNot, dAnd, dOr, dAndV, dOrV, dNotV, intG, intG0, lenG, lenD, ixG, itemD, intCG, intOf, maxG, List.getElem?_cons_zero, List.getElem?_cons_succ, List.set_cons_zero, List.set_cons_succ, Option.some.injEq, B.isU, B.d, B.rd, exists_eq_left', exists_eq_left, exists_and_left, true_and, and_true, B.p.injEq, DD.D.bl.injEq, DD.D.int.injEq, List.cons.injEq, DD.PC, decide_eq_true_eq, and_assoc, Option.map_some, dLc, iAny, walked, wipeE, gN, dCall, dCallP, dCallF, eqG, neG, Bool.not_true, Bool.not_false, if_true, if_false, Bool.false_eq_true, reduceIte, List.append_nil, dCBK, addG, dM1, gT, gsCons, gsNil, iEnumD, dAsP, iR1, dPart, dNo, dSl, freB, lstD, List.all_cons, List.all_nil, litD, Bool.and_self, dReprPair, dDctN, itemD2, ixG2, keyD, lookD, strG2, dPar, bCons, bNil, dFor, List.zip_cons_cons, List.zip_nil_right, List.foldl_cons, List.foldl_nil, dApp, B.o.injEq, DD.D.lst.injEq, DD.D.tup.injEq, exists_eq', dDct0, B.u.injEq, sizeLine_eq, Nat.reduceLeDiff, Nat.reduceLT, Nat.zero_le, true_implies, slG, List.length_map, tupleG, seqD, listG, iR2, List.length_take, List.length_drop, List.length_append, DD.D.str.injEq, mulG, dAsg, dFld, lookF, dSetF, setF, dProp, dMeth, dMake, dMakeK, cxOf_K, dChain, notNG, isNG, isNon_non, isNon_bl, isNon_int, isNon_str, isNon_lst, isNon_tup, isNon_dct, isNon_ins, isNon_exc, dXv, reprG, DD.D.ins.injEq, DD.D.exc.injEq, cmpIG, neIG, clsD, Option.bind_some, B.s.injEq, if_true, if_false, dNeg, dLenSet, dIndex, dClrE, dAppE, dCallK, eqKG, sortedSG, $xs,*])
local macro_rules | `(tactic| simp only [zM]) => `(tactic| simp only [startD, List.map_cons, List.map_nil, List.length_cons, List.length_nil, Nat.reduceAdd, Nat.reduceSub, List.replicate, List.cons_append, List.nil_append, dSet, dIfS, dT, dOp, dCB, dCons, dNil, dV, dM, dC, dp, dNext, dRet, dRetN, dLst, dTup, dDrop, dNot, dAnd, dOr, dAndV, dOrV, dNotV, intG, intG0, lenG, lenD, ixG, itemD, intCG, intOf, maxG, List.getElem?_cons_zero, List.getElem?_cons_succ, List.set_cons_zero, List.set_cons_succ, Option.some.injEq, B.isU, B.d, B.rd, exists_eq_left', exists_eq_left, exists_and_left, true_and, and_true, B.p.injEq, DD.D.bl.injEq, DD.D.int.injEq, List.cons.injEq, DD.PC, decide_eq_true_eq, and_assoc, Option.map_some, dLc, iAny, walked, wipeE, gN, dCall, dCallP, dCallF, eqG, neG, Bool.not_true, Bool.not_false, if_true, if_false, Bool.false_eq_true, reduceIte, List.append_nil, dCBK, addG, dM1, gT, gsCons, gsNil, iEnumD, dAsP, iR1, dPart, dNo, dSl, freB, lstD, List.all_cons, List.all_nil, litD, Bool.and_self, dReprPair, dDctN, itemD2, ixG2, keyD, lookD, strG2, dPar, bCons, bNil, dFor, List.zip_cons_cons, List.zip_nil_right, List.foldl_cons, List.foldl_nil, dApp, B.o.injEq, DD.D.lst.injEq, DD.D.tup.injEq, exists_eq', dDct0, B.u.injEq, sizeLine_eq, Nat.reduceLeDiff, Nat.reduceLT, Nat.zero_le, true_implies, slG, List.length_map, tupleG, seqD, listG, iR2, List.length_take, List.length_drop, List.length_append, DD.D.str.injEq, mulG, dAsg, dFld, lookF, dSetF, setF, dProp, dMeth, dMake, dMakeK, cxOf_K, dChain, notNG, isNG, isNon_non, isNon_bl, isNon_int, isNon_str, isNon_lst, isNon_tup, isNon_dct, isNon_ins, isNon_exc, dXv, reprG, DD.D.ins.injEq, DD.D.exc.injEq, cmpIG, neIG, clsD, Option.bind_some, B.s.injEq, if_true, if_false, dNeg, dLenSet, dIndex, dClrE, dAppE, dCallK, eqKG, sortedSG, dNL, dNR, slotD, eqL, neL, inL, isInX, ixL, itemX, getD', lenX, dLenN, dGet2, dPutN, ownS, setX, dRev, dClr, dPop, dPopAt, dExt, dAug, dDc, dLend, lendE, lend1, lentB, isLD, dDctT, dLenSetA, keyT, keyL, List.mem_cons, List.not_mem_nil, or_false, false_or, or_true, true_or, Nat.reduceEqDiff, decide_true, decide_false, Bool.or_true, Bool.true_or, Bool.false_or, Bool.or_false, Bool.and_true, Bool.true_and, reduceCtorEq, DD.D.dct.injEq, DD.D.dcT.injEq, dDctT0, nilG, nilL, List.isEmpty_nil, List.isEmpty_cons])
local macro_rules | `(tactic| simp only [zM, $xs,*]) => `(tactic| simp only [startD, List.map_cons, List.map_nil, List.length_cons, List.length_nil, Nat.reduceAdd, Nat.reduceSub, List.replicate, List.cons_append, List.nil_append, dSet, dIfS, dT, dOp, dCB, dCons, dNil, dV, dM, dC, dp, dNext, dRet, dRetN, dLst, dTup, dDrop, dNot, dAnd, dOr, dAndV, dOrV, dNotV, intG, intG0, lenG, lenD, ixG, itemD, intCG, intOf, maxG, List.getElem?_cons_zero, List.getElem?_cons_succ, List.set_cons_zero, List.set_cons_succ, Option.some.injEq, B.isU, B.d, B.rd, exists_eq_left', exists_eq_left, exists_and_left, true_and, and_true, B.p.injEq, DD.D.bl.injEq, DD.D.int.injEq, List.cons.injEq, DD.PC, decide_eq_true_eq, and_assoc, Option.map_some, dLc, iAny, walked, wipeE, gN, dCall, dCallP, dCallF, eqG, neG, Bool.not_true, Bool.not_false, if_true, if_false, Bool.false_eq_true, reduceIte, List.append_nil, dCBK, addG, dM1, gT, gsCons, gsNil, iEnumD, dAsP, iR1, dPart, dNo, dSl, freB, lstD, List.all_cons, List.all_nil, litD, Bool.and_self, dReprPair, dDctN, itemD2, ixG2, keyD, lookD, strG2, dPar, bCons, bNil, dFor, List.zip_cons_cons, List.zip_nil_right, List.foldl_cons, List.foldl_nil, dApp, B.o.injEq, DD.D.lst.injEq, DD.D.tup.injEq, exists_eq', dDct0, B.u.injEq, sizeLine_eq, Nat.reduceLeDiff, Nat.reduceLT, Nat.zero_le, true_implies, slG, List.length_map, tupleG, seqD, listG, iR2, List.length_take, List.length_drop, List.length_append, DD.D.str.injEq, mulG, dAsg, dFld, lookF, dSetF, setF, dProp, dMeth, dMake, dMakeK, cxOf_K, dChain, notNG, isNG, isNon_non, isNon_bl, isNon_int, isNon_str, isNon_lst, isNon_tup, isNon_dct, isNon_ins, isNon_exc, dXv, reprG, DD.D.ins.injEq, DD.D.exc.injEq, cmpIG, neIG, clsD, Option.bind_some, B.s.injEq, if_true, if_false, dNeg, dLenSet, dIndex, dClrE, dAppE, dCallK, eqKG, sortedSG, dNL, dNR, slotD, eqL, neL, inL, isInX, ixL, itemX, getD', lenX, dLenN, dGet2, dPutN, ownS, setX, dRev, dClr, dPop, dPopAt, dExt, dAug, dDc, dLend, lendE, lend1, lentB, isLD, dDctT, dLenSetA, keyT, keyL, List.mem_cons, List.not_mem_nil, or_false, false_or, or_true, true_or, Nat.reduceEqDiff, decide_true, decide_false, Bool.or_true, Bool.true_or, Bool.false_or, Bool.or_false, Bool.and_true, Bool.true_and, reduceCtorEq, DD.D.dct.injEq, DD.D.dcT.injEq, dDctT0, nilG, nilL, List.isEmpty_nil, List.isEmpty_cons, $xs,*])
section
variable {P : Program} {w : World} {K : PySem.W.Frag} {mg : Str → Option Value} {base : Heap}
abbrev s__law_draw : Stmt := topS 42
theorem sc__law_draw : FnScope ["_law_purse_here", "_law_many", "_law_drawn", "_law_turn", "_law_number"] ["_law_purse_here", "_law_many"] (defScope s__law_draw) := ⟨rfl, rfl, rfl, by decide +kernel, rfl, by decide +kernel, by decide +kernel⟩
/-- a draw: any number below k -/
def spdDraw : Spd := fun bs R _ => ∃ n k, bs = [.u true n, .p (.int k)] ∧ 0 < k ∧ k < 10 ^ 2000 ∧ n < 10 ^ 6 ∧ ∀ d, 0 ≤ d → d < k → R (.p (.int d)) (n + 1)
theorem cal_draw (D : DefAt K mg "_law_draw" s__law_draw) (mi : mg "int" = none) : Cal P w K mg base "_law_draw" 1 ["_law_purse_here", "_law_many"] spdDraw := by
  obtain ⟨f, fd, F, hm⟩ := D.ex
  refine ⟨f, fd, gn_of F sc__law_draw (fun vs H Q E h => ?_) (fun cdv A outer s H vs Q E hg hr h => ?_), hm, F.kp, F.binds fun _ _ _ _ _ _ us hl => match us, hl with | [_, _], _ => rfl⟩
  · obtain ⟨F0, P0, bs, R, ED, _, ra, _, ⟨n, k, rfl, _⟩, _⟩ := h
    rw [← Paired.length ra]
    rfl
  · obtain ⟨F0, P0, bs, R, ED, fh, ra, hP, ⟨n, k, rfl, k0, kb, nb, q⟩, hQ, _⟩ := h
    have nd := sc__law_draw.nd
    have cI : ∀ {X : Cx}, CallR X (.type "int") (fun xs H Q => (∃ i, xs = [.int i] ∧ Q (.int i) H) ∨ ∃ k, xs = [.bl k] ∧ Q (.int (if k then 1 else 0)) H) := call_int1
    have px0 := fun (X : Cx) (e : Expr) => trivial
    refine ⟨_, pss_cons (ps_if (pt_cmpR op_gt (pe_ix ix_seq (pv 0) pe_int fun _ _ => rfl) pe_int rfl)
        (pss_cons (ps_set (i := 2) nd rfl (.inl rfl) (pe_op op_mod (pe_callTy call_int1 (by exact rfl) mi bt_int (pa_cons (pe_ix ix_seq (pv 0) pe_int fun _ _ => rfl) pa_nil)) (pv 1)))
          (pss_cons (ps_asg (pe_op op_fdivW (pe_ix ix_seq (pv 0) pe_int fun _ _ => rfl) (pv 1)) (pg_sub (pv 0) pe_int set_list))
            (pss_one (ps_ret (pv 2))))) pss_nil)
      (pss_cons (ps_set (i := 3) nd rfl (.inl rfl) (pe_op op_add (pe_ix ix_seq (pv 0) pe_int fun _ _ => rfl) pe_int))
      (pss_cons (ps_asg (pv 3) (pg_sub (pv 0) pe_int set_list))
      (pss_cons (ps_set (i := 4) nd rfl (.inl rfl) (pe_op op_mod (pe_callTy call_int1 (by exact rfl) mi bt_int (pa_cons (pe_op op_mulW (pe_op op_add (pe_ix ix_seq (pv 0) pe_int fun _ _ => rfl) (pe_op op_mulW pe_int (pv 3))) (pe_op op_add (pe_op op_mulW (pv 3) (pv 3)) pe_int)) pa_nil)) pe_int))
      (pss_cons (ps_set (i := 4) nd rfl (.inl rfl) (pe_op op_mod (pe_callTy call_int1 (by exact rfl) mi bt_int (pa_cons (pe_op op_add (pe_op op_mulW (pv 4) (pv 4)) (pv 3)) pa_nil)) pe_int))
      (pss_one (ps_ret (pe_op op_mod (pe_op op_fdivW (pe_op op_mod (pe_callTy call_int1 (by exact rfl) mi bt_int (pa_cons (pe_op op_mulW (pv 4) pe_int) pa_nil)) pe_int) pe_int) (pv 1)))))))), ?_⟩
    cases ra with
    | cons r0 rr =>
    cases rr with
    | cons r1 rr =>
    cases rr
    obtain ⟨_, p, x, y, z, rfl, rfl, hF, hH, hx0, hx1, hy0, hy1, hz0, hz1⟩ := r0
    have e1 := rpInt (K := K) (F := F0) r1
    subst e1
    -- what the draw leaves
    have fin : ∀ (x' z' d : Int), 0 ≤ x' → x' < 10 ^ 400 → 0 ≤ z' → z' ≤ (n + 1 : Nat) → 0 ≤ d → d < k → Q (.int d) (upd H p (.lst [.int x', .int y, .int z'])) := by
      intro x' z' d h1 h2 h3 h4 h5 h6
      refine hQ (.int d) _ F0 (.p (.int d)) (n + 1) ⟨Same.refl F0, fun a o e => ?_, fun a o e ne => ?_, fun a o e => .inl e, fun a e => ?_⟩ (by show Rp K F0 (.int d) (.int d); unfold Rp; rfl) (q d h5 h6)
      · rw [upd_ne (fun z => by rw [z, hF] at e; cases e)]
        exact fh a o e
      · rw [upd_ne (fun z => ne (by rw [z]))]
        exact e
      · cases e
        exact ⟨hF, x', y, z', upd_same, h1, h2, hy0, hy1, h3, h4⟩
    have hS : SqL K H p [.int x, .int y, .int z] := .of hH
    have i0 : ∀ {H' : Hp} {a b c : V} {Z : VK}, SqL K H' p [a, b, c] → Z a H' → rIx K (.ref p) (.int 0) H' Z := fun hs q => .inl ⟨p, _, 0, _, rfl, rfl, hs, rfl, q⟩
    have i1 : ∀ {H' : Hp} {a b c : V} {Z : VK}, SqL K H' p [a, b, c] → Z b H' → rIx K (.ref p) (.int 1) H' Z := fun hs q => .inl ⟨p, _, 1, _, rfl, rfl, hs, rfl, q⟩
    have i2 : ∀ {H' : Hp} {a b c : V} {Z : VK}, SqL K H' p [a, b, c] → Z c H' → rIx K (.ref p) (.int 2) H' Z := fun hs q => .inl ⟨p, _, 2, _, rfl, rfl, hs, rfl, q⟩
    have kn : k.natAbs < 2 ^ 8000 := by
      have : (10 : Int) ^ 2000 < 2 ^ 8000 := by decide +kernel
      omega
    refine ⟨.ref p, rfl, i0 hS ⟨x, 0, rfl, rfl, decide (0 < x), rfl, ?_⟩⟩
    refine ite2 (fun hx => ?_) (fun hx => ?_)
    · refine ⟨.ref p, rfl, i0 hS (.inl ⟨x, rfl, .int k, rfl, x, k, rfl, rfl, k0, ?_⟩)⟩
      refine ⟨.ref p, rfl, i0 hS ⟨.int k, rfl, x, k, rfl, rfl, wide_div k0 kn (by decide) (by decide), .ref p, rfl, p, _, 0, 0, rfl, rfl, hH, rfl, ?_⟩⟩
      refine ⟨.int (x % k), rfl, fin (x / k) z (x % k) (Int.ediv_nonneg hx0 (Int.le_of_lt k0)) (Int.lt_of_le_of_lt (Int.ediv_le_self _ hx0) hx1) hz0 (by omega) (Int.emod_nonneg _ (by omega)) (Int.emod_lt_of_pos _ k0)⟩
    · have zb : z + 1 < 2 ^ 32 := by omega
      refine ⟨.ref p, rfl, i2 hS ⟨z, 1, rfl, rfl, ?_⟩⟩
      refine ⟨.int (z + 1), rfl, .ref p, rfl, p, _, 2, 2, rfl, rfl, hH, rfl, ?_⟩
      have hS2 : SqL K (upd H p (.lst [.int x, .int y, .int (z + 1)])) p [.int x, .int y, .int (z + 1)] := .of upd_same
      refine ⟨.ref p, rfl, i1 hS2 ⟨.int (z + 1), rfl, 104729, z + 1, rfl, rfl, ?_, y, _, rfl, rfl, .int (z + 1), rfl, .int (z + 1), rfl, z + 1, z + 1, rfl, rfl, ?_, _, 7919, rfl, rfl, _, _, rfl, rfl, ?_, .inl ⟨_, rfl, _, _, rfl, rfl, (by show (0 : Int) < 2147483629; decide), ?_⟩⟩⟩
      · exact wide_mul (a := 20) (b := 40) (by decide) (by omega) (by decide) (by decide) (by decide)
      · exact wide_mul (a := 40) (b := 40) (by omega) (by omega) (by decide) (by decide) (by decide)
      · exact wide_mul (a := 60) (b := 90) (by omega) (by
          have h1 : (z + 1).natAbs * (z + 1).natAbs ≤ 2 ^ 32 * 2 ^ 32 := Nat.mul_le_mul (by omega) (by omega)
          have h2 : ((z + 1) * (z + 1)).natAbs = (z + 1).natAbs * (z + 1).natAbs := Int.natAbs_mul _ _
          omega) (by decide) (by decide) (by decide)
      · have bd : ∀ i : Int, 0 ≤ i % 2147483629 ∧ i % 2147483629 < 2147483629 := fun i => ⟨Int.emod_nonneg _ (by decide), Int.emod_lt_of_pos _ (by decide)⟩
        have bd2 : ∀ i : Int, 0 ≤ i % 2147483587 ∧ i % 2147483587 < 2147483587 := fun i => ⟨Int.emod_nonneg _ (by decide), Int.emod_lt_of_pos _ (by decide)⟩
        dsimp only
        generalize (y + 104729 * (z + 1)) * ((z + 1) * (z + 1) + 7919) = N1
        obtain ⟨u1, u2⟩ := bd N1
        generalize N1 % 2147483629 = N2 at u1 u2
        refine ⟨.int N2, rfl, .int N2, rfl, N2, N2, rfl, rfl, wide_mul (a := 40) (b := 40) (by omega) (by omega) (by decide) (by decide) (by decide), .int (z + 1), rfl, N2 * N2, z + 1, rfl, rfl, .inl ⟨_, rfl, _, _, rfl, rfl, (by show (0 : Int) < 2147483587; decide), ?_⟩⟩
        dsimp only
        obtain ⟨v1, v2⟩ := bd2 (N2 * N2 + (z + 1))
        generalize (N2 * N2 + (z + 1)) % 2147483587 = N3 at v1 v2
        refine ⟨.int N3, rfl, N3, 48271, rfl, rfl, wide_mul (a := 40) (b := 20) (by omega) (by decide) (by decide) (by decide) (by decide), .inl ⟨_, rfl, N3 * 48271, 2147483647, rfl, rfl, (by show (0 : Int) < 2147483647; decide), _, 64, rfl, rfl, wide_div (b := 10) (by decide) (by decide) (by decide) (by decide), .int k, rfl, _, k, rfl, rfl, k0, ?_⟩⟩
        exact fin x (z + 1) _ hx0 hx1 (by omega) (by omega) (Int.emod_nonneg _ (by omega)) (Int.emod_lt_of_pos _ k0)


abbrev s__law_purse : Stmt := topS 41
theorem sc__law_purse : FnScope ["_law_script", "_law_at", "_law_cell"] ["_law_script", "_law_at"] (defScope s__law_purse) := ⟨rfl, rfl, rfl, by decide +kernel, rfl, by decide +kernel, by decide +kernel⟩
def spdPurse : Spd := fun bs R _ => ∃ (ns : List Int) (j : Nat), bs = [.p (.scr ns), .p (.int j)] ∧ ∀ x y : Int, 0 ≤ x → x < 10 ^ 400 → 0 ≤ y → y < 2147483629 → R (.o (.lst [.int x, .int y, .int 0])) 0
theorem cal_purse (Da : DefAt K mg "_law_purse" s__law_purse) (mi : mg "int" = none) (ml : mg "len" = none) (mm : mg "max" = none) : Cal P w K mg base "_law_purse" 1 ["_law_script", "_law_at"] spdPurse := by
  refine cal_mk none Da sc__law_purse (fun _ _ _ _ _ _ us hl => match us, hl with | [_, _], _ => rfl) (fun bs R E h => ?_) (fun bs R E h => ?_) fun f cdv A outer s H E W bs R ED hg hr te h fh => ?_
  · obtain ⟨ns, j, rfl, _⟩ := h
    rfl
  · obtain ⟨ns, j, rfl, _⟩ := h
    exact pur_none (by simp [B.own])
  · obtain ⟨ns, j, rfl, q⟩ := h
    have nd := sc__law_purse.nd
    refine ⟨_, dss_cons (ds_set (i := 2) nd rfl (.inl rfl) de_int)
      (dss_cons (ds_if (dt_cmp op_lt rd_intB0 (de_v 1) (de_callB cr_lenAll rc_len (by exact rfl) ml bt_len (da_cons (de_v 0) da_nil)) rfl)
          (dss_one (ds_set (i := 2) nd rfl (.inl rfl) (de_ix (de_v 0) (de_v 1) fun _ _ => rfl))) dss_nil)
      (dss_one (ds_ret (de_lst (da_cons (de_op op_mod rd_intI (de_callTy call_int1 rc_int (by exact rfl) mi bt_int (da_cons (de_callB (call_max2 rfl) rc_max (by exact rfl) mm bt_max (da_cons (de_op op_sub rd_intI0 (de_v 2) (de_op op_powW rd_intI de_int de_int)) (da_cons de_int da_nil))) da_nil)) (de_op op_powW rd_intI (de_op op_powW rd_intI de_int de_int) de_int))
        (da_cons (de_op op_mod rd_intI (de_callTy call_int1 rc_int (by exact rfl) mi bt_int (da_cons (de_v 2) da_nil)) de_int) (da_cons de_int da_nil))))))), ?_⟩
    have c1 : CPowW 10 18 := ⟨by decide, by decide +kernel⟩
    have c2 : CPowW 10 40 := ⟨by decide, by decide +kernel⟩
    have c3 : CPowW (10 ^ Int.toNat 40) 10 := ⟨by decide, by decide +kernel⟩
    have fin : ∀ a b : Int, R (.o (.lst [.int (a % (10 ^ Int.toNat 40) ^ Int.toNat 10), .int (b % 2147483629), .int 0])) 0 := fun a b => by
      refine q _ _ (Int.emod_nonneg _ (by decide +kernel)) ?_ (Int.emod_nonneg _ (by decide)) (Int.emod_lt_of_pos _ (by decide))
      have e : ((10 : Int) ^ Int.toNat 40) ^ Int.toNat 10 = 10 ^ 400 := by decide +kernel
      rw [e]
      exact Int.emod_lt_of_pos _ (by decide +kernel)
    by_cases hj : j < ns.length
    · have hg : atI ns (j : Int) = some ns[j] := atI_nat (List.getElem?_eq_getElem hj)
      simp only [startD, List.map_cons, List.map_nil, List.length_cons, List.length_nil, Nat.reduceAdd, Nat.reduceSub, List.replicate, List.cons_append, List.nil_append, dSeq, dSet, dIfS, dT, dOp, dCB, dCons, dNil, dV, dC, dp, dNext, dRet, dLst, intG, intG0, lenG, lenD, ixG, itemD, intCG, intOf, maxG, List.getElem?_cons_zero, List.getElem?_cons_succ, List.set_cons_zero, List.set_cons_succ, Option.some.injEq, B.isU, B.d, B.rd, exists_eq_left', exists_eq_left, exists_and_left, true_and, and_true, B.p.injEq, DD.D.bl.injEq, DD.D.int.injEq, List.cons.injEq, DD.PC, decide_eq_true_eq, and_assoc, Option.map_some, hg, if_pos (show (j : Int) < (ns.length : Int) by omega)]
      exact ⟨c1, c2, c3, by decide +kernel, by decide, by decide, 0, fin _ _⟩
    · simp only [startD, List.map_cons, List.map_nil, List.length_cons, List.length_nil, Nat.reduceAdd, Nat.reduceSub, List.replicate, List.cons_append, List.nil_append, dSeq, dSet, dIfS, dT, dOp, dCB, dCons, dNil, dV, dC, dp, dNext, dRet, dLst, intG, intG0, lenG, lenD, ixG, itemD, intCG, intOf, maxG, List.getElem?_cons_zero, List.getElem?_cons_succ, List.set_cons_zero, List.set_cons_succ, Option.some.injEq, B.isU, B.d, B.rd, exists_eq_left', exists_eq_left, exists_and_left, true_and, and_true, B.p.injEq, DD.D.bl.injEq, DD.D.int.injEq, List.cons.injEq, DD.PC, decide_eq_true_eq, and_assoc, Option.map_some, if_neg (show ¬ (j : Int) < (ns.length : Int) by omega)]
      exact ⟨c1, c2, c3, by decide +kernel, by decide, by decide, 0, fin _ _⟩


structure TableOk (most : Nat) (rs : List MRow) (acc : List Nat) : Prop where
  ok : RowsOk rs
  le : rs.length ≤ most
  nd : acc.Nodup
  lt : ∀ a ∈ acc, a < rs.length
theorem int_nat {i : Int} (h : 0 ≤ i) : ∃ n : Nat, i = (n : Int) := ⟨i.toNat, (Int.toNat_of_nonneg h).symm⟩
theorem len_snoc {α : Type} {l : List α} {a : α} : (l ++ [a]).length = l.length + 1 := by rw [List.length_append, List.length_singleton]
theorem len_pre {α : Type} {l p r : List α} {a : α} (e : l = p ++ a :: r) : p.length < l.length := by
  rw [e, List.length_append, List.length_cons]
  omega
theorem upto_at {n : Nat} {p r : List D} {d : D} (e : upto 0 n = p ++ d :: r) : d = .int (p.length : Nat) ∧ p.length < n := by
  rw [upto_map] at e
  have h := congrArg (fun l => l[p.length]?) e
  have hl := len_pre e
  rw [List.length_map, List.length_range] at hl
  rw [List.getElem?_append_right (Nat.le_refl _), Nat.sub_self, List.getElem?_cons_zero, List.getElem?_map, List.getElem?_range hl] at h
  exact ⟨(Option.some.inj h).symm, hl⟩
theorem flat_iD {as : List Nat} : (as.map iD).all flatD = true := List.all_eq_true.mpr fun d hd => by
  obtain ⟨a, _, rfl⟩ := List.mem_map.mp hd
  rfl
theorem inD_nat {n : Nat} {as : List Nat} : (if (flatD (.int (n : Nat)) && (as.map iD).all flatD) = true then some (inD (.int (n : Nat)) (as.map iD)) else none) = some (decide (n ∈ as)) := by
  rw [flat_iD, if_pos (show (flatD (.int (n : Nat)) && true) = true from rfl)]
  congr 1
  unfold inD inV
  rw [Bool.eq_iff_iff, decide_eq_true_eq, List.any_eq_true]
  constructor
  · rintro ⟨v, hv, h⟩
    obtain ⟨d, hd, rfl⟩ := List.mem_map.mp hv
    obtain ⟨a, ha, rfl⟩ := List.mem_map.mp hd
    have h : ((a : Int) == (n : Int)) = true := h
    have := Int.ofNat_inj.mp (eq_of_beq h)
    rw [← this]
    exact ha
  · intro h
    exact ⟨.int (n : Nat), List.mem_map.mpr ⟨iD n, List.mem_map.mpr ⟨n, h, rfl⟩, rfl⟩, (show ((n : Int) == (n : Int)) = true from beq_self_eq_true _)⟩
theorem upto_ln {n : Nat} : (upto 0 n).length = n := by rw [upto_map, List.length_map, List.length_range]

abbrev s__law_table : Stmt := topS 43
theorem sc__law_table : FnScope ["_law_purse_here", "_law_most", "_law_many", "_law_chain", "_law_rows", "_law_state", "_law_row", "_law_mark", "_law_rare", "_law_accepting"] ["_law_purse_here", "_law_most"] (defScope s__law_table) := ⟨rfl, rfl, rfl, by decide +kernel, rfl, by decide +kernel, by decide +kernel⟩
def spd__law_table  : Spd := fun bs R _ => ∃ (n most : Nat), bs = [.u true n, .p (.int (most : Nat))] ∧ 1 ≤ most ∧ most ≤ 60 ∧ n ≤ 900000 ∧ ∀ rs acc m, TableOk most rs acc → n ≤ m → m ≤ n + 400 → R (.p (.tup [.lst (rs.map rowD), .lst (acc.map iD)])) m
theorem cal__law_table (Da : DefAt K mg "_law_table" s__law_table) (c__law_draw : Cal P w K mg base "_law_draw" 1 ["_law_purse_here", "_law_many"] spdDraw) (m_range : mg "range" = none) (m_int : mg "int" = none) : Cal P w K mg base "_law_table" 3 ["_law_purse_here", "_law_most"] spd__law_table := by
  refine cal_mk (some 0) Da sc__law_table (fun _ _ _ _ _ _ us hl => match us, hl with | [_, _], _ => rfl) (fun bs R E h => ?_) (fun bs R E h => ?_) fun f cdv A outer s H E W bs R ED gu hr te h fh => ?_
  · obtain ⟨n, most, rfl, h1, h60, hn, q⟩ := h
    rfl
  · obtain ⟨n, most, rfl, h1, h60, hn, q⟩ := h
    exact pur_zero (by simp [B.own])
  · obtain ⟨n, most, rfl, h1, h60, hn, q⟩ := h
    have nd := sc__law_table.nd
    have hu := hr.units
    have ps := passes_of (X := cxOf (L2.CX P w) P w K mg base ["_law_purse_here", "_law_most", "_law_many", "_law_chain", "_law_rows", "_law_state", "_law_row", "_law_mark", "_law_rare", "_law_accepting"] "_law_table" (defScope s__law_table) f cdv A outer s H E) rfl
    refine ⟨_, (dss_cons (ds_set (i := 2) nd rfl (by first | exact Or.inl rfl | exact Or.inr rfl) (de_op op_addAll rd_add de_int (de_cP c__law_draw gu hr (i := 0) rfl (da_cons (de_v 1) da_nil)))) (dss_cons (ds_set (i := 3) nd rfl (by first | exact Or.inl rfl | exact Or.inr rfl) (de_cP c__law_draw gu hr (i := 0) rfl (da_cons de_int da_nil))) (dss_cons (ds_set (i := 4) nd rfl (by first | exact Or.inl rfl | exact Or.inr rfl) (de_lst da_nil)) (dss_cons (ds_forR ps rfl (di_range1 rfl m_range (da_cons (de_v 2) da_nil)) (dg_name (i := 5) nd rfl (by first | exact Or.inl rfl | exact Or.inr rfl)) (dss_cons (ds_setLc (i := 6) rfl nd rfl rfl rfl (DI0.di (di_range1 rfl m_range (da_cons de_int da_nil))) (own := [("_law_mark", 7)]) (blkOk_by (by kernel_rfl)) (fun _ _ _ _ _ _ => (dgc_name (i := 7) (by decide) nd rfl (by first | exact Or.inl rfl | exact Or.inr rfl))) (fun _ _ _ _ _ _ => dts_nil) (fun _ _ _ _ _ _ => (de_cP c__law_draw gu hr (i := 0) rfl (da_cons (de_v 2) da_nil)))) (dss_cons (ds_if (dt_cmpL 3 (op_eqAll hu) rl_eq de_int) (dss_one (ds_putN 6 hu (de_op op_mod rd_intI (de_callTy call_int1 rc_int rfl m_int bt_int (da_cons (de_op op_addAll rd_add (de_v 5) de_int) da_nil)) (de_v 2)) (de_cP c__law_draw gu hr (i := 0) rfl (da_cons de_int da_nil)))) dss_nil) (dss_one (ds_append (i := 4) rfl (by first | exact Or.inl rfl | exact Or.inr (Or.inl rfl)) (de_tup (da_cons (de_ixN 6 hu de_int (fun _ _ => rfl)) (da_cons (de_ixN 6 hu de_int (fun _ _ => rfl)) (da_cons (de_ixN 6 hu de_int (fun _ _ => rfl)) da_nil)))) (hpe := fun ta h => pe_bm PySem.F.plainAttrs_list PySem.F.slot_list_append PySem.F.type_list_append mt_append (pv 4) (pa_cons h pa_nil))))))) (dss_cons (ds_set (i := 8) nd rfl (by first | exact Or.inl rfl | exact Or.inr rfl) (de_op op_addAll rd_add de_int (de_op op_mulAll rd_mul de_int (de_v 3)))) (dss_cons (ds_setLc (i := 9) rfl nd rfl rfl rfl (DI0.di (di_range1 rfl m_range (da_cons (de_v 2) da_nil))) (own := [("_law_state", 5)]) (blkOk_by (by kernel_rfl)) (fun _ _ _ _ _ _ => (dgc_name (i := 5) (by decide) nd rfl (by first | exact Or.inl rfl | exact Or.inr rfl))) (fun _ _ _ _ _ _ => (dts_one (dt_cmp (op_eqAll hu) rd_eq (de_cP c__law_draw gu hr (i := 0) rfl (da_cons (de_v 8) da_nil)) de_int rfl))) (fun _ _ _ _ _ _ => (de_v 5))) (dss_cons (ds_if (DW.dt (dw_and (dt_cmpL 3 (op_eqAll hu) rl_eq de_int) (dw_and1 (dt_cmpR 9 (op_notInX hu) rl_in (de_op op_sub rd_intI0 (de_v 2) de_int))))) (dss_one (ds_append (i := 9) rfl (by first | exact Or.inl rfl | exact Or.inr (Or.inl rfl)) (de_op op_sub rd_intI0 (de_v 2) de_int) (hpe := fun ta h => pe_bm PySem.F.plainAttrs_list PySem.F.slot_list_append PySem.F.type_list_append mt_append (pv 9) (pa_cons h pa_nil)))) dss_nil) (dss_one (ds_ret (de_tup (da_cons (de_v 4) (da_cons (de_v 9) da_nil)))))))))))), ?_⟩
    refine dseq ?_
    simp only [zM]
    refine ⟨n, (most : Int), rfl, by omega, by omega, by omega, fun d d0 d1 => ?_⟩
    simp only [zM]
    obtain ⟨d, rfl⟩ := int_nat d0
    have hN : (1 : Int) + (d : Int) = ((d + 1 : Nat) : Int) := by omega
    rw [hN]
    have hle : d + 1 ≤ most := by omega
    generalize d + 1 = N at hle hN
    refine dseq ?_
    simp only [zM]
    refine ⟨n + 1, 2, rfl, by decide, by decide, by omega, fun c c0 c1 => ?_⟩
    simp only [zM]
    refine dseq ?_
    simp only [zM]
    refine dseq ?_
    simp only [zM]
    refine ⟨by omega, by omega, ?_⟩
    rw [Int.toNat_natCast]
    refine forL_ds (fun p δ => ∃ (rs : List MRow) (m : Nat) (x5 x6 : Option B), rs.length = p.length ∧ (∀ r ∈ rs, r.1 < N ∧ r.2.1 < N ∧ r.2.2 < N) ∧ n + 2 ≤ m ∧ m ≤ n + 2 + 4 * p.length ∧ δ = [some (.u true m), some (.p (.int (most : Nat))), some (.p (.int (N : Nat))), some (.p (.int c)), some (.o (.lst (rs.map rowD))), x5, x6, none, none, none]) (fun p d r δ e hI M hM => ?_) (fun δ hI => ?_) ⟨[], n + 2, none, none, rfl, fun _ h => (by cases h), by omega, by omega, rfl⟩
    · obtain ⟨rs, m, x5, x6, hl, hr, m0, m1, rfl⟩ := hI
      obtain ⟨rfl, hp⟩ := upto_at e
      simp only [zM]
      refine dseq ?_
      simp only [zM]
      refine ⟨by decide, by decide, ?_⟩
      refine lcL_pre (fun q acc δ => ∃ (as : List Nat), acc = as.map iD ∧ as.length = q.length ∧ q.length ≤ 3 ∧ (∀ a ∈ as, a < N) ∧ δ = [some (.u true (m + q.length)), some (.p (.int (most : Nat))), some (.p (.int (N : Nat))), some (.p (.int c)), some (.o (.lst (rs.map rowD))), some (.p (.int (p.length : Nat))), x6, none, none, none]) (fun q acc δ hI => ?_) (pre := []) (fun q d r acc δ e hI Y M' hY _ => ?_) (fun acc δ hI => ?_) ⟨[], rfl, rfl, by decide, fun _ h => (by cases h), rfl⟩
      · obtain ⟨as, rfl, h1, h2, _⟩ := hI
        rw [List.length_map, sizeLine_eq]
        omega
      · obtain ⟨as, rfl, h1, h2, h3, rfl⟩ := hI
        have hl := congrArg List.length e
        rw [List.nil_append, List.length_append, List.length_cons, upto_len] at hl
        have hl : 3 = q.length + (r.length + 1) := hl
        simp only [zM, dYes]
        refine ⟨_, _, rfl, by omega, by omega, by omega, fun a a0 a1 => ?_⟩
        obtain ⟨a, rfl⟩ := int_nat a0
        refine ⟨rfl, rfl, hY (iD a) [some (.u true (m + q.length + 1)), some (.p (.int (most : Nat))), some (.p (.int (N : Nat))), some (.p (.int c)), some (.o (.lst (rs.map rowD))), some (.p (.int (p.length : Nat))), x6, some (.p d), none, none] ⟨as ++ [a], by rw [List.map_append]; rfl, by rw [len_snoc, len_snoc, h1], by rw [len_snoc]; omega, fun y hy => ?_, by rw [len_snoc]; rfl⟩⟩
        rcases List.mem_append.mp hy with z | z
        · exact h3 y z
        · rw [List.mem_singleton.mp z]
          omega
      · obtain ⟨as, rfl, h1, h2, h3, rfl⟩ := hI
        rw [List.nil_append] at h1 h2 ⊢
        rw [upto_len] at h1 h2 ⊢
        match as, h1, h3 with
        | [a, b, e3], _, h3 =>
          have ha : a < N := h3 a (by simp)
          have hb : b < N := h3 b (by simp)
          have he : e3 < N := h3 e3 (by simp)
          have ec : (((p.length : Nat) : Int) + 1) % (N : Int) = (((p.length + 1) % N : Nat) : Int) := by
            rw [Int.natCast_emod]
            rfl
          have hs : (p.length + 1) % N < N := Nat.mod_lt _ (by omega)
          have fin : ∀ (a b e3 : Nat) (m' : Nat), a < N → b < N → e3 < N → m ≤ m' → m' ≤ m + 4 → M [some (.u true m'), some (.p (.int (most : Nat))), some (.p (.int (N : Nat))), some (.p (.int c)), some (.o (.lst (rs.map rowD ++ [rowD (a, b, e3)]))), some (.p (.int (p.length : Nat))), some (.o (.lst [iD a, iD b, iD e3])), none, none, none] := fun a b e3 m' ha hb he z1 z2 => hM _ ⟨rs ++ [(a, b, e3)], m', _, _, by rw [len_snoc, len_snoc, hl], fun r hr' => (by
            rcases List.mem_append.mp hr' with z | z
            · exact hr r z
            · rw [List.mem_singleton.mp z]
              exact ⟨ha, hb, he⟩), by omega, by rw [len_snoc]; omega, by rw [List.map_append]; rfl⟩
          simp only [zM]
          refine dseq ?_
          simp only [zM]
          refine ⟨_, eqD_int, ?_⟩
          by_cases hc : c = 1
          · rw [decide_eq_true hc]
            refine iteT ⟨by omega, _, _, rfl, by decide, by decide, by omega, fun k k0 k1 => ?_⟩
            rw [ec]
            have hk : k = 0 ∨ k = 1 ∨ k = 2 := by omega
            rcases hk with rfl | rfl | rfl
            · exact ⟨rfl, rfl, _, rfl, _, rfl, _, rfl, _, rfl, by omega, fin _ _ _ _ hs hb he (by omega) (by omega)⟩
            · exact ⟨rfl, rfl, _, rfl, _, rfl, _, rfl, _, rfl, by omega, fin _ _ _ _ ha hs he (by omega) (by omega)⟩
            · exact ⟨rfl, rfl, _, rfl, _, rfl, _, rfl, _, rfl, by omega, fin _ _ _ _ ha hb hs (by omega) (by omega)⟩
          · rw [decide_eq_false hc]
            exact iteF ⟨_, rfl, _, rfl, _, rfl, by omega, fin _ _ _ _ ha hb he (by omega) (by omega)⟩
    · obtain ⟨rs, m, x5, x6, hl, hr, m0, m1, rfl⟩ := hI
      rw [upto_ln] at hl m1
      simp only [zM]
      refine dseq ?_
      simp only [zM]
      have hcm : CMulW 3 c := by
        rcases (show c = 0 ∨ c = 1 by omega) with rfl | rfl <;> (show _ < 1000000; decide)
      refine ⟨hcm, dseq ?_⟩
      simp only [zM]
      refine ⟨by omega, by omega, ?_⟩
      rw [Int.toNat_natCast]
      have hN0 : 0 < N := by omega
      refine lcL_pre (fun q acc δ => ∃ (as : List Nat), acc = as.map iD ∧ as.Nodup ∧ q.length ≤ N ∧ (∀ a ∈ as, a < q.length) ∧ as.length ≤ q.length ∧ δ = [some (.u true (m + q.length)), some (.p (.int (most : Nat))), some (.p (.int (N : Nat))), some (.p (.int c)), some (.o (.lst (rs.map rowD))), none, x6, none, some (.p (.int (2 + 3 * c))), none]) (fun q acc δ hI => ?_) (pre := []) (fun q d r acc δ e hI Y M' hY hM' => ?_) (fun acc δ hI => ?_) ⟨[], rfl, List.nodup_nil, by simp, fun _ h => (by cases h), Nat.le_refl _, rfl⟩
      · obtain ⟨as, rfl, h1, h2, h3, h4, _⟩ := hI
        rw [List.length_map, sizeLine_eq]
        omega
      · obtain ⟨as, rfl, h1, h2, h3, h4, rfl⟩ := hI
        rw [List.nil_append] at e
        obtain ⟨rfl, hq⟩ := upto_at e
        simp only [zM]
        refine ⟨_, _, rfl, by omega, by omega, by omega, fun a a0 a1 => ⟨rfl, rfl, _, eqD_int, ?_⟩⟩
        by_cases ha : a = 0
        · rw [decide_eq_true ha]
          refine iteT (hY _ _ ⟨as ++ [q.length], by rw [List.map_append]; rfl, ?_, by rw [len_snoc]; omega, fun y hy => ?_, by rw [len_snoc, len_snoc]; omega, by rw [len_snoc]; rfl⟩)
          · exact List.nodup_append.mpr ⟨h1, List.nodup_cons.mpr ⟨List.not_mem_nil, List.nodup_nil⟩, fun a ha b hb z => by
              have := h3 a ha
              rw [List.mem_singleton.mp hb] at z
              omega⟩
          · rw [len_snoc]
            rcases List.mem_append.mp hy with z | z
            · have := h3 y z
              omega
            · rw [List.mem_singleton.mp z]
              omega
        · rw [decide_eq_false ha]
          exact iteF (hM' _ ⟨as, rfl, h1, by rw [len_snoc]; omega, fun y hy => by
            have := h3 y hy
            rw [len_snoc]
            omega, by rw [len_snoc]; omega, by rw [len_snoc]; rfl⟩)
      · obtain ⟨as, rfl, h1, h2, h3, h4, rfl⟩ := hI
        rw [List.nil_append, upto_ln] at h3 h4 ⊢
        simp only [zM]
        refine dseq ?_
        simp only [zM]
        have okr : RowsOk rs := ⟨by omega, by omega, fun r hr' => by
          rw [hl]
          exact hr r hr'⟩
        have tf : TableOk most rs as := ⟨okr, by omega, h1, fun a ha => by
          rw [hl]
          exact h3 a ha⟩
        refine ⟨_, eqD_int, ?_⟩
        have out := q rs as (m + N) tf (by omega) (by omega)
        by_cases hc : c = 1
        · rw [decide_eq_true hc]
          have eN : (N : Int) - 1 = ((N - 1 : Nat) : Int) := by omega
          rw [eN]
          refine iteT ⟨_, inD_nat, ?_⟩
          by_cases hm : N - 1 ∈ as
          · rw [decide_eq_true hm]
            exact iteF out
          · rw [decide_eq_false hm]
            refine iteT ⟨by omega, ?_⟩
            have tf2 : TableOk most rs (as ++ [N - 1]) := ⟨okr, by omega, List.nodup_append.mpr ⟨h1, List.nodup_cons.mpr ⟨List.not_mem_nil, List.nodup_nil⟩, fun a ha b hb z => hm (by rw [← List.mem_singleton.mp hb, ← z]; exact ha)⟩, fun a ha => by
              rw [hl]
              rcases List.mem_append.mp ha with z | z
              · exact h3 a z
              · rw [List.mem_singleton.mp z]
                omega⟩
            have out2 := q rs (as ++ [N - 1]) (m + N) tf2 (by omega) (by omega)
            rw [List.map_append] at out2
            exact out2
        · rw [decide_eq_false hc]
          exact iteF out
end
end K

set_option Elab.async false
set_option linter.all false
set_option maxRecDepth 100000
set_option maxHeartbeats 8000000
namespace K
open PySem PySem.Spec PyProof.Rows L2 DD
local macro_rules | `(tactic| simp only [zP]) => `(tactic| simp only [startD, List.map_cons, List.map_nil, List.length_cons, List.length_nil, Nat.reduceAdd, Nat.reduceSub, List.replicate, List.cons_append, List.nil_append, dSeq, dSet, dIfS, dT, dOp, dCB, dCons, dNil, dV, dM, dC, dp, dNext, dRet, dRetN, dLst, dTup, dDrop, dNot, dAnd, dOr, dAndV, dOrV, dNotV, intG, intG0, lenG, lenD, ixG, itemD, intCG, intOf, maxG, List.getElem?_cons_zero, List.getElem?_cons_succ, List.set_cons_zero, List.set_cons_succ, Option.some.injEq, B.isU, B.d, B.rd, exists_eq_left', exists_eq_left, exists_and_left, true_and, and_true, B.p.injEq, DD.D.bl.injEq, DD.D.int.injEq, List.cons.injEq, DD.PC, decide_eq_true_eq, and_assoc, Option.map_some, dLc, iAny, walked, wipeE, gN, dCall, dCallP, dCallF, eqG, neG, Bool.not_true, Bool.not_false, if_true, if_false, Bool.false_eq_true, reduceIte, List.append_nil, dCBK, addG, dM1, gT, gsCons, gsNil, iEnumD, dAsP, iR1, dPart, dNo, dSl, freB, lstD, List.all_cons, List.all_nil, litD, Bool.and_self, dReprPair, dDctN, itemD2, ixG2, keyD, lookD, strG2, dPar, bCons, bNil, dFor, List.zip_cons_cons, List.zip_nil_right, List.foldl_cons, List.foldl_nil, dApp, B.o.injEq, DD.D.lst.injEq, DD.D.tup.injEq, exists_eq', dDct0, B.u.injEq, sizeLine_eq, Nat.reduceLeDiff, Nat.reduceLT, Nat.zero_le, true_implies, slG, List.length_map, tupleG, seqD, listG, iR2, List.length_take, List.length_drop, List.length_append, DD.D.str.injEq, mulG, dAsg, dFld, lookF, dSetF, setF, dProp, dMeth, dMake, dMakeK, cxOf_K, dChain, notNG, isNG, isNon_non, isNon_bl, isNon_int, isNon_str, isNon_lst, isNon_tup, isNon_dct, isNon_ins, isNon_exc, dXv, reprG, DD.D.ins.injEq, DD.D.exc.injEq, cmpIG, neIG, clsD, Option.bind_some, B.s.injEq, if_true, if_false, dNeg, dLenSet, dIndex, dClrE, dAppE, dCallK, eqKG, sortedSG])
local macro_rules | `(tactic| simp only [zP, $xs,*]) => `(tactic| simp only [startD, List.map_cons, List.map_nil, List.length_cons, List.length_nil, Nat.reduceAdd, Nat.reduceSub, List.replicate, List.cons_append, List.nil_append, dSeq, dSet, dIfS, dT, dOp, dCB, dCons, dNil, dV, dM, dC, dp, dNext, dRet, dRetN, dLst, dTup, dDrop, dNot, dAnd, dOr, dAndV, dOrV, dNotV, intG, intG0, lenG, lenD, ixG, itemD, intCG, intOf, maxG, List.getElem?_cons_zero, List.getElem?_cons_succ, List.set_cons_zero, List.set_cons_succ, Option.some.injEq, B.isU, B.d, B.rd, exists_eq_left', exists_eq_left, exists_and_left, true_and, and_true, B.p.injEq, DD.D.bl.injEq, DD.D.int.injEq, List.cons.injEq, DD.PC, decide_eq_true_eq, and_assoc, Option.map_some, dLc, iAny, walked, wipeE, gN, dCall, dCallP, dCallF, eqG, neG, Bool.not_true, Bool.not_false, if_true, if_false, Bool.false_eq_true, reduceIte, List.append_nil, dCBK, addG, dM1, gT, gsCons, gsNil, iEnumD, dAsP, iR1, dPart, dNo, dSl, freB, lstD, List.all_cons, List.all_nil, litD, Bool.and_self, dReprPair, dDctN, itemD2, ixG2, keyD, lookD, strG2, dPar, bCons, bNil, dFor, List.zip_cons_cons, List.zip_nil_right, List.foldl_cons, List.foldl_nil, dApp, B.o.injEq, DD.D.lst.injEq, DD.D.tup.injEq, exists_eq', dDct0, B.u.injEq, sizeLine_eq, Nat.reduceLeDiff, Nat.reduceLT, Nat.zero_le, true_implies, slG, List.length_map, tupleG, seqD, listG, iR2, List.length_take, List.length_drop, List.length_append, DD.D.str.injEq, mulG, dAsg, dFld, lookF, dSetF, setF, dProp, dMeth, dMake, dMakeK, cxOf_K, dChain, notNG, isNG, isNon_non, isNon_bl, isNon_int, isNon_str, isNon_lst, isNon_tup, isNon_dct, isNon_ins, isNon_exc, dXv, reprG, DD.D.ins.injEq, DD.D.exc.injEq, cmpIG, neIG, clsD, Option.bind_some, B.s.injEq, if_true, if_false, dNeg, dLenSet, dIndex, dClrE, dAppE, dCallK, eqKG, sortedSG, $xs,*])
local macro_rules | `(tactic| simp only [zQ]) => `(tactic| simp only [startD, List.map_cons, List.map_nil, List.length_cons, List.length_nil, Nat.reduceAdd, Nat.reduceSub, List.replicate, List.cons_append, List.nil_append, dSet, dIfS, dT, dOp, dCB, dCons, dNil, dV, dM, dC, dp, dNext, dRet, dRetN, dLst, dTup, dDrop, dNot, dAnd, dOr, dAndV, dOrV, dNotV, intG, intG0, lenG, lenD, ixG, itemD, intCG, intOf, maxG, List.getElem?_cons_zero, List.getElem?_cons_succ, List.set_cons_zero, List.set_cons_succ, Option.some.injEq, B.isU, B.d, B.rd, exists_eq_left', exists_eq_left, exists_and_left, true_and, and_true, B.p.injEq, DD.D.bl.injEq, DD.D.int.injEq, List.cons.injEq, DD.PC, decide_eq_true_eq, and_assoc, Option.map_some, dLc, iAny, walked, wipeE, gN, dCall, dCallP, dCallF, eqG, neG, Bool.not_true, Bool.not_false, if_true, if_false, Bool.false_eq_true, reduceIte, List.append_nil, dCBK, addG, dM1, gT, gsCons, gsNil, iEnumD, dAsP, iR1, dPart, dNo, dSl, freB, lstD, List.all_cons, List.all_nil, litD, Bool.and_self, dReprPair, dDctN, itemD2, ixG2, keyD, lookD, strG2, dPar, bCons, bNil, dFor, List.zip_cons_cons, List.zip_nil_right, List.foldl_cons, List.foldl_nil, dApp, B.o.injEq, DD.D.lst.injEq, DD.D.tup.injEq, exists_eq', dDct0, B.u.injEq, sizeLine_eq, Nat.reduceLeDiff, Nat.reduceLT, Nat.zero_le, true_implies, slG, List.length_map, tupleG, seqD, listG, iR2, List.length_take, List.length_drop, List.length_append, DD.D.str.injEq, mulG, dAsg, dFld, lookF, dSetF, setF, dProp, dMeth, dMake, dMakeK, cxOf_K, dChain, notNG, isNG, isNon_non, isNon_bl, isNon_int, isNon_str, isNon_lst, isNon_tup, isNon_dct, isNon_ins, isNon_exc, dXv, reprG, DD.D.ins.injEq, DD.D.exc.injEq, cmpIG, neIG, clsD, Option.bind_some, B.s.injEq, if_true, if_false, dNeg, dLenSet, dIndex, dClrE, dAppE, dCallK, eqKG, sortedSG])
local macro_rules | `(tactic| simp only [zQ, $xs,*]) => `(tactic| simp only [startD, List.map_cons, List.map_nil, List.length_cons, List.length_nil, Nat.reduceAdd, Nat.reduceSub, List.replicate, List.cons_append, List.nil_append, dSet, dIfS, dT, dOp, dCB, dCons, dNil, dV, dM, dC, dp, dNext, dRet, dRetN, dLst, dTup, dDrop, dNot, dAnd, dOr, dAndV, dOrV, dNotV, intG, intG0, lenG, lenD, ixG, itemD, intCG, intOf, maxG, List.getElem?_cons_zero, List.getElem?_cons_succ, List.set_cons_zero, List.set_cons_succ, Option.some.injEq, B.isU, B.d, B.rd, exists_eq_left', exists_eq_left, exists_and_left, true_and, and_true, B.p.injEq, DD.D.bl.injEq, DD.D.int.injEq, List.cons.injEq, DD.PC, decide_eq_true_eq, and_assoc, Option.map_some, dLc, iAny, walked, wipeE, gN, dCall, dCallP, dCallF, eqG, neG, Bool.not_true, Bool.not_false, if_true, if_false, Bool.false_eq_true, reduceIte, List.append_nil, dCBK, addG, dM1, gT, gsCons, gsNil, iEnumD, dAsP, iR1, dPart, dNo, dSl, freB, lstD, List.all_cons, List.all_nil, litD, Bool.and_self, dReprPair, dDctN, itemD2, ixG2, keyD, lookD, strG2, dPar, bCons, bNil, dFor, List.zip_cons_cons, List.zip_nil_right, List.foldl_cons, List.foldl_nil, dApp, B.o.injEq, DD.D.lst.injEq, DD.D.tup.injEq, exists_eq', dDct0, B.u.injEq, sizeLine_eq, Nat.reduceLeDiff, Nat.reduceLT, Nat.zero_le, true_implies, slG, List.length_map, tupleG, seqD, listG, iR2, List.length_take, List.length_drop, List.length_append, DD.D.str.injEq, mulG, dAsg, dFld, lookF, dSetF, setF, dProp, dMeth, dMake, dMakeK, cxOf_K, dChain, notNG, isNG, isNon_non, isNon_bl, isNon_int, isNon_str, isNon_lst, isNon_tup, isNon_dct, isNon_ins, isNon_exc, dXv, reprG, DD.D.ins.injEq, DD.D.exc.injEq, cmpIG, neIG, clsD, Option.bind_some, B.s.injEq, if_true, if_false, dNeg, dLenSet, dIndex, dClrE, dAppE, dCallK, eqKG, sortedSG, $xs,*])
local macro_rules | `(tactic| simp only [zM]) => `(tactic| simp only [startD, List.map_cons, List.map_nil, List.length_cons, List.length_nil, Nat.reduceAdd, Nat.reduceSub, List.replicate, List.cons_append, List.nil_append, dSet, dIfS, dT, dOp, dCB, dCons, dNil, dV, dM, dC, dp, dNext, dRet, dRetN, dLst, dTup, dDrop, dNot, dAnd, dOr, dAndV, dOrV, dNotV, intG, intG0, lenG, lenD, ixG, itemD, intCG, intOf, maxG, List.getElem?_cons_zero, List.getElem?_cons_succ, List.set_cons_zero, List.set_cons_succ, Option.some.injEq, B.isU, B.d, B.rd, exists_eq_left', exists_eq_left, exists_and_left, true_and, and_true, B.p.injEq, DD.D.bl.injEq, DD.D.int.injEq, List.cons.injEq, DD.PC, decide_eq_true_eq, and_assoc, Option.map_some, dLc, iAny, walked, wipeE, gN, dCall, dCallP, dCallF, eqG, neG, Bool.not_true, Bool.not_false, if_true, if_false, Bool.false_eq_true, reduceIte, List.append_nil, dCBK, addG, dM1, gT, gsCons, gsNil, iEnumD, dAsP, iR1, dPart, dNo, dSl, freB, lstD, List.all_cons, List.all_nil, litD, Bool.and_self, dReprPair, dDctN, itemD2, ixG2, keyD, lookD, strG2, dPar, bCons, bNil, dFor, List.zip_cons_cons, List.zip_nil_right, List.foldl_cons, List.foldl_nil, dApp, B.o.injEq, DD.D.lst.injEq, DD.D.tup.injEq, exists_eq', dDct0, B.u.injEq, sizeLine_eq, Nat.reduceLeDiff, Nat.reduceLT, Nat.zero_le, true_implies, slG, List.length_map, tupleG, seqD, listG, iR2, List.length_take, List.length_drop, List.length_append, DD.D.str.injEq, mulG, dAsg, dFld, lookF, dSetF, setF, dProp, dMeth, dMake, dMakeK, cxOf_K, dChain, notNG, isNG, isNon_non, isNon_bl, isNon_int, isNon_str, isNon_lst, isNon_tup, isNon_dct, isNon_ins, isNon_exc, dXv, reprG, DD.D.ins.injEq, DD.D.exc.injEq, cmpIG, neIG, clsD, Option.bind_some, B.s.injEq, if_true, if_false, dNeg, dLenSet, dIndex, dClrE, dAppE, dCallK, eqKG, sortedSG, dNL, dNR, slotD, eqL, neL, inL, isInX, ixL, itemX, getD', lenX, dLenN, dGet2, dPutN, ownS, setX, dRev, dClr, dPop, dPopAt, dExt, dAug, dDc, dLend, lendE, lend1, lentB, isLD, dDctT, dLenSetA, keyT, keyL, List.mem_cons, List.not_mem_nil, or_false, false_or, or_true, true_or, Nat.reduceEqDiff, decide_true, decide_false, Bool.or_true, Bool.true_or, Bool.false_or, Bool.or_false, Bool.and_true, Bool.true_and, reduceCtorEq, DD.D.dct.injEq, DD.D.dcT.injEq, dDctT0, nilG, nilL, List.isEmpty_nil, List.isEmpty_cons])
local macro_rules | `(tactic| simp only [zM, $xs,*]) => `(tactic| simp only [startD, List.map_cons, List.map_nil, List.length_cons, List.length_nil, Nat.reduceAdd, Nat.reduceSub, List.replicate, List.cons_append, List.nil_append, dSet, dIfS, dT, dOp, dCB, dCons, dNil, dV, dM, dC, dp, dNext, dRet, dRetN, dLst, dTup, dDrop, dNot, dAnd, dOr, dAndV, dOrV, dNotV, intG, intG0, lenG, lenD, ixG, itemD, intCG, intOf, maxG, List.getElem?_cons_zero, List.getElem?_cons_succ, List.set_cons_zero, List.set_cons_succ, Option.some.injEq, B.isU, B.d, B.rd, exists_eq_left', exists_eq_left, exists_and_left, true_and, and_true, B.p.injEq, DD.D.bl.injEq, DD.D.int.injEq, List.cons.injEq, DD.PC, decide_eq_true_eq, and_assoc, Option.map_some, dLc, iAny, walked, wipeE, gN, dCall, dCallP, dCallF, eqG, neG, Bool.not_true, Bool.not_false, if_true, if_false, Bool.false_eq_true, reduceIte, List.append_nil, dCBK, addG, dM1, gT, gsCons, gsNil, iEnumD, dAsP, iR1, dPart, dNo, dSl, freB, lstD, List.all_cons, List.all_nil, litD, Bool.and_self, dReprPair, dDctN, itemD2, ixG2, keyD, lookD, strG2, dPar, bCons, bNil, dFor, List.zip_cons_cons, List.zip_nil_right, List.foldl_cons, List.foldl_nil, dApp, B.o.injEq, DD.D.lst.injEq, DD.D.tup.injEq, exists_eq', dDct0, B.u.injEq, sizeLine_eq, Nat.reduceLeDiff, Nat.reduceLT, Nat.zero_le, true_implies, slG, List.length_map, tupleG, seqD, listG, iR2, List.length_take, List.length_drop, List.length_append, DD.D.str.injEq, mulG, dAsg, dFld, lookF, dSetF, setF, dProp, dMeth, dMake, dMakeK, cxOf_K, dChain, notNG, isNG, isNon_non, isNon_bl, isNon_int, isNon_str, isNon_lst, isNon_tup, isNon_dct, isNon_ins, isNon_exc, dXv, reprG, DD.D.ins.injEq, DD.D.exc.injEq, cmpIG, neIG, clsD, Option.bind_some, B.s.injEq, if_true, if_false, dNeg, dLenSet, dIndex, dClrE, dAppE, dCallK, eqKG, sortedSG, dNL, dNR, slotD, eqL, neL, inL, isInX, ixL, itemX, getD', lenX, dLenN, dGet2, dPutN, ownS, setX, dRev, dClr, dPop, dPopAt, dExt, dAug, dDc, dLend, lendE, lend1, lentB, isLD, dDctT, dLenSetA, keyT, keyL, List.mem_cons, List.not_mem_nil, or_false, false_or, or_true, true_or, Nat.reduceEqDiff, decide_true, decide_false, Bool.or_true, Bool.true_or, Bool.false_or, Bool.or_false, Bool.and_true, Bool.true_and, reduceCtorEq, DD.D.dct.injEq, DD.D.dcT.injEq, dDctT0, nilG, nilL, List.isEmpty_nil, List.isEmpty_cons, $xs,*])
section
variable {P : Program} {w : World} {K : PySem.W.Frag} {mg : Str → Option Value} {base : Heap}
abbrev s__law_told : Stmt := topS 44
theorem sc__law_told : FnScope ["_law_pairs"] ["_law_pairs"] (defScope s__law_told) := ⟨rfl, rfl, rfl, by decide +kernel, rfl, by decide +kernel, by decide +kernel⟩
def spd__law_told (aP : Addr) : Spd := fun bs R _ => ∃ rs fl, bs = [.p (macD aP rs fl)] ∧ rs.length ≤ 3000 ∧ fl.length ≤ 3000 ∧ R (.p (.tup [.lst (rs.map rowD), .lst ((accOf fl).map iD)])) 0
theorem cal__law_told (Da : DefAt K mg "_law_told" s__law_told) {a_PairSet : Addr} (pr_PairSet_rows : PropC P w K mg base a_PairSet "rows" 1 (spd_PairSet_rows a_PairSet)) (pr_PairSet_accepting : PropC P w K mg base a_PairSet "accepting" 1 (spd_PairSet_accepting a_PairSet)) : Cal P w K mg base "_law_told" 3 ["_law_pairs"] (spd__law_told a_PairSet) := by
  refine cal_mk none Da sc__law_told (fun _ _ _ _ _ _ us hl => match us, hl with | [_], _ => rfl) (fun bs R E h => ?_) (fun bs R E h => ?_) fun f cdv A outer s H E W bs R ED gu hr te h fh => ?_
  · obtain ⟨rs, fl, rfl, l1, l2, q⟩ := h
    rfl
  · obtain ⟨rs, fl, rfl, l1, l2, q⟩ := h
    exact pur_none (by simp [B.own])
  · obtain ⟨rs, fl, rfl, l1, l2, q⟩ := h
    have nd := sc__law_told.nd
    have hu := hr.units
    refine ⟨_, (dss_one (ds_ret (de_tup (da_cons (de_prop pr_PairSet_rows gu hr (de_v 0)) (da_cons (de_prop pr_PairSet_accepting gu hr (de_v 0)) da_nil))))), ?_⟩
    simp only [zM]
    exact ⟨⟨_, _, rfl⟩, rs, fl, rfl, l1, rfl, rfl, ⟨_, _, rfl⟩, rs, fl, rfl, l2, rfl, rfl, 0, q⟩

def tabD (rs : List MRow) (acc : List Nat) : D := .tup [.lst (rs.map rowD), .lst (acc.map iD)]
def pD (x : PairN) : D := .tup [.int (x.1 : Nat), .int (x.2 : Nat)]
def kyP (x : PairN) : List Key := [ky x.1, ky x.2]
theorem kyP_inj {x y : PairN} (h : kyP x = kyP y) : x = y := by
  unfold kyP at h
  simp only [List.cons.injEq, and_true] at h
  exact Prod.ext (ky_inj h.1) (ky_inj h.2)
theorem kyP_mem {os : List PairN} {x : PairN} : kyP x ∈ os.map kyP ↔ x ∈ os := ⟨fun h => by
  obtain ⟨a, ha, e⟩ := List.mem_map.mp h
  rw [← kyP_inj e]
  exact ha, fun h => List.mem_map.mpr ⟨x, h, rfl⟩⟩
def idsD (n : Nat) : List D := (List.range n).map iD
theorem pl_get {os : List PairN} {x : PairN} (nd : os.Nodup) (h : x ∈ os) : lookG (os.map kyP) (idsD os.length) (kyP x) = some (iD (plP os x)) := by
  have hp := plP_at h
  have hl := (List.getElem?_eq_some_iff.mp hp).1
  refine lookG_at (i := plP os x) (nodup_mapOn nd fun a _ b _ e => kyP_inj e) ?_ ?_
  · rw [List.getElem?_map, hp]
    rfl
  · unfold idsD
    rw [List.getElem?_map, List.getElem?_range hl]
    rfl
theorem pl_no {os : List PairN} {x : PairN} (h : x ∉ os) : lookG (os.map kyP) (idsD os.length) (kyP x) = none := lookG_not fun z => h (kyP_mem.mp z)
theorem pl_put {os : List PairN} {x : PairN} (h : x ∉ os) : putG (os.map kyP) (idsD os.length) (kyP x) (iD os.length) = ((os ++ [x]).map kyP, idsD (os ++ [x]).length) := by
  rw [putG_new (fun z => h (kyP_mem.mp z)), List.map_append]
  unfold idsD
  rw [len_snoc, List.range_succ, List.map_append]
  rfl
theorem ids_len {n : Nat} : (idsD n).length = n := by
  unfold idsD
  rw [List.length_map, List.length_range]
theorem row_k {rs : List MRow} {q k : Nat} (h : k < 3) : atI [D.int ((rowAt rs q).1 : Nat), D.int ((rowAt rs q).2.1 : Nat), D.int ((rowAt rs q).2.2 : Nat)] (k : Nat) = some (.int (nxt rs q k : Nat)) := by
  match k, h with
  | 0, _ => rfl
  | 1, _ => rfl
  | 2, _ => rfl
theorem row_at {rs : List MRow} (ok : RowsOk rs) {q : Nat} (h : q < rs.length) : atI (rs.map rowD) (q : Nat) = some (rowD (rowAt rs q)) := atI_map (ok.at h).1
def wayB (way : Nat) (a b : Bool) : Bool := match way with
  | 0 => a && b
  | 1 => a || b
  | 2 => a && !b
  | _ => a != b
theorem at_0 {a : D} {l : List D} : atI (a :: l) 0 = some a := atI_nat (j := 0) rfl
theorem at_1 {a b : D} {l : List D} : atI (a :: b :: l) 1 = some b := atI_nat (j := 1) rfl
theorem inG_nat {n : Nat} {as : List Nat} {Q : B → Prop} : inG false (.int (n : Nat)) (.lst (as.map iD)) Q = Q (.p (.bl (decide (n ∈ as)))) := by
  unfold inG
  have h : isIn (.int (n : Nat)) (.lst (as.map iD)) = some (decide (n ∈ as)) := inD_nat
  rw [h]
  exact propext ⟨fun ⟨b, e, q⟩ => Option.some.inj e ▸ q, fun q => ⟨_, rfl, q⟩⟩
theorem eqD_bl {a b : Bool} : eqD (.bl a) (.bl b) = some (a == b) := by
  cases a <;> cases b <;> rfl
def jaccN (way : Nat) (os : List PairN) (a1 a2 : List Nat) (n : Nat) : List Nat := (List.range n).filter fun i => wayB way (decide ((os.getD i (0, 0)).1 ∈ a1)) (decide ((os.getD i (0, 0)).2 ∈ a2))
abbrev jacc (way : Nat) (os : List PairN) (a1 a2 : List Nat) : List Nat := jaccN way os a1 a2 os.length
theorem jacc_le {way : Nat} {os : List PairN} {a1 a2 : List Nat} {n : Nat} : (jaccN way os a1 a2 n).length ≤ n := by
  unfold jaccN
  exact Nat.le_trans (List.length_filter_le _ _) (Nat.le_of_eq List.length_range)
theorem jacc_succ {way : Nat} {os : List PairN} {a1 a2 : List Nat} {n : Nat} : jaccN way os a1 a2 (n + 1) = jaccN way os a1 a2 n ++ if wayB way (decide ((os.getD n (0, 0)).1 ∈ a1)) (decide ((os.getD n (0, 0)).2 ∈ a2)) = true then [n] else [] := by
  unfold jaccN
  rw [List.range_succ, List.filter_append]
  congr 1
  rw [List.filter_cons, List.filter_nil]
def jaccX (way : Nat) (os : List PairN) (a1 a2 : List Nat) : List Nat := (List.range os.length).filter fun i => wayB way (decide ((os.getD i (0, 0)).1 ∈ a1)) (decide ((os.getD i (0, 0)).2 ∈ a2))

abbrev s__law_joined : Stmt := topS 45
theorem sc__law_joined : FnScope ["_law_one", "_law_other", "_law_way", "_law_pairs", "_law_place", "_law_rows", "_law_first", "_law_second", "_law_row", "_law_k", "_law_pair", "_law_accepting", "_law_at", "_law_here", "_law_there"] ["_law_one", "_law_other", "_law_way"] (defScope s__law_joined) := ⟨rfl, rfl, rfl, by decide +kernel, rfl, by decide +kernel, by decide +kernel⟩
def spd__law_joined  : Spd := fun bs R _ => ∃ (r1 r2 : List MRow) (a1 a2 : List Nat) (way : Nat), bs = [.p (tabD r1 a1), .p (tabD r2 a2), .p (.int (way : Nat))] ∧ RowsOk r1 ∧ RowsOk r2 ∧ way < 4 ∧ r1.length * r2.length ≤ 1000000 ∧ a1.length ≤ 3001 ∧ a2.length ≤ 3001 ∧ ∀ os rows, Joined r1 r2 os rows → R (.p (tabD rows (jacc way os a1 a2))) 0
theorem cal__law_joined (Da : DefAt K mg "_law_joined" s__law_joined) (m_range : mg "range" = none) (m_len : mg "len" = none) : Cal P w K mg base "_law_joined" 3 ["_law_one", "_law_other", "_law_way"] spd__law_joined := by
  refine cal_mk none Da sc__law_joined (fun _ _ _ _ _ _ us hl => match us, hl with | [_, _, _], _ => rfl) (fun bs R E h => ?_) (fun bs R E h => ?_) fun f cdv A outer s H E W bs R ED gu hr te h fh => ?_
  · obtain ⟨r1, r2, a1, a2, way, rfl, ok1, ok2, hw, hb, l1, l2, q⟩ := h
    rfl
  · obtain ⟨r1, r2, a1, a2, way, rfl, ok1, ok2, hw, hb, l1, l2, q⟩ := h
    exact pur_none (by simp [B.own])
  · obtain ⟨r1, r2, a1, a2, way, rfl, ok1, ok2, hw, hb, l1, l2, q⟩ := h
    have nd := sc__law_joined.nd
    have hu := hr.units
    have ps := passes_of (X := cxOf (L2.CX P w) P w K mg base ["_law_one", "_law_other", "_law_way", "_law_pairs", "_law_place", "_law_rows", "_law_first", "_law_second", "_law_row", "_law_k", "_law_pair", "_law_accepting", "_law_at", "_law_here", "_law_there"] "_law_joined" (defScope s__law_joined) f cdv A outer s H E) rfl
    refine ⟨_, (dss_cons (ds_par3 (i := 3) (j := 4) (l := 5) rfl nd rfl rfl rfl (by decide) (by decide) (by decide) rfl rfl rfl (db_cons (fun _ => (de_lst (da_cons (de_tup (da_cons de_int (da_cons de_int da_nil))) da_nil))) (db_cons (fun _ => (de_dctT hu (fun _ => (de_tup (da_cons de_int (da_cons de_int da_nil)))) (fun _ => de_int))) (db_cons (fun _ => (de_lst da_nil)) db_nil))) rfl) (dss_cons (ds_while ps (dt_cmp op_lt rd_intB0 (de_lenN 5 m_len) (de_lenN 3 m_len) rfl) (dss_cons (ds_asg (de_ixN 3 hu (de_lenN 5 m_len) (fun _ _ => rfl)) (dg_tup (n := 2) rfl (dgs_cons (dg_name (i := 6) nd rfl (by first | exact Or.inl rfl | exact Or.inr rfl)) (dgs_cons (dg_name (i := 7) nd rfl (by first | exact Or.inl rfl | exact Or.inr rfl)) dgs_nil)))) (dss_cons (ds_set (i := 8) nd rfl (by first | exact Or.inl rfl | exact Or.inr rfl) (de_lst da_nil)) (dss_cons (ds_forR ps rfl (di_range1 rfl m_range (da_cons de_int da_nil)) (dg_name (i := 9) nd rfl (by first | exact Or.inl rfl | exact Or.inr rfl)) (dss_cons (ds_set (i := 10) nd rfl (by first | exact Or.inl rfl | exact Or.inr rfl) (de_tup (da_cons (de_ix2 hu (de_ix2 hu (de_ixN 0 hu de_int (fun _ _ => rfl)) (de_v 6) fun _ _ => rfl) (de_v 9) fun _ _ => rfl) (da_cons (de_ix2 hu (de_ix2 hu (de_ixN 1 hu de_int (fun _ _ => rfl)) (de_v 7) fun _ _ => rfl) (de_v 9) fun _ _ => rfl) da_nil)))) (dss_cons (ds_if (dt_cmpR 4 (op_notInX hu) rl_in (de_v 10)) (dss_cons (ds_putN 4 hu (de_lenN 3 m_len) (de_v 10)) (dss_one (ds_append (i := 3) rfl (by first | exact Or.inl rfl | exact Or.inr (Or.inl rfl)) (de_v 10) (hpe := fun ta h => pe_bm PySem.F.plainAttrs_list PySem.F.slot_list_append PySem.F.type_list_append mt_append (pv 3) (pa_cons h pa_nil))))) dss_nil) (dss_one (ds_append (i := 8) rfl (by first | exact Or.inl rfl | exact Or.inr (Or.inl rfl)) (de_ixN 4 hu (de_v 10) (fun _ _ => rfl)) (hpe := fun ta h => pe_bm PySem.F.plainAttrs_list PySem.F.slot_list_append PySem.F.type_list_append mt_append (pv 8) (pa_cons h pa_nil))))))) (dss_one (ds_append (i := 5) rfl (by first | exact Or.inl rfl | exact Or.inr (Or.inl rfl)) (de_tup (da_cons (de_ixN 8 hu de_int (fun _ _ => rfl)) (da_cons (de_ixN 8 hu de_int (fun _ _ => rfl)) (da_cons (de_ixN 8 hu de_int (fun _ _ => rfl)) da_nil)))) (hpe := fun ta h => pe_bm PySem.F.plainAttrs_list PySem.F.slot_list_append PySem.F.type_list_append mt_append (pv 5) (pa_cons h pa_nil)))))))) (dss_cons (ds_set (i := 11) nd rfl (by first | exact Or.inl rfl | exact Or.inr rfl) (de_lst da_nil)) (dss_cons (ds_forR ps rfl (di_range1 rfl m_range (da_cons (de_lenN 3 m_len) da_nil)) (dg_name (i := 12) nd rfl (by first | exact Or.inl rfl | exact Or.inr rfl)) (dss_cons (ds_par (i := 13) (j := 14) rfl nd rfl rfl (by decide) rfl rfl (db_cons (fun _ => (de_cmp op_inAll rd_in (de_ix2 hu (de_ixN 3 hu (de_v 12) (fun _ _ => rfl)) de_int fun _ _ => rfl) (de_ixN 0 hu de_int (fun _ _ => rfl)) rfl)) (db_cons (fun _ => (de_cmp op_inAll rd_in (de_ix2 hu (de_ixN 3 hu (de_v 12) (fun _ _ => rfl)) de_int fun _ _ => rfl) (de_ixN 1 hu de_int (fun _ _ => rfl)) rfl)) db_nil)) rfl) (dss_one (ds_if (dt_val (he := fun _ => rfl) (de_ix2 hu (de_lst (da_cons (de_and (de_v 13) (de_one (de_v 14))) (da_cons (de_or (de_v 13) (de_one (de_v 14))) (da_cons (de_and (de_v 13) (de_one (de_not (de_v 14)))) (da_cons (de_cmpR 14 (op_neAll hu) rl_ne (de_v 13)) da_nil))))) (de_v 2) fun _ _ => rfl)) (dss_one (ds_append (i := 11) rfl (by first | exact Or.inl rfl | exact Or.inr (Or.inl rfl)) (de_v 12) (hpe := fun ta h => pe_bm PySem.F.plainAttrs_list PySem.F.slot_list_append PySem.F.type_list_append mt_append (pv 11) (pa_cons h pa_nil)))) dss_nil)))) (dss_one (ds_ret (de_tup (da_cons (de_v 5) (da_cons (de_v 11) da_nil))))))))), ?_⟩
    refine dseq ?_
    simp only [zM]
    refine dseq ?_
    refine while_inv (fun m δ => ∃ os rows x6 x7 x8 x9 x10, Join r1 r2 os rows ∧ m + rows.length = r1.length * r2.length ∧ δ = [some (.p (tabD r1 a1)), some (.p (tabD r2 a2)), some (.p (.int (way : Nat))), some (.o (.lst (os.map pD))), some (.o (.dcT (os.map kyP) (idsD os.length))), some (.o (.lst (rows.map rowD))), x6, x7, x8, x9, x10, none, none, none, none]) (fun m δ hI N hN => ?_) (m := r1.length * r2.length) ⟨[(0, 0)], [], none, none, none, none, none, ⟨Nat.zero_le _, by simp, rfl, fun x hx => (by rw [List.mem_singleton.mp hx]; exact ⟨ok1.pos, ok2.pos⟩), fun x hx => ⟨[], fun _ h => (by cases h), List.mem_singleton.mp hx⟩, fun i hi => (by cases hi)⟩, by simp, rfl⟩
    obtain ⟨os, rows, x6, x7, x8, x9, x10, J, hm, rfl⟩ := hI
    have hle := J.le
    simp only [zM]
    by_cases hlt : rows.length < os.length
    · rw [if_pos (show ((rows.length : Nat) : Int) < (os.length : Nat) by omega)]
      refine dseq ?_
      have hx := List.getElem?_eq_getElem hlt
      have xm := List.getElem_mem hlt
      generalize os[rows.length] = x at hx xm
      have xl := J.lt x xm
      simp only [zM]
      refine ⟨_, atI_map hx, ?_⟩
      simp only [zM, pD]
      refine dseq ?_
      simp only [zM]
      refine dseq ?_
      simp only [zM]
      refine ⟨by decide, by decide, ?_⟩
      refine forL_ds (fun p δ => ∃ (O : List PairN) (as : List Nat) (y9 y10 : Option B), (∃ t, O = os ++ t) ∧ Grow r1 r2 O ∧ as.length = p.length ∧ p.length ≤ 3 ∧ (∀ j a, as[j]? = some a → O[a]? = some (aft r1 r2 x j)) ∧ δ = [some (.p (tabD r1 a1)), some (.p (tabD r2 a2)), some (.p (.int (way : Nat))), some (.o (.lst (O.map pD))), some (.o (.dcT (O.map kyP) (idsD O.length))), some (.o (.lst (rows.map rowD))), some (.p (.int (x.1 : Nat))), some (.p (.int (x.2 : Nat))), some (.o (.lst (as.map iD))), y9, y10, none, none, none, none]) (fun p d r δ e hI M hM => ?_) (fun δ hI => ?_) ⟨os, [], x9, x10, ⟨[], (List.append_nil _).symm⟩, ⟨J.nd, J.lt, J.rch⟩, rfl, by decide, fun j a h => (by cases h), rfl⟩
      · obtain ⟨O, as, y9, y10, ⟨t, et⟩, G, hal, hp3, hat, rfl⟩ := hI
        obtain ⟨rfl, hp⟩ := upto_at (n := 3) e
        have hgl := pairs_le G.nd G.lt
        have xt : x ∈ O := by
          rw [et]
          exact List.mem_append_left _ xm
        have G' := G.add ok1 ok2 xt hp
        simp only [zM]
        refine dseq ?_
        simp only [zM]
        refine ⟨_, rfl, _, row_at ok1 xl.1, _, row_k hp, _, rfl, _, row_at ok2 xl.2, _, row_k hp, dseq ?_⟩
        simp only [zM]
        by_cases hy : aft r1 r2 x p.length ∈ O
        · have lk := pl_get G.nd hy
          rw [show lookG (O.map kyP) (idsD O.length) [Sum.inl ((nxt r1 x.1 p.length : Nat) : Int), Sum.inl ((nxt r2 x.2 p.length : Nat) : Int)] = some (iD (plP O (aft r1 r2 x p.length))) from lk]
          refine iteF ⟨_, rfl, by omega, hM _ ⟨O, as ++ [plP O (aft r1 r2 x p.length)], _, _, ⟨t, et⟩, G, by rw [len_snoc, len_snoc, hal], by rw [len_snoc]; omega, fun j a h => ?_, by rw [List.map_append]; rfl⟩⟩
          by_cases hj : j < as.length
          · rw [List.getElem?_append_left hj] at h
            exact hat j a h
          · have hj2 := (List.getElem?_eq_some_iff.mp h).1
            rw [len_snoc] at hj2
            have : j = as.length := by omega
            subst this
            rw [List.getElem?_append_right (Nat.le_refl _), Nat.sub_self] at h
            cases h
            rw [hal]
            exact plP_at hy
        · have lk := pl_no hy
          rw [show lookG (O.map kyP) (idsD O.length) [Sum.inl ((nxt r1 x.1 p.length : Nat) : Int), Sum.inl ((nxt r2 x.2 p.length : Nat) : Int)] = none from lk]
          refine iteT (dseq ?_)
          simp only [zM]
          have e' : addP O (aft r1 r2 x p.length) = O ++ [aft r1 r2 x p.length] := addP_out hy
          have G2 : Grow r1 r2 (O ++ [aft r1 r2 x p.length]) := by
            rw [← e']
            exact G'
          have gl2 := pairs_le G2.nd G2.lt
          have ym : aft r1 r2 x p.length ∈ O ++ [aft r1 r2 x p.length] := List.mem_append_right _ List.mem_cons_self
          have pp := pl_put hy
          refine ⟨.dcT ((O ++ [aft r1 r2 x p.length]).map kyP) (idsD (O ++ [aft r1 r2 x p.length]).length), ?_, by omega, iD (plP (O ++ [aft r1 r2 x p.length]) (aft r1 r2 x p.length)), pl_get G2.nd ym, by omega, hM _ ⟨O ++ [aft r1 r2 x p.length], as ++ [plP (O ++ [aft r1 r2 x p.length]) (aft r1 r2 x p.length)], _, _, ⟨t ++ [aft r1 r2 x p.length], by rw [et, List.append_assoc]⟩, G2, by rw [len_snoc, len_snoc, hal], by rw [len_snoc]; omega, fun j a h => ?_, by rw [List.map_append, List.map_append, List.map_append]; rfl⟩⟩
          · rw [if_pos (by omega)]
            show some (D.dcT (putG (O.map kyP) (idsD O.length) (kyP (aft r1 r2 x p.length)) (iD O.length)).1 (putG (O.map kyP) (idsD O.length) (kyP (aft r1 r2 x p.length)) (iD O.length)).2) = _
            rw [pp]
          · by_cases hj : j < as.length
            · rw [List.getElem?_append_left hj] at h
              have g := hat j a h
              rw [List.getElem?_append_left (List.getElem?_eq_some_iff.mp g).1]
              exact g
            · have hj2 := (List.getElem?_eq_some_iff.mp h).1
              rw [len_snoc] at hj2
              have : j = as.length := by omega
              subst this
              rw [List.getElem?_append_right (Nat.le_refl _), Nat.sub_self] at h
              cases h
              rw [hal]
              exact plP_at ym
      · obtain ⟨O, as, y9, y10, ⟨t, rfl⟩, G, hal, hp3, hat, rfl⟩ := hI
        rw [show (upto 0 (Int.toNat 3)).length = 3 from upto_ln (n := 3)] at hal
        match as, hal, hat with
        | [a, b, c], _, hat =>
          have JJ := J.step hx G (hat 0 a rfl) (hat 1 b rfl) (hat 2 c rfl)
          simp only [zM]
          exact ⟨_, rfl, _, rfl, _, rfl, by omega, hN (m - 1) _ (by omega) ⟨os ++ t, rows ++ [(a, b, c)], _, _, _, _, _, JJ, by rw [len_snoc]; omega, by rw [List.map_append (f := rowD), List.length_append]; rfl⟩⟩
    · rw [if_neg (show ¬ ((rows.length : Nat) : Int) < (os.length : Nat) by omega)]
      have JJ := J.done hlt
      refine dseq ?_
      simp only [zM]
      refine dseq ?_
      simp only [zM]
      refine ⟨by omega, by omega, ?_⟩
      rw [Int.toNat_natCast]
      refine forL_ds (fun p δ => ∃ x12 x13 x14, δ = [some (.p (tabD r1 a1)), some (.p (tabD r2 a2)), some (.p (.int (way : Nat))), some (.o (.lst (os.map pD))), some (.o (.dcT (os.map kyP) (idsD os.length))), some (.o (.lst (rows.map rowD))), x6, x7, x8, x9, x10, some (.o (.lst ((jaccN way os a1 a2 p.length).map iD))), x12, x13, x14]) (fun p d r δ e hI M hM => ?_) (fun δ hI => ?_) ⟨none, none, none, rfl⟩
      · obtain ⟨x12, x13, x14, rfl⟩ := hI
        obtain ⟨rfl, hp⟩ := upto_at e
        have hx := List.getElem?_eq_getElem hp
        have hg : os.getD p.length (0, 0) = os[p.length] := by
          rw [List.getD_eq_getElem?_getD, hx]
          rfl
        have hx2 := atI_map (f := pD) hx
        generalize os[p.length] = y at hx hx2 hg
        simp only [zM]
        refine dseq ?_
        simp only [zM, tabD, hx2, pD, at_0, at_1, inG_nat]
        have js := jacc_succ (way := way) (os := os) (a1 := a1) (a2 := a2) (n := p.length)
        rw [hg] at js
        have jl := jacc_le (way := way) (os := os) (a1 := a1) (a2 := a2) (n := p.length)
        have yes : wayB way (decide (y.1 ∈ a1)) (decide (y.2 ∈ a2)) = true → ∀ x12 x13 x14, M [some (.p (tabD r1 a1)), some (.p (tabD r2 a2)), some (.p (.int (way : Nat))), some (.o (.lst (os.map pD))), some (.o (.dcT (os.map kyP) (idsD os.length))), some (.o (.lst (rows.map rowD))), x6, x7, x8, x9, x10, some (.o (.lst ((jaccN way os a1 a2 p.length).map iD ++ [D.int (p.length : Nat)]))), x12, x13, x14] := fun z x12 x13 x14 => hM _ ⟨x12, x13, x14, by rw [len_snoc, js, if_pos z, List.map_append]; rfl⟩
        have no : wayB way (decide (y.1 ∈ a1)) (decide (y.2 ∈ a2)) = false → ∀ x12 x13 x14, M [some (.p (tabD r1 a1)), some (.p (tabD r2 a2)), some (.p (.int (way : Nat))), some (.o (.lst (os.map pD))), some (.o (.dcT (os.map kyP) (idsD os.length))), some (.o (.lst (rows.map rowD))), x6, x7, x8, x9, x10, some (.o (.lst ((jaccN way os a1 a2 p.length).map iD))), x12, x13, x14] := fun z x12 x13 x14 => hM _ ⟨x12, x13, x14, by rw [len_snoc, js, if_neg (by rw [z]; exact Bool.false_ne_true), List.append_nil]⟩
        have hw4 : way = 0 ∨ way = 1 ∨ way = 2 ∨ way = 3 := by omega
        by_cases h1 : y.1 ∈ a1 <;> by_cases h2 : y.2 ∈ a2 <;> simp only [h1, h2, decide_true, decide_false, if_true, if_false, Bool.not_true, Bool.not_false, eqD_bl] at yes no ⊢ <;> rcases hw4 with rfl | rfl | rfl | rfl <;> first | exact ⟨_, rfl, _, rfl, _, rfl, iteF (no rfl _ _ _)⟩ | exact ⟨_, rfl, _, rfl, _, rfl, iteT ⟨by omega, yes rfl _ _ _⟩⟩
      · obtain ⟨x12, x13, x14, rfl⟩ := hI
        rw [upto_ln]
        simp only [zM]
        exact ⟨0, q os rows JJ⟩
end
end K

set_option Elab.async false
set_option linter.all false
set_option maxRecDepth 100000
set_option maxHeartbeats 8000000
namespace K
open PySem PySem.Spec PyProof.Rows L2 DD
local macro_rules | `(tactic| simp only [zP]) => `(tactic| simp only [startD, List.map_cons, List.map_nil, List.length_cons, List.length_nil, Nat.reduceAdd, Nat.reduceSub, List.replicate, List.cons_append, List.nil_append, dSeq, dSet, dIfS, dT, dOp, dCB, dCons, dNil, dV, dM, dC, dp, dNext, dRet, dRetN, dLst, dTup, dDrop, dNot, dAnd, dOr, dAndV, dOrV, dNotV, intG, intG0, lenG, lenD, ixG, itemD, intCG, intOf, maxG, List.getElem?_cons_zero, List.getElem?_cons_succ, List.set_cons_zero, List.set_cons_succ, Option.some.injEq, B.isU, B.d, B.rd, exists_eq_left', exists_eq_left, exists_and_left, true_and, and_true, B.p.injEq, DD.D.bl.injEq, DD.D.int.injEq, List.cons.injEq, DD.PC, decide_eq_true_eq, and_assoc, Option.map_some, dLc, iAny, walked, wipeE, gN, dCall, dCallP, dCallF, eqG, neG, Bool.not_true, Bool.not_false, if_true, if_false, Bool.false_eq_true, reduceIte, List.append_nil, dCBK, addG, dM1, gT, gsCons, gsNil, iEnumD, dAsP, iR1, dPart, dNo, dSl, freB, lstD, List.all_cons, List.all_nil, litD, Bool.and_self, dReprPair, dDctN, itemD2, ixG2, keyD, lookD, strG2, dPar, bCons, bNil, dFor, List.zip_cons_cons, List.zip_nil_right, List.foldl_cons, List.foldl_nil, dApp, B.o.injEq, DD.D.lst.injEq, DD.D.tup.injEq, exists_eq', dDct0, B.u.injEq, sizeLine_eq, Nat.reduceLeDiff, Nat.reduceLT, Nat.zero_le, true_implies, slG, List.length_map, tupleG, seqD, listG, iR2, List.length_take, List.length_drop, List.length_append, DD.D.str.injEq, mulG, dAsg, dFld, lookF, dSetF, setF, dProp, dMeth, dMake, dMakeK, cxOf_K, dChain, notNG, isNG, isNon_non, isNon_bl, isNon_int, isNon_str, isNon_lst, isNon_tup, isNon_dct, isNon_ins, isNon_exc, dXv, reprG, DD.D.ins.injEq, DD.D.exc.injEq, cmpIG, neIG, clsD, Option.bind_some, B.s.injEq, if_true, if_false, dNeg, dLenSet, dIndex, dClrE, dAppE, dCallK, eqKG, sortedSG])
local macro_rules | `(tactic| simp only [zP, $xs,*]) => `(tactic| simp only [startD, List.map_cons, List.map_nil, List.length_cons, List.length_nil, Nat.reduceAdd, Nat.reduceSub, List.replicate, List.cons_append, List.nil_append, dSeq, dSet, dIfS, dT, dOp, dCB, dCons, dNil, dV, dM, dC, dp, dNext, dRet, dRetN, dLst, dTup, dDrop, dNot, dAnd, dOr, dAndV, dOrV, dNotV, intG, intG0, lenG, lenD, ixG, itemD, intCG, intOf, maxG, List.getElem?_cons_zero, List.getElem?_cons_succ, List.set_cons_zero, List.set_cons_succ, Option.some.injEq, B.isU, B.d, B.rd, exists_eq_left', exists_eq_left, exists_and_left, true_and, and_true, B.p.injEq, DD.D.bl.injEq, DD.D.int.injEq, List.cons.injEq, DD.PC, decide_eq_true_eq, and_assoc, Option.map_some, dLc, iAny, walked, wipeE, gN, dCall, dCallP, dCallF, eqG, neG, Bool.not_true, Bool.not_false, if_true, if_false, Bool.false_eq_true, reduceIte, List.append_nil, dCBK, addG, dM1, gT, gsCons, gsNil, iEnumD, dAsP, iR1, dPart, dNo, dSl, freB, lstD, List.all_cons, List.all_nil, litD, Bool.and_self, dReprPair, dDctN, itemD2, ixG2, keyD, lookD, strG2, dPar, bCons, bNil, dFor, List.zip_cons_cons, List.zip_nil_right, List.foldl_cons, List.foldl_nil, dApp, B.o.injEq, DD.D.lst.injEq, DD.D.tup.injEq, exists_eq', dDct0, B.u.injEq, sizeLine_eq, Nat.reduceLeDiff, Nat.reduceLT, Nat.zero_le, true_implies, slG, List.length_map, tupleG, seqD, listG, iR2, List.length_take, List.length_drop, List.length_append, DD.D.str.injEq, mulG, dAsg, dFld, lookF, dSetF, setF, dProp, dMeth, dMake, dMakeK, cxOf_K, dChain, notNG, isNG, isNon_non, isNon_bl, isNon_int, isNon_str, isNon_lst, isNon_tup, isNon_dct, isNon_ins, isNon_exc, dXv, reprG, DD.D.ins.injEq, DD.D.exc.injEq, cmpIG, neIG, clsD, Option.bind_some, B.s.injEq, if_true, if_false, dNeg, dLenSet, dIndex, dClrE, dAppE, dCallK, eqKG, sortedSG, $xs,*])
local macro_rules | `(tactic| simp only [zQ]) => `(tactic| simp only [startD, List.map_cons, List.map_nil, List.length_cons, List.length_nil, Nat.reduceAdd, Nat.reduceSub, List.replicate, List.cons_append, List.nil_append, dSet, dIfS, dT, dOp, dCB, dCons, dNil, dV, dM, dC, dp, dNext, dRet, dRetN, dLst, dTup, dDrop, dNot, dAnd, dOr, dAndV, dOrV, dNotV, intG, intG0, lenG, lenD, ixG, itemD, intCG, intOf, maxG, List.getElem?_cons_zero, List.getElem?_cons_succ, List.set_cons_zero, List.set_cons_succ, Option.some.injEq, B.isU, B.d, B.rd, exists_eq_left', exists_eq_left, exists_and_left, true_and, and_true, B.p.injEq, DD.D.bl.injEq, DD.D.int.injEq, List.cons.injEq, DD.PC, decide_eq_true_eq, and_assoc, Option.map_some, dLc, iAny, walked, wipeE, gN, dCall, dCallP, dCallF, eqG, neG, Bool.not_true, Bool.not_false, if_true, if_false, Bool.false_eq_true, reduceIte, List.append_nil, dCBK, addG, dM1, gT, gsCons, gsNil, iEnumD, dAsP, iR1, dPart, dNo, dSl, freB, lstD, List.all_cons, List.all_nil, litD, Bool.and_self, dReprPair, dDctN, itemD2, ixG2, keyD, lookD, strG2, dPar, bCons, bNil, dFor, List.zip_cons_cons, List.zip_nil_right, List.foldl_cons, List.foldl_nil, dApp, B.o.injEq, DD.D.lst.injEq, DD.D.tup.injEq, exists_eq', dDct0, B.u.injEq, sizeLine_eq, Nat.reduceLeDiff, Nat.reduceLT, Nat.zero_le, true_implies, slG, List.length_map, tupleG, seqD, listG, iR2, List.length_take, List.length_drop, List.length_append, DD.D.str.injEq, mulG, dAsg, dFld, lookF, dSetF, setF, dProp, dMeth, dMake, dMakeK, cxOf_K, dChain, notNG, isNG, isNon_non, isNon_bl, isNon_int, isNon_str, isNon_lst, isNon_tup, isNon_dct, isNon_ins, isNon_exc, dXv, reprG, DD.D.ins.injEq, DD.D.exc.injEq, cmpIG, neIG, clsD, Option.bind_some, B.s.injEq, if_true, if_false, dNeg, dLenSet, dIndex, dClrE, dAppE, dCallK, eqKG, sortedSG])
local macro_rules | `(tactic| simp only [zQ, $xs,*]) => `(tactic| simp only [startD, List.map_cons, List.map_nil, List.length_cons, List.length_nil, Nat.reduceAdd, Nat.reduceSub, List.replicate, List.cons_append, List.nil_append, dSet, dIfS, dT, dOp, dCB, dCons, dNil, dV, dM, dC, dp, dNext, dRet, dRetN, dLst, dTup, dDrop, dNot, dAnd, dOr, dAndV, dOrV, dNotV, intG, intG0, lenG, lenD, ixG, itemD, intCG, intOf, maxG, List.getElem?_cons_zero, List.getElem?_cons_succ, List.set_cons_zero, List.set_cons_succ, Option.some.injEq, B.isU, B.d, B.rd, exists_eq_left', exists_eq_left, exists_and_left, true_and, and_true, B.p.injEq, DD.D.bl.injEq, DD.D.int.injEq, List.cons.injEq, DD.PC, decide_eq_true_eq, and_assoc, Option.map_some, dLc, iAny, walked, wipeE, gN, dCall, dCallP, dCallF, eqG, neG, Bool.not_true, Bool.not_false, if_true, if_false, Bool.false_eq_true, reduceIte, List.append_nil, dCBK, addG, dM1, gT, gsCons, gsNil, iEnumD, dAsP, iR1, dPart, dNo, dSl, freB, lstD, List.all_cons, List.all_nil, litD, Bool.and_self, dReprPair, dDctN, itemD2, ixG2, keyD, lookD, strG2, dPar, bCons, bNil, dFor, List.zip_cons_cons, List.zip_nil_right, List.foldl_cons, List.foldl_nil, dApp, B.o.injEq, DD.D.lst.injEq, DD.D.tup.injEq, exists_eq', dDct0, B.u.injEq, sizeLine_eq, Nat.reduceLeDiff, Nat.reduceLT, Nat.zero_le, true_implies, slG, List.length_map, tupleG, seqD, listG, iR2, List.length_take, List.length_drop, List.length_append, DD.D.str.injEq, mulG, dAsg, dFld, lookF, dSetF, setF, dProp, dMeth, dMake, dMakeK, cxOf_K, dChain, notNG, isNG, isNon_non, isNon_bl, isNon_int, isNon_str, isNon_lst, isNon_tup, isNon_dct, isNon_ins, isNon_exc, dXv, reprG, DD.D.ins.injEq, DD.D.exc.injEq, cmpIG, neIG, clsD, Option.bind_some, B.s.injEq, if_true, if_false, dNeg, dLenSet, dIndex, dClrE, dAppE, dCallK, eqKG, sortedSG, $xs,*])
local macro_rules | `(tactic| simp only [zM]) => `(tactic| simp only [startD, List.map_cons, List.map_nil, List.length_cons, List.length_nil, Nat.reduceAdd, Nat.reduceSub, List.replicate, List.cons_append, List.nil_append, dSet, dIfS, dT, dOp, dCB, dCons, dNil, dV, dM, dC, dp, dNext, dRet, dRetN, dLst, dTup, dDrop, dNot, dAnd, dOr, dAndV, dOrV, dNotV, intG, intG0, lenG, lenD, ixG, itemD, intCG, intOf, maxG, List.getElem?_cons_zero, List.getElem?_cons_succ, List.set_cons_zero, List.set_cons_succ, Option.some.injEq, B.isU, B.d, B.rd, exists_eq_left', exists_eq_left, exists_and_left, true_and, and_true, B.p.injEq, DD.D.bl.injEq, DD.D.int.injEq, List.cons.injEq, DD.PC, decide_eq_true_eq, and_assoc, Option.map_some, dLc, iAny, walked, wipeE, gN, dCall, dCallP, dCallF, eqG, neG, Bool.not_true, Bool.not_false, if_true, if_false, Bool.false_eq_true, reduceIte, List.append_nil, dCBK, addG, dM1, gT, gsCons, gsNil, iEnumD, dAsP, iR1, dPart, dNo, dSl, freB, lstD, List.all_cons, List.all_nil, litD, Bool.and_self, dReprPair, dDctN, itemD2, ixG2, keyD, lookD, strG2, dPar, bCons, bNil, dFor, List.zip_cons_cons, List.zip_nil_right, List.foldl_cons, List.foldl_nil, dApp, B.o.injEq, DD.D.lst.injEq, DD.D.tup.injEq, exists_eq', dDct0, B.u.injEq, sizeLine_eq, Nat.reduceLeDiff, Nat.reduceLT, Nat.zero_le, true_implies, slG, List.length_map, tupleG, seqD, listG, iR2, List.length_take, List.length_drop, List.length_append, DD.D.str.injEq, mulG, dAsg, dFld, lookF, dSetF, setF, dProp, dMeth, dMake, dMakeK, cxOf_K, dChain, notNG, isNG, isNon_non, isNon_bl, isNon_int, isNon_str, isNon_lst, isNon_tup, isNon_dct, isNon_ins, isNon_exc, dXv, reprG, DD.D.ins.injEq, DD.D.exc.injEq, cmpIG, neIG, clsD, Option.bind_some, B.s.injEq, if_true, if_false, dNeg, dLenSet, dIndex, dClrE, dAppE, dCallK, eqKG, sortedSG, dNL, dNR, slotD, eqL, neL, inL, isInX, ixL, itemX, getD', lenX, dLenN, dGet2, dPutN, ownS, setX, dRev, dClr, dPop, dPopAt, dExt, dAug, dDc, dLend, lendE, lend1, lentB, isLD, dDctT, dLenSetA, keyT, keyL, List.mem_cons, List.not_mem_nil, or_false, false_or, or_true, true_or, Nat.reduceEqDiff, decide_true, decide_false, Bool.or_true, Bool.true_or, Bool.false_or, Bool.or_false, Bool.and_true, Bool.true_and, reduceCtorEq, DD.D.dct.injEq, DD.D.dcT.injEq, dDctT0, nilG, nilL, List.isEmpty_nil, List.isEmpty_cons])
local macro_rules | `(tactic| simp only [zM, $xs,*]) => `(tactic| simp only [startD, List.map_cons, List.map_nil, List.length_cons, List.length_nil, Nat.reduceAdd, Nat.reduceSub, List.replicate, List.cons_append, List.nil_append, dSet, dIfS, dT, dOp, dCB, dCons, dNil, dV, dM, dC, dp, dNext, dRet, dRetN, dLst, dTup, dDrop, dNot, dAnd, dOr, dAndV, dOrV, dNotV, intG, intG0, lenG, lenD, ixG, itemD, intCG, intOf, maxG, List.getElem?_cons_zero, List.getElem?_cons_succ, List.set_cons_zero, List.set_cons_succ, Option.some.injEq, B.isU, B.d, B.rd, exists_eq_left', exists_eq_left, exists_and_left, true_and, and_true, B.p.injEq, DD.D.bl.injEq, DD.D.int.injEq, List.cons.injEq, DD.PC, decide_eq_true_eq, and_assoc, Option.map_some, dLc, iAny, walked, wipeE, gN, dCall, dCallP, dCallF, eqG, neG, Bool.not_true, Bool.not_false, if_true, if_false, Bool.false_eq_true, reduceIte, List.append_nil, dCBK, addG, dM1, gT, gsCons, gsNil, iEnumD, dAsP, iR1, dPart, dNo, dSl, freB, lstD, List.all_cons, List.all_nil, litD, Bool.and_self, dReprPair, dDctN, itemD2, ixG2, keyD, lookD, strG2, dPar, bCons, bNil, dFor, List.zip_cons_cons, List.zip_nil_right, List.foldl_cons, List.foldl_nil, dApp, B.o.injEq, DD.D.lst.injEq, DD.D.tup.injEq, exists_eq', dDct0, B.u.injEq, sizeLine_eq, Nat.reduceLeDiff, Nat.reduceLT, Nat.zero_le, true_implies, slG, List.length_map, tupleG, seqD, listG, iR2, List.length_take, List.length_drop, List.length_append, DD.D.str.injEq, mulG, dAsg, dFld, lookF, dSetF, setF, dProp, dMeth, dMake, dMakeK, cxOf_K, dChain, notNG, isNG, isNon_non, isNon_bl, isNon_int, isNon_str, isNon_lst, isNon_tup, isNon_dct, isNon_ins, isNon_exc, dXv, reprG, DD.D.ins.injEq, DD.D.exc.injEq, cmpIG, neIG, clsD, Option.bind_some, B.s.injEq, if_true, if_false, dNeg, dLenSet, dIndex, dClrE, dAppE, dCallK, eqKG, sortedSG, dNL, dNR, slotD, eqL, neL, inL, isInX, ixL, itemX, getD', lenX, dLenN, dGet2, dPutN, ownS, setX, dRev, dClr, dPop, dPopAt, dExt, dAug, dDc, dLend, lendE, lend1, lentB, isLD, dDctT, dLenSetA, keyT, keyL, List.mem_cons, List.not_mem_nil, or_false, false_or, or_true, true_or, Nat.reduceEqDiff, decide_true, decide_false, Bool.or_true, Bool.true_or, Bool.false_or, Bool.or_false, Bool.and_true, Bool.true_and, reduceCtorEq, DD.D.dct.injEq, DD.D.dcT.injEq, dDctT0, nilG, nilL, List.isEmpty_nil, List.isEmpty_cons, $xs,*])
section
variable {P : Program} {w : World} {K : PySem.W.Frag} {mg : Str → Option Value} {base : Heap}

structure RowsB (rs : List MRow) : Prop where
  pos : 0 < rs.length
  le : rs.length ≤ 1000000
  lt : ∀ q, q < rs.length → ∀ k, k < 3 → nxt rs q k < rs.length
theorem rowB_at {rs : List MRow} {q : Nat} (h : q < rs.length) : atI (rs.map rowD) (q : Nat) = some (rowD (rowAt rs q)) := by
  refine atI_map ?_
  unfold rowAt
  rw [List.getD_eq_getElem?_getD, List.getElem?_eq_getElem h]
  rfl
theorem chb_at {k : Nat} (h : k < 3) : ∃ c : Nat, atI (Str.ofString "chb").cps.toList (k : Nat) = some c := by
  match k, h with
  | 0, _ => exact ⟨_, rfl⟩
  | 1, _ => exact ⟨_, rfl⟩
  | 2, _ => exact ⟨_, rfl⟩
def fD (x : Nat × Str) : D := .tup [.int (x.1 : Nat), .str x.2]

abbrev s__law_shortest : Stmt := topS 46
theorem sc__law_shortest : FnScope ["_law_table_here", "_law_found", "_law_seen", "_law_good", "_law_at", "_law_state", "_law_word", "_law_k", "_law_later"] ["_law_table_here"] (defScope s__law_shortest) := ⟨rfl, rfl, rfl, by decide +kernel, rfl, by decide +kernel, by decide +kernel⟩
def spd__law_shortest  : Spd := fun bs R _ => ∃ (rs : List MRow), bs = [.p (tabD rs [])] ∧ RowsB rs ∧ R (.p .non) 0
theorem cal__law_shortest (Da : DefAt K mg "_law_shortest" s__law_shortest) (m_range : mg "range" = none) (m_len : mg "len" = none) : Cal P w K mg base "_law_shortest" 3 ["_law_table_here"] spd__law_shortest := by
  refine cal_mk none Da sc__law_shortest (fun _ _ _ _ _ _ us hl => match us, hl with | [_], _ => rfl) (fun bs R E h => ?_) (fun bs R E h => ?_) fun f cdv A outer s H E W bs R ED gu hr te h fh => ?_
  · obtain ⟨rs, rfl, ok, q⟩ := h
    rfl
  · obtain ⟨rs, rfl, ok, q⟩ := h
    exact pur_none (by simp [B.own])
  · obtain ⟨rs, rfl, ok, q⟩ := h
    have nd := sc__law_shortest.nd
    have hu := hr.units
    have ps := passes_of (X := cxOf (L2.CX P w) P w K mg base ["_law_table_here", "_law_found", "_law_seen", "_law_good", "_law_at", "_law_state", "_law_word", "_law_k", "_law_later"] "_law_shortest" (defScope s__law_shortest) f cdv A outer s H E) rfl
    refine ⟨_, (dss_cons (ds_parT (ns := [1, 2, 3, 4]) rfl (by decide) (by decide) (nms_cons (i := 1) nd rfl (nms_cons (i := 2) nd rfl (nms_cons (i := 3) nd rfl (nms_cons (i := 4) nd rfl nms_nil)))) (db_cons (fun _ => (de_lst (da_cons (de_tup (da_cons de_int (da_cons de_str da_nil))) da_nil))) (db_cons (fun _ => (de_dctN (dv_cons rfl (fun _ => de_bl) dv_nil) (by decide) rfl rfl (by simp) (by simp) (by simp))) (db_cons (fun _ => de_dct0) (db_cons (fun _ => de_int) db_nil))))) (dss_cons (ds_for te ps rfl (di_any (de_ixN 0 hu de_int (fun _ _ => rfl))) (fun _ => (dg_name (i := 5) nd rfl (by first | exact Or.inl rfl | exact Or.inr rfl))) (fun _ te => (dss_one (ds_putN 3 hu de_bl (de_v 5))))) (dss_cons (ds_while ps (dt_cmp op_lt rd_intB0 (de_v 4) (de_lenN 1 m_len) rfl) (dss_cons (ds_asg (de_ixN 1 hu (de_v 4) (fun _ _ => rfl)) (dg_tup (n := 2) rfl (dgs_cons (dg_name (i := 5) nd rfl (by first | exact Or.inl rfl | exact Or.inr rfl)) (dgs_cons (dg_name (i := 6) nd rfl (by first | exact Or.inl rfl | exact Or.inr rfl)) dgs_nil)))) (dss_cons (ds_if (dt_cmpR 3 (op_inX hu) rl_in (de_v 5)) (dss_one (ds_ret (de_m 6))) dss_nil) (dss_cons (ds_forR ps rfl (di_range1 rfl m_range (da_cons de_int da_nil)) (dg_name (i := 7) nd rfl (by first | exact Or.inl rfl | exact Or.inr rfl)) (dss_cons (ds_set (i := 8) nd rfl (by first | exact Or.inl rfl | exact Or.inr rfl) (de_ix2 hu (de_ix2 hu (de_ixN 0 hu de_int (fun _ _ => rfl)) (de_v 5) fun _ _ => rfl) (de_v 7) fun _ _ => rfl)) (dss_one (ds_if (dt_cmpR 2 (op_notInX hu) rl_in (de_v 8)) (dss_cons (ds_putN 2 hu de_bl (de_v 8)) (dss_one (ds_append (i := 1) rfl (by first | exact Or.inl rfl | exact Or.inr (Or.inl rfl)) (de_tup (da_cons (de_v 8) (da_cons (de_op op_addAll rd_add (de_v 6) (de_ix2 hu de_str (de_v 7) fun _ _ => rfl)) da_nil))) (hpe := fun ta h => pe_bm PySem.F.plainAttrs_list PySem.F.slot_list_append PySem.F.type_list_append mt_append (pv 1) (pa_cons h pa_nil))))) dss_nil)))) (dss_one (ds_set (i := 4) nd rfl (by first | exact Or.inl rfl | exact Or.inr rfl) (de_op op_addAll rd_add (de_v 4) de_int))))))) (dss_one (ds_ret de_non))))), ?_⟩
    have le := ok.le
    refine dseq ?_
    simp only [zM]
    refine dseq ?_
    simp only [zM, tabD, at_0, at_1]
    simp only [forL]
    refine dseq ?_
    refine while_inv (fun m δ => ∃ (fs : List (Nat × Str)) (k : Nat) (x5 x6 x7 x8 : Option B), (fs.map (·.1)).Nodup ∧ (∀ f ∈ fs, f.1 < rs.length) ∧ (∀ f ∈ fs, f.2.length ≤ k) ∧ k ≤ fs.length ∧ m + k = rs.length ∧ δ = [some (.p (.tup [.lst (rs.map rowD), .lst []])), some (.o (.lst (fs.map fD))), some (.o (.dct ((fs.map (·.1)).map ky) ((fs.map (·.1)).map tr))), some (.o (.dct [] [])), some (.p (.int (k : Nat))), x5, x6, x7, x8]) (fun m δ hI N hN => ?_) (m := rs.length) ⟨[(0, "")], 0, none, none, none, none, by simp, fun x hx => (by rw [List.mem_singleton.mp hx]; exact ok.pos), fun x hx => (by rw [List.mem_singleton.mp hx]; exact Nat.le_refl _), Nat.zero_le _, rfl, rfl⟩
    obtain ⟨fs, k, x5, x6, x7, x8, nd1, hlt, hw, hk, hm, rfl⟩ := hI
    have fle : ∀ {fs : List (Nat × Str)}, (fs.map (·.1)).Nodup → (∀ f ∈ fs, f.1 < rs.length) → fs.length ≤ rs.length := fun {fs} nd1 hlt => by
      have := OrdOk.len (n := rs.length) (o := fs.map (·.1)) ⟨nd1, fun x hx => by
        obtain ⟨f, hf, rfl⟩ := List.mem_map.mp hx
        exact hlt f hf⟩
      rw [List.length_map] at this
      exact this
    have fl0 := fle nd1 hlt
    simp only [zM]
    by_cases hk2 : k < fs.length
    · rw [if_pos (show ((k : Nat) : Int) < (fs.length : Nat) by omega)]
      refine dseq ?_
      have hx := List.getElem?_eq_getElem hk2
      have xm := List.getElem_mem hk2
      generalize fs[k] = x at hx xm
      have hx2 := atI_map (f := fD) hx
      have xl := hlt x xm
      have xw := hw x xm
      simp only [zM, hx2, fD]
      refine dseq ?_
      simp only [zM]
      rw [lookG_not List.not_mem_nil]
      refine iteF (dseq ?_)
      simp only [zM]
      refine ⟨by decide, by decide, ?_⟩
      refine forL_ds (fun p δ => ∃ (gs : List (Nat × Str)) (y7 y8 : Option B), (gs.map (·.1)).Nodup ∧ (∀ f ∈ gs, f.1 < rs.length) ∧ (∀ f ∈ gs, f.2.length ≤ k + 1) ∧ fs.length ≤ gs.length ∧ δ = [some (.p (.tup [.lst (rs.map rowD), .lst []])), some (.o (.lst (gs.map fD))), some (.o (.dct ((gs.map (·.1)).map ky) ((gs.map (·.1)).map tr))), some (.o (.dct [] [])), some (.p (.int (k : Nat))), some (.p (.int (x.1 : Nat))), some (.p (.str x.2)), y7, y8]) (fun p d r δ e hI M hM => ?_) (fun δ hI => ?_) ⟨fs, x7, x8, nd1, hlt, fun f hf => Nat.le_succ_of_le (hw f hf), Nat.le_refl _, rfl⟩
      · obtain ⟨gs, y7, y8, nd2, hlt2, hw2, hfg, rfl⟩ := hI
        obtain ⟨rfl, hp⟩ := upto_at (n := 3) e
        have gl := fle nd2 hlt2
        have nl := ok.lt x.1 xl p.length hp
        simp only [zM]
        refine dseq ?_
        simp only [zM, at_0]
        refine ⟨_, rowB_at xl, _, row_k hp, ?_⟩
        simp only [zM, known_get]
        by_cases hn : nxt rs x.1 p.length ∈ gs.map (·.1)
        · rw [decide_eq_true hn]
          exact iteF (hM _ ⟨gs, _, _, nd2, hlt2, hw2, hfg, rfl⟩)
        · rw [decide_eq_false hn]
          refine iteT (dseq ?_)
          have kp := known_put hn
          simp only [zM]
          obtain ⟨c, hc⟩ := chb_at hp
          have nd3 : ((gs ++ [(nxt rs x.1 p.length, x.2 ++ ({ cps := #[c] } : Str))]).map (·.1)).Nodup := by
            rw [List.map_append]
            exact List.nodup_append.mpr ⟨nd2, List.nodup_cons.mpr ⟨List.not_mem_nil, List.nodup_nil⟩, fun a ha b hb z => hn (by
              have hb' : b = nxt rs x.1 p.length := List.mem_singleton.mp hb
              rw [← hb', ← z]
              exact ha)⟩
          have hlt3 : ∀ f ∈ gs ++ [(nxt rs x.1 p.length, x.2 ++ ({ cps := #[c] } : Str))], f.1 < rs.length := fun f hf => by
            rcases List.mem_append.mp hf with z | z
            · exact hlt2 f z
            · rw [List.mem_singleton.mp z]
              exact nl
          refine ⟨_, by rw [if_pos (by omega), kp], .str { cps := #[c] }, by rw [if_pos (by decide), hc]; rfl, ?_, rfl, by omega, hM _ ⟨gs ++ [(nxt rs x.1 p.length, x.2 ++ ({ cps := #[c] } : Str))], _, _, nd3, hlt3, fun f hf => ?_, by rw [len_snoc]; omega, by simp only [List.map_append]; rfl⟩⟩
          · show x.2.length + 1 ≤ 16777216
            omega
          · rcases List.mem_append.mp hf with z | z
            · exact hw2 f z
            · rw [List.mem_singleton.mp z]
              show (x.2 ++ ({ cps := #[c] } : Str)).length ≤ k + 1
              rw [len_add]
              show x.2.length + 1 ≤ k + 1
              omega
      · obtain ⟨gs, y7, y8, nd2, hlt2, hw2, hfg, rfl⟩ := hI
        simp only [zM]
        exact hN (m - 1) _ (by omega) ⟨gs, k + 1, _, _, _, _, nd2, hlt2, hw2, by omega, by omega, rfl⟩
    · rw [if_neg (show ¬ ((k : Nat) : Int) < (fs.length : Nat) by omega)]
      exact ⟨0, q⟩
end
end K

set_option Elab.async false
set_option linter.all false
set_option maxRecDepth 100000
set_option maxHeartbeats 8000000
namespace K
open PySem PySem.Spec PyProof.Rows L2 DD
local macro_rules | `(tactic| simp only [zP]) => `(tactic| simp only [startD, List.map_cons, List.map_nil, List.length_cons, List.length_nil, Nat.reduceAdd, Nat.reduceSub, List.replicate, List.cons_append, List.nil_append, dSeq, dSet, dIfS, dT, dOp, dCB, dCons, dNil, dV, dM, dC, dp, dNext, dRet, dRetN, dLst, dTup, dDrop, dNot, dAnd, dOr, dAndV, dOrV, dNotV, intG, intG0, lenG, lenD, ixG, itemD, intCG, intOf, maxG, List.getElem?_cons_zero, List.getElem?_cons_succ, List.set_cons_zero, List.set_cons_succ, Option.some.injEq, B.isU, B.d, B.rd, exists_eq_left', exists_eq_left, exists_and_left, true_and, and_true, B.p.injEq, DD.D.bl.injEq, DD.D.int.injEq, List.cons.injEq, DD.PC, decide_eq_true_eq, and_assoc, Option.map_some, dLc, iAny, walked, wipeE, gN, dCall, dCallP, dCallF, eqG, neG, Bool.not_true, Bool.not_false, if_true, if_false, Bool.false_eq_true, reduceIte, List.append_nil, dCBK, addG, dM1, gT, gsCons, gsNil, iEnumD, dAsP, iR1, dPart, dNo, dSl, freB, lstD, List.all_cons, List.all_nil, litD, Bool.and_self, dReprPair, dDctN, itemD2, ixG2, keyD, lookD, strG2, dPar, bCons, bNil, dFor, List.zip_cons_cons, List.zip_nil_right, List.foldl_cons, List.foldl_nil, dApp, B.o.injEq, DD.D.lst.injEq, DD.D.tup.injEq, exists_eq', dDct0, B.u.injEq, sizeLine_eq, Nat.reduceLeDiff, Nat.reduceLT, Nat.zero_le, true_implies, slG, List.length_map, tupleG, seqD, listG, iR2, List.length_take, List.length_drop, List.length_append, DD.D.str.injEq, mulG, dAsg, dFld, lookF, dSetF, setF, dProp, dMeth, dMake, dMakeK, cxOf_K, dChain, notNG, isNG, isNon_non, isNon_bl, isNon_int, isNon_str, isNon_lst, isNon_tup, isNon_dct, isNon_ins, isNon_exc, dXv, reprG, DD.D.ins.injEq, DD.D.exc.injEq, cmpIG, neIG, clsD, Option.bind_some, B.s.injEq, if_true, if_false, dNeg, dLenSet, dIndex, dClrE, dAppE, dCallK, eqKG, sortedSG])
local macro_rules | `(tactic| simp only [zP, $xs,*]) => `(tactic| simp only [startD, List.map_cons, List.map_nil, List.length_cons, List.length_nil, Nat.reduceAdd, Nat.reduceSub, List.replicate, List.cons_append, List.nil_append, dSeq, dSet, dIfS, dT, dOp, dCB, dCons, dNil, dV, dM, dC, dp, dNext, dRet, dRetN, dLst, dTup, dDrop, dNot, dAnd, dOr, dAndV, dOrV, dNotV, intG, intG0, lenG, lenD, ixG, itemD, intCG, intOf, maxG, List.getElem?_cons_zero, List.getElem?_cons_succ, List.set_cons_zero, List.set_cons_succ, Option.some.injEq, B.isU, B.d, B.rd, exists_eq_left', exists_eq_left, exists_and_left, true_and, and_true, B.p.injEq, DD.D.bl.injEq, DD.D.int.injEq, List.cons.injEq, DD.PC, decide_eq_true_eq, and_assoc, Option.map_some, dLc, iAny, walked, wipeE, gN, dCall, dCallP, dCallF, eqG, neG, Bool.not_true, Bool.not_false, if_true, if_false, Bool.false_eq_true, reduceIte, List.append_nil, dCBK, addG, dM1, gT, gsCons, gsNil, iEnumD, dAsP, iR1, dPart, dNo, dSl, freB, lstD, List.all_cons, List.all_nil, litD, Bool.and_self, dReprPair, dDctN, itemD2, ixG2, keyD, lookD, strG2, dPar, bCons, bNil, dFor, List.zip_cons_cons, List.zip_nil_right, List.foldl_cons, List.foldl_nil, dApp, B.o.injEq, DD.D.lst.injEq, DD.D.tup.injEq, exists_eq', dDct0, B.u.injEq, sizeLine_eq, Nat.reduceLeDiff, Nat.reduceLT, Nat.zero_le, true_implies, slG, List.length_map, tupleG, seqD, listG, iR2, List.length_take, List.length_drop, List.length_append, DD.D.str.injEq, mulG, dAsg, dFld, lookF, dSetF, setF, dProp, dMeth, dMake, dMakeK, cxOf_K, dChain, notNG, isNG, isNon_non, isNon_bl, isNon_int, isNon_str, isNon_lst, isNon_tup, isNon_dct, isNon_ins, isNon_exc, dXv, reprG, DD.D.ins.injEq, DD.D.exc.injEq, cmpIG, neIG, clsD, Option.bind_some, B.s.injEq, if_true, if_false, dNeg, dLenSet, dIndex, dClrE, dAppE, dCallK, eqKG, sortedSG, $xs,*])
local macro_rules | `(tactic| simp only [zQ]) => `(tactic| simp only [startD, List.map_cons, List.map_nil, List.length_cons, List.length_nil, Nat.reduceAdd, Nat.reduceSub, List.replicate, List.cons_append, List.nil_append, dSet, dIfS, dT, dOp, dCB, dCons, dNil, dV, dM, dC, dp, dNext, dRet, dRetN, dLst, dTup, dDrop, dNot, dAnd, dOr, dAndV, dOrV, dNotV, intG, intG0, lenG, lenD, ixG, itemD, intCG, intOf, maxG, List.getElem?_cons_zero, List.getElem?_cons_succ, List.set_cons_zero, List.set_cons_succ, Option.some.injEq, B.isU, B.d, B.rd, exists_eq_left', exists_eq_left, exists_and_left, true_and, and_true, B.p.injEq, DD.D.bl.injEq, DD.D.int.injEq, List.cons.injEq, DD.PC, decide_eq_true_eq, and_assoc, Option.map_some, dLc, iAny, walked, wipeE, gN, dCall, dCallP, dCallF, eqG, neG, Bool.not_true, Bool.not_false, if_true, if_false, Bool.false_eq_true, reduceIte, List.append_nil, dCBK, addG, dM1, gT, gsCons, gsNil, iEnumD, dAsP, iR1, dPart, dNo, dSl, freB, lstD, List.all_cons, List.all_nil, litD, Bool.and_self, dReprPair, dDctN, itemD2, ixG2, keyD, lookD, strG2, dPar, bCons, bNil, dFor, List.zip_cons_cons, List.zip_nil_right, List.foldl_cons, List.foldl_nil, dApp, B.o.injEq, DD.D.lst.injEq, DD.D.tup.injEq, exists_eq', dDct0, B.u.injEq, sizeLine_eq, Nat.reduceLeDiff, Nat.reduceLT, Nat.zero_le, true_implies, slG, List.length_map, tupleG, seqD, listG, iR2, List.length_take, List.length_drop, List.length_append, DD.D.str.injEq, mulG, dAsg, dFld, lookF, dSetF, setF, dProp, dMeth, dMake, dMakeK, cxOf_K, dChain, notNG, isNG, isNon_non, isNon_bl, isNon_int, isNon_str, isNon_lst, isNon_tup, isNon_dct, isNon_ins, isNon_exc, dXv, reprG, DD.D.ins.injEq, DD.D.exc.injEq, cmpIG, neIG, clsD, Option.bind_some, B.s.injEq, if_true, if_false, dNeg, dLenSet, dIndex, dClrE, dAppE, dCallK, eqKG, sortedSG])
local macro_rules | `(tactic| simp only [zQ, $xs,*]) => `(tactic| simp only [startD, List.map_cons, List.map_nil, List.length_cons, List.length_nil, Nat.reduceAdd, Nat.reduceSub, List.replicate, List.cons_append, List.nil_append, dSet, dIfS, dT, dOp, dCB, dCons, dNil, dV, dM, dC, dp, dNext, dRet, dRetN, dLst, dTup, dDrop, dNot, dAnd, dOr, dAndV, dOrV, dNotV, intG, intG0, lenG, lenD, ixG, itemD, intCG, intOf, maxG, List.getElem?_cons_zero, List.getElem?_cons_succ, List.set_cons_zero, List.set_cons_succ, Option.some.injEq, B.isU, B.d, B.rd, exists_eq_left', exists_eq_left, exists_and_left, true_and, and_true, B.p.injEq, DD.D.bl.injEq, DD.D.int.injEq, List.cons.injEq, DD.PC, decide_eq_true_eq, and_assoc, Option.map_some, dLc, iAny, walked, wipeE, gN, dCall, dCallP, dCallF, eqG, neG, Bool.not_true, Bool.not_false, if_true, if_false, Bool.false_eq_true, reduceIte, List.append_nil, dCBK, addG, dM1, gT, gsCons, gsNil, iEnumD, dAsP, iR1, dPart, dNo, dSl, freB, lstD, List.all_cons, List.all_nil, litD, Bool.and_self, dReprPair, dDctN, itemD2, ixG2, keyD, lookD, strG2, dPar, bCons, bNil, dFor, List.zip_cons_cons, List.zip_nil_right, List.foldl_cons, List.foldl_nil, dApp, B.o.injEq, DD.D.lst.injEq, DD.D.tup.injEq, exists_eq', dDct0, B.u.injEq, sizeLine_eq, Nat.reduceLeDiff, Nat.reduceLT, Nat.zero_le, true_implies, slG, List.length_map, tupleG, seqD, listG, iR2, List.length_take, List.length_drop, List.length_append, DD.D.str.injEq, mulG, dAsg, dFld, lookF, dSetF, setF, dProp, dMeth, dMake, dMakeK, cxOf_K, dChain, notNG, isNG, isNon_non, isNon_bl, isNon_int, isNon_str, isNon_lst, isNon_tup, isNon_dct, isNon_ins, isNon_exc, dXv, reprG, DD.D.ins.injEq, DD.D.exc.injEq, cmpIG, neIG, clsD, Option.bind_some, B.s.injEq, if_true, if_false, dNeg, dLenSet, dIndex, dClrE, dAppE, dCallK, eqKG, sortedSG, $xs,*])
local macro_rules | `(tactic| simp only [zM]) => `(tactic| simp only [startD, List.map_cons, List.map_nil, List.length_cons, List.length_nil, Nat.reduceAdd, Nat.reduceSub, List.replicate, List.cons_append, List.nil_append, dSet, dIfS, dT, dOp, dCB, dCons, dNil, dV, dM, dC, dp, dNext, dRet, dRetN, dLst, dTup, dDrop, dNot, dAnd, dOr, dAndV, dOrV, dNotV, intG, intG0, lenG, lenD, ixG, itemD, intCG, intOf, maxG, List.getElem?_cons_zero, List.getElem?_cons_succ, List.set_cons_zero, List.set_cons_succ, Option.some.injEq, B.isU, B.d, B.rd, exists_eq_left', exists_eq_left, exists_and_left, true_and, and_true, B.p.injEq, DD.D.bl.injEq, DD.D.int.injEq, List.cons.injEq, DD.PC, decide_eq_true_eq, and_assoc, Option.map_some, dLc, iAny, walked, wipeE, gN, dCall, dCallP, dCallF, eqG, neG, Bool.not_true, Bool.not_false, if_true, if_false, Bool.false_eq_true, reduceIte, List.append_nil, dCBK, addG, dM1, gT, gsCons, gsNil, iEnumD, dAsP, iR1, dPart, dNo, dSl, freB, lstD, List.all_cons, List.all_nil, litD, Bool.and_self, dReprPair, dDctN, itemD2, ixG2, keyD, lookD, strG2, dPar, bCons, bNil, dFor, List.zip_cons_cons, List.zip_nil_right, List.foldl_cons, List.foldl_nil, dApp, B.o.injEq, DD.D.lst.injEq, DD.D.tup.injEq, exists_eq', dDct0, B.u.injEq, sizeLine_eq, Nat.reduceLeDiff, Nat.reduceLT, Nat.zero_le, true_implies, slG, List.length_map, tupleG, seqD, listG, iR2, List.length_take, List.length_drop, List.length_append, DD.D.str.injEq, mulG, dAsg, dFld, lookF, dSetF, setF, dProp, dMeth, dMake, dMakeK, cxOf_K, dChain, notNG, isNG, isNon_non, isNon_bl, isNon_int, isNon_str, isNon_lst, isNon_tup, isNon_dct, isNon_ins, isNon_exc, dXv, reprG, DD.D.ins.injEq, DD.D.exc.injEq, cmpIG, neIG, clsD, Option.bind_some, B.s.injEq, if_true, if_false, dNeg, dLenSet, dIndex, dClrE, dAppE, dCallK, eqKG, sortedSG, dNL, dNR, slotD, eqL, neL, inL, isInX, ixL, itemX, getD', lenX, dLenN, dGet2, dPutN, ownS, setX, dRev, dClr, dPop, dPopAt, dExt, dAug, dDc, dLend, lendE, lend1, lentB, isLD, dDctT, dLenSetA, keyT, keyL, List.mem_cons, List.not_mem_nil, or_false, false_or, or_true, true_or, Nat.reduceEqDiff, decide_true, decide_false, Bool.or_true, Bool.true_or, Bool.false_or, Bool.or_false, Bool.and_true, Bool.true_and, reduceCtorEq, DD.D.dct.injEq, DD.D.dcT.injEq, dDctT0, nilG, nilL, List.isEmpty_nil, List.isEmpty_cons])
local macro_rules | `(tactic| simp only [zM, $xs,*]) => `(tactic| simp only [startD, List.map_cons, List.map_nil, List.length_cons, List.length_nil, Nat.reduceAdd, Nat.reduceSub, List.replicate, List.cons_append, List.nil_append, dSet, dIfS, dT, dOp, dCB, dCons, dNil, dV, dM, dC, dp, dNext, dRet, dRetN, dLst, dTup, dDrop, dNot, dAnd, dOr, dAndV, dOrV, dNotV, intG, intG0, lenG, lenD, ixG, itemD, intCG, intOf, maxG, List.getElem?_cons_zero, List.getElem?_cons_succ, List.set_cons_zero, List.set_cons_succ, Option.some.injEq, B.isU, B.d, B.rd, exists_eq_left', exists_eq_left, exists_and_left, true_and, and_true, B.p.injEq, DD.D.bl.injEq, DD.D.int.injEq, List.cons.injEq, DD.PC, decide_eq_true_eq, and_assoc, Option.map_some, dLc, iAny, walked, wipeE, gN, dCall, dCallP, dCallF, eqG, neG, Bool.not_true, Bool.not_false, if_true, if_false, Bool.false_eq_true, reduceIte, List.append_nil, dCBK, addG, dM1, gT, gsCons, gsNil, iEnumD, dAsP, iR1, dPart, dNo, dSl, freB, lstD, List.all_cons, List.all_nil, litD, Bool.and_self, dReprPair, dDctN, itemD2, ixG2, keyD, lookD, strG2, dPar, bCons, bNil, dFor, List.zip_cons_cons, List.zip_nil_right, List.foldl_cons, List.foldl_nil, dApp, B.o.injEq, DD.D.lst.injEq, DD.D.tup.injEq, exists_eq', dDct0, B.u.injEq, sizeLine_eq, Nat.reduceLeDiff, Nat.reduceLT, Nat.zero_le, true_implies, slG, List.length_map, tupleG, seqD, listG, iR2, List.length_take, List.length_drop, List.length_append, DD.D.str.injEq, mulG, dAsg, dFld, lookF, dSetF, setF, dProp, dMeth, dMake, dMakeK, cxOf_K, dChain, notNG, isNG, isNon_non, isNon_bl, isNon_int, isNon_str, isNon_lst, isNon_tup, isNon_dct, isNon_ins, isNon_exc, dXv, reprG, DD.D.ins.injEq, DD.D.exc.injEq, cmpIG, neIG, clsD, Option.bind_some, B.s.injEq, if_true, if_false, dNeg, dLenSet, dIndex, dClrE, dAppE, dCallK, eqKG, sortedSG, dNL, dNR, slotD, eqL, neL, inL, isInX, ixL, itemX, getD', lenX, dLenN, dGet2, dPutN, ownS, setX, dRev, dClr, dPop, dPopAt, dExt, dAug, dDc, dLend, lendE, lend1, lentB, isLD, dDctT, dLenSetA, keyT, keyL, List.mem_cons, List.not_mem_nil, or_false, false_or, or_true, true_or, Nat.reduceEqDiff, decide_true, decide_false, Bool.or_true, Bool.true_or, Bool.false_or, Bool.or_false, Bool.and_true, Bool.true_and, reduceCtorEq, DD.D.dct.injEq, DD.D.dcT.injEq, dDctT0, nilG, nilL, List.isEmpty_nil, List.isEmpty_cons, $xs,*])
section
variable {P : Program} {w : World} {K : PySem.W.Frag} {mg : Str → Option Value} {base : Heap}

theorem joined_rowsB {r1 r2 : List MRow} {os : List PairN} {rows : List MRow} (J : Joined r1 r2 os rows) (hb : r1.length * r2.length ≤ 1000000) : RowsB rows where
  pos := by
    rw [J.len]
    exact (List.getElem?_eq_some_iff.mp J.z).1
  le := by
    rw [J.len]
    exact Nat.le_trans J.le hb
  lt := fun q hq k hk => by
    rw [J.len] at hq ⊢
    exact (List.getElem?_eq_some_iff.mp (J.stp q _ (List.getElem?_eq_getElem hq) k hk)).1

abbrev s__law_alike : Stmt := topS 47
theorem sc__law_alike : FnScope ["_law_one", "_law_other"] ["_law_one", "_law_other"] (defScope s__law_alike) := ⟨rfl, rfl, rfl, by decide +kernel, rfl, by decide +kernel, by decide +kernel⟩
def spd__law_alike  : Spd := fun bs R _ => ∃ (r1 r2 : List MRow) (a1 a2 : List Nat), bs = [.p (tabD r1 a1), .p (tabD r2 a2)] ∧ RowsOk r1 ∧ RowsOk r2 ∧ r1.length * r2.length ≤ 1000000 ∧ a1.length ≤ 3001 ∧ a2.length ≤ 3001 ∧ (∀ os rows, Joined r1 r2 os rows → jacc 3 os a1 a2 = []) ∧ R (.p (.bl true)) 0
theorem cal__law_alike (Da : DefAt K mg "_law_alike" s__law_alike) (c__law_joined : Cal P w K mg base "_law_joined" 3 ["_law_one", "_law_other", "_law_way"] spd__law_joined) (c__law_shortest : Cal P w K mg base "_law_shortest" 3 ["_law_table_here"] spd__law_shortest) : Cal P w K mg base "_law_alike" 6 ["_law_one", "_law_other"] spd__law_alike := by
  refine cal_mk none Da sc__law_alike (fun _ _ _ _ _ _ us hl => match us, hl with | [_, _], _ => rfl) (fun bs R E h => ?_) (fun bs R E h => ?_) fun f cdv A outer s H E W bs R ED gu hr te h fh => ?_
  · obtain ⟨r1, r2, a1, a2, rfl, ok1, ok2, hb, l1, l2, hj, q⟩ := h
    rfl
  · obtain ⟨r1, r2, a1, a2, rfl, ok1, ok2, hb, l1, l2, hj, q⟩ := h
    exact pur_none (by simp [B.own])
  · obtain ⟨r1, r2, a1, a2, rfl, ok1, ok2, hb, l1, l2, hj, q⟩ := h
    have nd := sc__law_alike.nd
    have hu := hr.units
    refine ⟨_, (dss_one (ds_ret (de_cmp op_isN rd_isN (de_c c__law_shortest gu hr (da_cons (de_c c__law_joined gu hr (da_cons (de_v 0) (da_cons (de_v 1) (da_cons de_int da_nil)))) da_nil)) de_non rfl))), ?_⟩
    simp only [zM]
    refine ⟨r1, r2, a1, a2, 3, rfl, ok1, ok2, by decide, hb, l1, l2, fun os rows J => ?_⟩
    rw [hj os rows J]
    simp only [zM]
    refine ⟨rows, rfl, joined_rowsB J hb, ?_⟩
    simp only [zM]
    exact ⟨0, q⟩

def oddS (many : Nat) (far : Int) : List D := [.int (-1), .int (many : Nat), .int ((many : Nat) + far), .int (-1 - far), .bl true, .bl false, .non, .str "0", .lst [.int 0], .tup [.int 0], .dct [] []]
theorem rs_cst {n k m : Nat} {ds : List D} (h : ∀ d ∈ ds, Rs n k d) (hm : ds.length ≤ m) : Rs (m * (n + 1)) (k + 1) (.cst ds) := by
  obtain ⟨cs, h1, h2, h3, h4, h5⟩ := rs_all h
  refine ⟨.tuple cs, ?_, h2, Nat.succ_le_succ h3, h4, Nat.le_trans h5 (Nat.mul_le_mul_right _ hm)⟩
  show (toPyRL ds).map _ = _
  rw [h1] <;> rfl
theorem odd_ok {many : Nat} {far : Int} (h60 : many ≤ 60) (f0 : 0 ≤ far) (f1 : far < 10 ^ 30) : ∀ x ∈ oddS many far, isSt many x = false ∧ dat x = true ∧ Rs 2 1 x := by
  have st : ∀ {i : Int}, (i < 0 ∨ (many : Int) ≤ i) → isSt many (.int i) = false := fun {i} h => by
    show (decide (0 ≤ i) && decide (i < (many : Int))) = false
    rcases h with h | h
    · rw [decide_eq_false (by omega), Bool.false_and]
    · rw [decide_eq_false (show ¬ i < (many : Int) by omega), Bool.and_false]
  have ri : ∀ {i : Int}, i.natAbs < 10 ^ 50 → Rs 2 1 (.int i) := fun h => (rs_int h).mono (by decide) (by decide)
  intro x hx
  simp only [oddS, List.mem_cons, List.not_mem_nil, or_false] at hx
  rcases hx with rfl | rfl | rfl | rfl | rfl | rfl | rfl | rfl | rfl | rfl | rfl
  · exact ⟨st (.inl (by decide)), rfl, ri (by decide)⟩
  · exact ⟨st (.inr (by omega)), rfl, ri (by omega)⟩
  · exact ⟨st (.inr (by omega)), rfl, ri (by omega)⟩
  · exact ⟨st (.inl (by omega)), rfl, ri (by omega)⟩
  · exact ⟨rfl, rfl, rs_bl.mono (by decide) (by decide)⟩
  · exact ⟨rfl, rfl, rs_bl.mono (by decide) (by decide)⟩
  · exact ⟨rfl, rfl, rs_non.mono (by decide) (by decide)⟩
  · exact ⟨rfl, rfl, (rs_str (n := 2) (by decide) (by decide)).mono (by decide) (by decide)⟩
  · exact ⟨rfl, rfl, (rs_lst (n := 0) (k := 0) (m := 1) (fun d hd => (by rw [List.mem_singleton.mp hd]; exact rs_int (by decide))) (by decide)).mono (by decide) (by decide)⟩
  · exact ⟨rfl, rfl, (rs_tup (n := 0) (k := 0) (m := 1) (fun d hd => (by rw [List.mem_singleton.mp hd]; exact rs_int (by decide))) (by decide)).mono (by decide) (by decide)⟩
  · exact ⟨rfl, rfl, rs_dct0.mono (by decide) (by decide)⟩

abbrev s__law_odd_states : Stmt := topS 48
theorem sc__law_odd_states : FnScope ["_law_purse_here", "_law_many", "_law_far"] ["_law_purse_here", "_law_many"] (defScope s__law_odd_states) := ⟨rfl, rfl, rfl, by decide +kernel, rfl, by decide +kernel, by decide +kernel⟩
def spd__law_odd_states  : Spd := fun bs R _ => ∃ (n many : Nat), bs = [.u true n, .p (.int (many : Nat))] ∧ n ≤ 900000 ∧ ∀ far : Int, 0 ≤ far → far < 10 ^ 30 → R (.o (.lst (oddS many far))) (n + 1)
theorem cal__law_odd_states (Da : DefAt K mg "_law_odd_states" s__law_odd_states) (c__law_draw : Cal P w K mg base "_law_draw" 1 ["_law_purse_here", "_law_many"] spdDraw) : Cal P w K mg base "_law_odd_states" 2 ["_law_purse_here", "_law_many"] spd__law_odd_states := by
  refine cal_mk (some 0) Da sc__law_odd_states (fun _ _ _ _ _ _ us hl => match us, hl with | [_, _], _ => rfl) (fun bs R E h => ?_) (fun bs R E h => ?_) fun f cdv A outer s H E W bs R ED gu hr te h fh => ?_
  · obtain ⟨n, many, rfl, hn, q⟩ := h
    rfl
  · obtain ⟨n, many, rfl, hn, q⟩ := h
    exact pur_zero (by simp [B.own])
  · obtain ⟨n, many, rfl, hn, q⟩ := h
    have nd := sc__law_odd_states.nd
    have hu := hr.units
    refine ⟨_, (dss_cons (ds_set (i := 2) nd rfl (by first | exact Or.inl rfl | exact Or.inr rfl) (de_cP c__law_draw gu hr (i := 0) rfl (da_cons (de_op op_powW rd_intI de_int de_int) da_nil))) (dss_one (ds_ret (de_lst (da_cons (de_neg de_int) (da_cons (de_v 1) (da_cons (de_op op_addAll rd_add (de_v 1) (de_v 2)) (da_cons (de_op op_sub rd_intI0 (de_neg de_int) (de_v 2)) (da_cons de_bl (da_cons de_bl (da_cons de_non (da_cons de_str (da_cons (de_lst (da_cons de_int da_nil)) (da_cons (de_tup (da_cons de_int da_nil)) (da_cons de_dct0 da_nil))))))))))))))), ?_⟩
    refine dseq ?_
    simp only [zM]
    refine ⟨⟨by decide, by decide⟩, n, _, rfl, by decide, by decide, by omega, fun far f0 f1 => ?_⟩
    exact ⟨rfl, rfl, rfl, rfl, rfl, q far f0 f1⟩
end
end K

set_option Elab.async false
set_option linter.all false
set_option maxRecDepth 100000
set_option maxHeartbeats 8000000
namespace K
open PySem PySem.Spec PyProof.Rows L2 DD
local macro_rules | `(tactic| simp only [zP]) => `(tactic| simp only [startD, List.map_cons, List.map_nil, List.length_cons, List.length_nil, Nat.reduceAdd, Nat.reduceSub, List.replicate, List.cons_append, List.nil_append, dSeq, dSet, dIfS, dT, dOp, dCB, dCons, dNil, dV, dM, dC, dp, dNext, dRet, dRetN, dLst, dTup, dDrop, dNot, dAnd, dOr, dAndV, dOrV, dNotV, intG, intG0, lenG, lenD, ixG, itemD, intCG, intOf, maxG, List.getElem?_cons_zero, List.getElem?_cons_succ, List.set_cons_zero, List.set_cons_succ, Option.some.injEq, B.isU, B.d, B.rd, exists_eq_left', exists_eq_left, exists_and_left, true_and, and_true, B.p.injEq, DD.D.bl.injEq, DD.D.int.injEq, List.cons.injEq, DD.PC, decide_eq_true_eq, and_assoc, Option.map_some, dLc, iAny, walked, wipeE, gN, dCall, dCallP, dCallF, eqG, neG, Bool.not_true, Bool.not_false, if_true, if_false, Bool.false_eq_true, reduceIte, List.append_nil, dCBK, addG, dM1, gT, gsCons, gsNil, iEnumD, dAsP, iR1, dPart, dNo, dSl, freB, lstD, List.all_cons, List.all_nil, litD, Bool.and_self, dReprPair, dDctN, itemD2, ixG2, keyD, lookD, strG2, dPar, bCons, bNil, dFor, List.zip_cons_cons, List.zip_nil_right, List.foldl_cons, List.foldl_nil, dApp, B.o.injEq, DD.D.lst.injEq, DD.D.tup.injEq, exists_eq', dDct0, B.u.injEq, sizeLine_eq, Nat.reduceLeDiff, Nat.reduceLT, Nat.zero_le, true_implies, slG, List.length_map, tupleG, seqD, listG, iR2, List.length_take, List.length_drop, List.length_append, DD.D.str.injEq, mulG, dAsg, dFld, lookF, dSetF, setF, dProp, dMeth, dMake, dMakeK, cxOf_K, dChain, notNG, isNG, isNon_non, isNon_bl, isNon_int, isNon_str, isNon_lst, isNon_tup, isNon_dct, isNon_ins, isNon_exc, dXv, reprG, DD.D.ins.injEq, DD.D.exc.injEq, cmpIG, neIG, clsD, Option.bind_some, B.s.injEq, if_true, if_false, dNeg, dLenSet, dIndex, dClrE, dAppE, dCallK, eqKG, sortedSG])
local macro_rules | `(tactic| simp only [zP, $xs,*]) => `(tactic| simp only [startD, List.map_cons, List.map_nil, List.length_cons, List.length_nil, Nat.reduceAdd, Nat.reduceSub, List.replicate, List.cons_append, List.nil_append, dSeq, dSet, dIfS, dT, dOp, dCB, dCons, dNil, dV, dM, dC, dp, dNext, dRet, dRetN, dLst, dTup, dDrop, dNot, dAnd, dOr, dAndV, dOrV, dNotV, intG, intG0, lenG, lenD, ixG, itemD, intCG, intOf, maxG, List.getElem?_cons_zero, List.getElem?_cons_succ, List.set_cons_zero, List.set_cons_succ, Option.some.injEq, B.isU, B.d, B.rd, exists_eq_left', exists_eq_left, exists_and_left, true_and, and_true, B.p.injEq, DD.D.bl.injEq, DD.D.int.injEq, List.cons.injEq, DD.PC, decide_eq_true_eq, and_assoc, Option.map_some, dLc, iAny, walked, wipeE, gN, dCall, dCallP, dCallF, eqG, neG, Bool.not_true, Bool.not_false, if_true, if_false, Bool.false_eq_true, reduceIte, List.append_nil, dCBK, addG, dM1, gT, gsCons, gsNil, iEnumD, dAsP, iR1, dPart, dNo, dSl, freB, lstD, List.all_cons, List.all_nil, litD, Bool.and_self, dReprPair, dDctN, itemD2, ixG2, keyD, lookD, strG2, dPar, bCons, bNil, dFor, List.zip_cons_cons, List.zip_nil_right, List.foldl_cons, List.foldl_nil, dApp, B.o.injEq, DD.D.lst.injEq, DD.D.tup.injEq, exists_eq', dDct0, B.u.injEq, sizeLine_eq, Nat.reduceLeDiff, Nat.reduceLT, Nat.zero_le, true_implies, slG, List.length_map, tupleG, seqD, listG, iR2, List.length_take, List.length_drop, List.length_append, DD.D.str.injEq, mulG, dAsg, dFld, lookF, dSetF, setF, dProp, dMeth, dMake, dMakeK, cxOf_K, dChain, notNG, isNG, isNon_non, isNon_bl, isNon_int, isNon_str, isNon_lst, isNon_tup, isNon_dct, isNon_ins, isNon_exc, dXv, reprG, DD.D.ins.injEq, DD.D.exc.injEq, cmpIG, neIG, clsD, Option.bind_some, B.s.injEq, if_true, if_false, dNeg, dLenSet, dIndex, dClrE, dAppE, dCallK, eqKG, sortedSG, $xs,*])
local macro_rules | `(tactic| simp only [zQ]) => `(tactic| simp only [startD, List.map_cons, List.map_nil, List.length_cons, List.length_nil, Nat.reduceAdd, Nat.reduceSub, List.replicate, List.cons_append, List.nil_append, dSet, dIfS, dT, dOp, dCB, dCons, dNil, dV, dM, dC, dp, dNext, dRet, dRetN, dLst, dTup, dDrop, dNot, dAnd, dOr, dAndV, dOrV, dNotV, intG, intG0, lenG, lenD, ixG, itemD, intCG, intOf, maxG, List.getElem?_cons_zero, List.getElem?_cons_succ, List.set_cons_zero, List.set_cons_succ, Option.some.injEq, B.isU, B.d, B.rd, exists_eq_left', exists_eq_left, exists_and_left, true_and, and_true, B.p.injEq, DD.D.bl.injEq, DD.D.int.injEq, List.cons.injEq, DD.PC, decide_eq_true_eq, and_assoc, Option.map_some, dLc, iAny, walked, wipeE, gN, dCall, dCallP, dCallF, eqG, neG, Bool.not_true, Bool.not_false, if_true, if_false, Bool.false_eq_true, reduceIte, List.append_nil, dCBK, addG, dM1, gT, gsCons, gsNil, iEnumD, dAsP, iR1, dPart, dNo, dSl, freB, lstD, List.all_cons, List.all_nil, litD, Bool.and_self, dReprPair, dDctN, itemD2, ixG2, keyD, lookD, strG2, dPar, bCons, bNil, dFor, List.zip_cons_cons, List.zip_nil_right, List.foldl_cons, List.foldl_nil, dApp, B.o.injEq, DD.D.lst.injEq, DD.D.tup.injEq, exists_eq', dDct0, B.u.injEq, sizeLine_eq, Nat.reduceLeDiff, Nat.reduceLT, Nat.zero_le, true_implies, slG, List.length_map, tupleG, seqD, listG, iR2, List.length_take, List.length_drop, List.length_append, DD.D.str.injEq, mulG, dAsg, dFld, lookF, dSetF, setF, dProp, dMeth, dMake, dMakeK, cxOf_K, dChain, notNG, isNG, isNon_non, isNon_bl, isNon_int, isNon_str, isNon_lst, isNon_tup, isNon_dct, isNon_ins, isNon_exc, dXv, reprG, DD.D.ins.injEq, DD.D.exc.injEq, cmpIG, neIG, clsD, Option.bind_some, B.s.injEq, if_true, if_false, dNeg, dLenSet, dIndex, dClrE, dAppE, dCallK, eqKG, sortedSG])
local macro_rules | `(tactic| simp only [zQ, $xs,*]) => `(tactic| simp only [startD, List.map_cons, List.map_nil, List.length_cons, List.length_nil, Nat.reduceAdd, Nat.reduceSub, List.replicate, List.cons_append, List.nil_append, dSet, dIfS, dT, dOp, dCB, dCons, dNil, dV, dM, dC, dp, dNext, dRet, dRetN, dLst, dTup, dDrop, dNot, dAnd, dOr, dAndV, dOrV, dNotV, intG, intG0, lenG, lenD, ixG, itemD, intCG, intOf, maxG, List.getElem?_cons_zero, List.getElem?_cons_succ, List.set_cons_zero, List.set_cons_succ, Option.some.injEq, B.isU, B.d, B.rd, exists_eq_left', exists_eq_left, exists_and_left, true_and, and_true, B.p.injEq, DD.D.bl.injEq, DD.D.int.injEq, List.cons.injEq, DD.PC, decide_eq_true_eq, and_assoc, Option.map_some, dLc, iAny, walked, wipeE, gN, dCall, dCallP, dCallF, eqG, neG, Bool.not_true, Bool.not_false, if_true, if_false, Bool.false_eq_true, reduceIte, List.append_nil, dCBK, addG, dM1, gT, gsCons, gsNil, iEnumD, dAsP, iR1, dPart, dNo, dSl, freB, lstD, List.all_cons, List.all_nil, litD, Bool.and_self, dReprPair, dDctN, itemD2, ixG2, keyD, lookD, strG2, dPar, bCons, bNil, dFor, List.zip_cons_cons, List.zip_nil_right, List.foldl_cons, List.foldl_nil, dApp, B.o.injEq, DD.D.lst.injEq, DD.D.tup.injEq, exists_eq', dDct0, B.u.injEq, sizeLine_eq, Nat.reduceLeDiff, Nat.reduceLT, Nat.zero_le, true_implies, slG, List.length_map, tupleG, seqD, listG, iR2, List.length_take, List.length_drop, List.length_append, DD.D.str.injEq, mulG, dAsg, dFld, lookF, dSetF, setF, dProp, dMeth, dMake, dMakeK, cxOf_K, dChain, notNG, isNG, isNon_non, isNon_bl, isNon_int, isNon_str, isNon_lst, isNon_tup, isNon_dct, isNon_ins, isNon_exc, dXv, reprG, DD.D.ins.injEq, DD.D.exc.injEq, cmpIG, neIG, clsD, Option.bind_some, B.s.injEq, if_true, if_false, dNeg, dLenSet, dIndex, dClrE, dAppE, dCallK, eqKG, sortedSG, $xs,*])
local macro_rules | `(tactic| simp only [zM]) => `(tactic| simp only [startD, List.map_cons, List.map_nil, List.length_cons, List.length_nil, Nat.reduceAdd, Nat.reduceSub, List.replicate, List.cons_append, List.nil_append, dSet, dIfS, dT, dOp, dCB, dCons, dNil, dV, dM, dC, dp, dNext, dRet, dRetN, dLst, dTup, dDrop, dNot, dAnd, dOr, dAndV, dOrV, dNotV, intG, intG0, lenG, lenD, ixG, itemD, intCG, intOf, maxG, List.getElem?_cons_zero, List.getElem?_cons_succ, List.set_cons_zero, List.set_cons_succ, Option.some.injEq, B.isU, B.d, B.rd, exists_eq_left', exists_eq_left, exists_and_left, true_and, and_true, B.p.injEq, DD.D.bl.injEq, DD.D.int.injEq, List.cons.injEq, DD.PC, decide_eq_true_eq, and_assoc, Option.map_some, dLc, iAny, walked, wipeE, gN, dCall, dCallP, dCallF, eqG, neG, Bool.not_true, Bool.not_false, if_true, if_false, Bool.false_eq_true, reduceIte, List.append_nil, dCBK, addG, dM1, gT, gsCons, gsNil, iEnumD, dAsP, iR1, dPart, dNo, dSl, freB, lstD, List.all_cons, List.all_nil, litD, Bool.and_self, dReprPair, dDctN, itemD2, ixG2, keyD, lookD, strG2, dPar, bCons, bNil, dFor, List.zip_cons_cons, List.zip_nil_right, List.foldl_cons, List.foldl_nil, dApp, B.o.injEq, DD.D.lst.injEq, DD.D.tup.injEq, exists_eq', dDct0, B.u.injEq, sizeLine_eq, Nat.reduceLeDiff, Nat.reduceLT, Nat.zero_le, true_implies, slG, List.length_map, tupleG, seqD, listG, iR2, List.length_take, List.length_drop, List.length_append, DD.D.str.injEq, mulG, dAsg, dFld, lookF, dSetF, setF, dProp, dMeth, dMake, dMakeK, cxOf_K, dChain, notNG, isNG, isNon_non, isNon_bl, isNon_int, isNon_str, isNon_lst, isNon_tup, isNon_dct, isNon_ins, isNon_exc, dXv, reprG, DD.D.ins.injEq, DD.D.exc.injEq, cmpIG, neIG, clsD, Option.bind_some, B.s.injEq, if_true, if_false, dNeg, dLenSet, dIndex, dClrE, dAppE, dCallK, eqKG, sortedSG, dNL, dNR, slotD, eqL, neL, inL, isInX, ixL, itemX, getD', lenX, dLenN, dGet2, dPutN, ownS, setX, dRev, dClr, dPop, dPopAt, dExt, dAug, dDc, dLend, lendE, lend1, lentB, isLD, dDctT, dLenSetA, keyT, keyL, List.mem_cons, List.not_mem_nil, or_false, false_or, or_true, true_or, Nat.reduceEqDiff, decide_true, decide_false, Bool.or_true, Bool.true_or, Bool.false_or, Bool.or_false, Bool.and_true, Bool.true_and, reduceCtorEq, DD.D.dct.injEq, DD.D.dcT.injEq, dDctT0, nilG, nilL, List.isEmpty_nil, List.isEmpty_cons])
local macro_rules | `(tactic| simp only [zM, $xs,*]) => `(tactic| simp only [startD, List.map_cons, List.map_nil, List.length_cons, List.length_nil, Nat.reduceAdd, Nat.reduceSub, List.replicate, List.cons_append, List.nil_append, dSet, dIfS, dT, dOp, dCB, dCons, dNil, dV, dM, dC, dp, dNext, dRet, dRetN, dLst, dTup, dDrop, dNot, dAnd, dOr, dAndV, dOrV, dNotV, intG, intG0, lenG, lenD, ixG, itemD, intCG, intOf, maxG, List.getElem?_cons_zero, List.getElem?_cons_succ, List.set_cons_zero, List.set_cons_succ, Option.some.injEq, B.isU, B.d, B.rd, exists_eq_left', exists_eq_left, exists_and_left, true_and, and_true, B.p.injEq, DD.D.bl.injEq, DD.D.int.injEq, List.cons.injEq, DD.PC, decide_eq_true_eq, and_assoc, Option.map_some, dLc, iAny, walked, wipeE, gN, dCall, dCallP, dCallF, eqG, neG, Bool.not_true, Bool.not_false, if_true, if_false, Bool.false_eq_true, reduceIte, List.append_nil, dCBK, addG, dM1, gT, gsCons, gsNil, iEnumD, dAsP, iR1, dPart, dNo, dSl, freB, lstD, List.all_cons, List.all_nil, litD, Bool.and_self, dReprPair, dDctN, itemD2, ixG2, keyD, lookD, strG2, dPar, bCons, bNil, dFor, List.zip_cons_cons, List.zip_nil_right, List.foldl_cons, List.foldl_nil, dApp, B.o.injEq, DD.D.lst.injEq, DD.D.tup.injEq, exists_eq', dDct0, B.u.injEq, sizeLine_eq, Nat.reduceLeDiff, Nat.reduceLT, Nat.zero_le, true_implies, slG, List.length_map, tupleG, seqD, listG, iR2, List.length_take, List.length_drop, List.length_append, DD.D.str.injEq, mulG, dAsg, dFld, lookF, dSetF, setF, dProp, dMeth, dMake, dMakeK, cxOf_K, dChain, notNG, isNG, isNon_non, isNon_bl, isNon_int, isNon_str, isNon_lst, isNon_tup, isNon_dct, isNon_ins, isNon_exc, dXv, reprG, DD.D.ins.injEq, DD.D.exc.injEq, cmpIG, neIG, clsD, Option.bind_some, B.s.injEq, if_true, if_false, dNeg, dLenSet, dIndex, dClrE, dAppE, dCallK, eqKG, sortedSG, dNL, dNR, slotD, eqL, neL, inL, isInX, ixL, itemX, getD', lenX, dLenN, dGet2, dPutN, ownS, setX, dRev, dClr, dPop, dPopAt, dExt, dAug, dDc, dLend, lendE, lend1, lentB, isLD, dDctT, dLenSetA, keyT, keyL, List.mem_cons, List.not_mem_nil, or_false, false_or, or_true, true_or, Nat.reduceEqDiff, decide_true, decide_false, Bool.or_true, Bool.true_or, Bool.false_or, Bool.or_false, Bool.and_true, Bool.true_and, reduceCtorEq, DD.D.dct.injEq, DD.D.dcT.injEq, dDctT0, nilG, nilL, List.isEmpty_nil, List.isEmpty_cons, $xs,*])
section
variable {P : Program} {w : World} {K : PySem.W.Frag} {mg : Str → Option Value} {base : Heap}

theorem bt_ValueError : bootBuiltins "ValueError" = some (.type "ValueError") := by decide +kernel
theorem isa_excT {K : PySem.W.Frag} {C : Addr} {n : String} {y : D} {b : Bool} {Q : B → Prop} (ok : XfE K C) (h : PySem.W.kitOne K (.ref C) (.type n) = some b) : isaG K [.exc C [y], .ty n] Q ↔ Q (.p (.bl b)) := isaG_of h ⟨ok, rfl⟩
structure Bent (d e : D) : Prop where
  m : Mch d e
  no : isMach d e = false
  rs : Rs 10000 6 (.tup [d, e])

abbrev s__law_refused : Stmt := topS 50
theorem sc__law_refused : FnScope ["_law_rows", "_law_accepting", "_law_caught", "_law_due", "error"] ["_law_rows", "_law_accepting"] (defScope s__law_refused) := ⟨rfl, rfl, rfl, by decide +kernel, rfl, by decide +kernel, by decide +kernel⟩
def spd__law_refused  : Spd := fun bs R _ => ∃ d e, bs = [.p d, .p e] ∧ Bent d e ∧ R (.p (.bl true)) 0
theorem cal__law_refused (Da : DefAt K mg "_law_refused" s__law_refused) {a_PairSet aI a_EveryPairError : Addr} (mk_PairSet_2 : MakC P w K mg base "PairSet" a_PairSet 5 ["self", "rows", "accepting"] [] (spi_PairSet a_PairSet aI)) (m_EveryPairError : mg "EveryPairError" = some (.ref a_EveryPairError)) (kx : PySem.W.exmOne K (.ref aI) (.ref a_EveryPairError) = some true) (c_InvalidMachine : ConAt K mg "InvalidMachine" (.ref aI)) (xI : XfE K aI) (kV : PySem.W.kitOne K (.ref aI) (.type "ValueError") = some true) (m_ValueError : mg "ValueError" = none) {aInvalidSet : Addr} (c_InvalidSet : ConAt K mg "InvalidSet" (.ref aInvalidSet)) (k_InvalidSet : PySem.W.kitOne K (.ref aI) (.ref aInvalidSet) = some false) {aInvalidList : Addr} (c_InvalidList : ConAt K mg "InvalidList" (.ref aInvalidList)) (k_InvalidList : PySem.W.kitOne K (.ref aI) (.ref aInvalidList) = some false) {aInvalidMarks : Addr} (c_InvalidMarks : ConAt K mg "InvalidMarks" (.ref aInvalidMarks)) (k_InvalidMarks : PySem.W.kitOne K (.ref aI) (.ref aInvalidMarks) = some false) {aInvalidNumber : Addr} (c_InvalidNumber : ConAt K mg "InvalidNumber" (.ref aInvalidNumber)) (k_InvalidNumber : PySem.W.kitOne K (.ref aI) (.ref aInvalidNumber) = some false) {aInvalidStretches : Addr} (c_InvalidStretches : ConAt K mg "InvalidStretches" (.ref aInvalidStretches)) (k_InvalidStretches : PySem.W.kitOne K (.ref aI) (.ref aInvalidStretches) = some false) (m_isinstance : mg "isinstance" = none) (m_repr : mg "repr" = none) (hsy : ∃ o, K.lookup sysModules = some o) : Cal P w K mg base "_law_refused" 7 ["_law_rows", "_law_accepting"] spd__law_refused := by
  refine cal_mk none Da sc__law_refused (fun _ _ _ _ _ _ us hl => match us, hl with | [_, _], _ => rfl) (fun bs R E h => ?_) (fun bs R E h => ?_) fun f cdv A outer s H E W bs R ED gu hr te h fh => ?_
  · obtain ⟨d, e, rfl, hb, q⟩ := h
    rfl
  · obtain ⟨d, e, rfl, hb, q⟩ := h
    exact pur_none (by simp [B.own])
  · obtain ⟨d, e, rfl, hb, q⟩ := h
    have nd := sc__law_refused.nd
    have hu := hr.units
    refine ⟨_, (dss_cons (ds_set (i := 2) nd rfl (by first | exact Or.inl rfl | exact Or.inr rfl) de_non) (dss_cons (ds_set (i := 3) nd rfl (by first | exact Or.inl rfl | exact Or.inr rfl) (de_reprPair gu hu hsy m_repr (i := 0) (j := 1) rfl rfl)) (dss_cons (ds_try (i := 4) (j := 2) (c := .ref a_EveryPairError) rfl rfl rfl nd rfl rfl rfl rfl ⟨rfl, by decide, .inl m_EveryPairError⟩ (fun _ _ _ _ te => (dss_one (ds_expr (de_makeX te mk_PairSet_2 gu hr (da_cons (de_v 0) (da_cons (de_v 1) da_nil))))))) (dss_cons (ds_if (DW.dt (dw_or (dt_not (dt_val (he := fun _ => rfl) (de_callB call_isZ (rc_isa (K := K)) rfl m_isinstance bt_isinstance (da_cons (de_v 2) (da_cons (de_con c_InvalidMachine) da_nil))))) (dw_or1 (dt_not (dt_val (he := fun _ => rfl) (de_callB call_isZ (rc_isa (K := K)) rfl m_isinstance bt_isinstance (da_cons (de_v 2) (da_cons (de_ty m_ValueError bt_ValueError) da_nil)))))))) (dss_one (ds_ret de_bl)) dss_nil) (dss_cons (ds_if (DW.dt (dw_or (dt_val (he := fun _ => rfl) (de_callB call_isZ (rc_isa (K := K)) rfl m_isinstance bt_isinstance (da_cons (de_v 2) (da_cons (de_con c_InvalidSet) da_nil)))) (dw_or (dt_val (he := fun _ => rfl) (de_callB call_isZ (rc_isa (K := K)) rfl m_isinstance bt_isinstance (da_cons (de_v 2) (da_cons (de_con c_InvalidList) da_nil)))) (dw_or1 (dt_val (he := fun _ => rfl) (de_callB call_isZ (rc_isa (K := K)) rfl m_isinstance bt_isinstance (da_cons (de_v 2) (da_cons (de_con c_InvalidMarks) da_nil)))))))) (dss_one (ds_ret de_bl)) dss_nil) (dss_cons (ds_if (DW.dt (dw_or (dt_val (he := fun _ => rfl) (de_callB call_isZ (rc_isa (K := K)) rfl m_isinstance bt_isinstance (da_cons (de_v 2) (da_cons (de_con c_InvalidNumber) da_nil)))) (dw_or1 (dt_val (he := fun _ => rfl) (de_callB call_isZ (rc_isa (K := K)) rfl m_isinstance bt_isinstance (da_cons (de_v 2) (da_cons (de_con c_InvalidStretches) da_nil))))))) (dss_one (ds_ret de_bl)) dss_nil) (dss_one (ds_ret (de_and (de_cmpR 3 (op_eqAll hu) rl_eq (de_callB (call_repr gu hu hsy) rc_repr rfl m_repr bt_repr (da_cons (de_xv (de_v 2)) da_nil))) (de_one (de_cmpR 3 (op_eqAll hu) rl_eq (de_reprPair gu hu hsy m_repr (i := 0) (j := 1) rfl rfl)))))))))))), ?_⟩
    have rT : ∀ z : Str, eqD (.str z) (.str z) = some true := fun z => eqD_str.trans (by rw [decide_eq_true rfl])
    obtain ⟨c, tc, sh⟩ := hb.rs.shw (by decide) (by decide)
    refine dseq ?_
    simp only [zM, dTry, eKeep]
    refine dseq ?_
    simp only [zM, dTry, eKeep]
    refine ⟨c, tc, sh, dseq ?_⟩
    simp only [zM, dTry, eKeep]
    refine ⟨_, d, e, rfl, rfl, rfl, hb.m, .inr ⟨hb.no, _, rfl, kx, dseq ?_⟩⟩
    simp only [zM, isa_exc xI kitOne_self, isa_excT xI kV, Bool.false_eq_true, if_false, Bool.not_true]
    refine dseq ?_
    simp only [zM, isa_exc xI k_InvalidSet, isa_exc xI k_InvalidList, isa_exc xI k_InvalidMarks, isa_exc xI k_InvalidNumber, isa_exc xI k_InvalidStretches]
    refine dseq ?_
    simp only [zM, isa_exc xI k_InvalidNumber, isa_exc xI k_InvalidStretches]
    exact ⟨xI, c, tc, sh, true, rT _, iteT ⟨c, tc, sh, true, rT _, 0, q⟩⟩
end
end K

set_option Elab.async false
set_option linter.all false
set_option maxRecDepth 100000
set_option maxHeartbeats 8000000
namespace K
open PySem PySem.Spec PyProof.Rows L2 DD
local macro_rules | `(tactic| simp only [zP]) => `(tactic| simp only [startD, List.map_cons, List.map_nil, List.length_cons, List.length_nil, Nat.reduceAdd, Nat.reduceSub, List.replicate, List.cons_append, List.nil_append, dSeq, dSet, dIfS, dT, dOp, dCB, dCons, dNil, dV, dM, dC, dp, dNext, dRet, dRetN, dLst, dTup, dDrop, dNot, dAnd, dOr, dAndV, dOrV, dNotV, intG, intG0, lenG, lenD, ixG, itemD, intCG, intOf, maxG, List.getElem?_cons_zero, List.getElem?_cons_succ, List.set_cons_zero, List.set_cons_succ, Option.some.injEq, B.isU, B.d, B.rd, exists_eq_left', exists_eq_left, exists_and_left, true_and, and_true, B.p.injEq, DD.D.bl.injEq, DD.D.int.injEq, List.cons.injEq, DD.PC, decide_eq_true_eq, and_assoc, Option.map_some, dLc, iAny, walked, wipeE, gN, dCall, dCallP, dCallF, eqG, neG, Bool.not_true, Bool.not_false, if_true, if_false, Bool.false_eq_true, reduceIte, List.append_nil, dCBK, addG, dM1, gT, gsCons, gsNil, iEnumD, dAsP, iR1, dPart, dNo, dSl, freB, lstD, List.all_cons, List.all_nil, litD, Bool.and_self, dReprPair, dDctN, itemD2, ixG2, keyD, lookD, strG2, dPar, bCons, bNil, dFor, List.zip_cons_cons, List.zip_nil_right, List.foldl_cons, List.foldl_nil, dApp, B.o.injEq, DD.D.lst.injEq, DD.D.tup.injEq, exists_eq', dDct0, B.u.injEq, sizeLine_eq, Nat.reduceLeDiff, Nat.reduceLT, Nat.zero_le, true_implies, slG, List.length_map, tupleG, seqD, listG, iR2, List.length_take, List.length_drop, List.length_append, DD.D.str.injEq, mulG, dAsg, dFld, lookF, dSetF, setF, dProp, dMeth, dMake, dMakeK, cxOf_K, dChain, notNG, isNG, isNon_non, isNon_bl, isNon_int, isNon_str, isNon_lst, isNon_tup, isNon_dct, isNon_ins, isNon_exc, dXv, reprG, DD.D.ins.injEq, DD.D.exc.injEq, cmpIG, neIG, clsD, Option.bind_some, B.s.injEq, if_true, if_false, dNeg, dLenSet, dIndex, dClrE, dAppE, dCallK, eqKG, sortedSG])
local macro_rules | `(tactic| simp only [zP, $xs,*]) => `(tactic| simp only [startD, List.map_cons, List.map_nil, List.length_cons, List.length_nil, Nat.reduceAdd, Nat.reduceSub, List.replicate, List.cons_append, List.nil_append, dSeq, dSet, dIfS, dT, dOp, dCB, dCons, dNil, dV, dM, dC, dp, dNext, dRet, dRetN, dLst, dTup, dDrop, dNot, dAnd, dOr, dAndV, dOrV, dNotV, intG, intG0, lenG, lenD, ixG, itemD, intCG, intOf, maxG, List.getElem?_cons_zero, List.getElem?_cons_succ, List.set_cons_zero, List.set_cons_succ, Option.some.injEq, B.isU, B.d, B.rd, exists_eq_left', exists_eq_left, exists_and_left, true_and, and_true, B.p.injEq, DD.D.bl.injEq, DD.D.int.injEq, List.cons.injEq, DD.PC, decide_eq_true_eq, and_assoc, Option.map_some, dLc, iAny, walked, wipeE, gN, dCall, dCallP, dCallF, eqG, neG, Bool.not_true, Bool.not_false, if_true, if_false, Bool.false_eq_true, reduceIte, List.append_nil, dCBK, addG, dM1, gT, gsCons, gsNil, iEnumD, dAsP, iR1, dPart, dNo, dSl, freB, lstD, List.all_cons, List.all_nil, litD, Bool.and_self, dReprPair, dDctN, itemD2, ixG2, keyD, lookD, strG2, dPar, bCons, bNil, dFor, List.zip_cons_cons, List.zip_nil_right, List.foldl_cons, List.foldl_nil, dApp, B.o.injEq, DD.D.lst.injEq, DD.D.tup.injEq, exists_eq', dDct0, B.u.injEq, sizeLine_eq, Nat.reduceLeDiff, Nat.reduceLT, Nat.zero_le, true_implies, slG, List.length_map, tupleG, seqD, listG, iR2, List.length_take, List.length_drop, List.length_append, DD.D.str.injEq, mulG, dAsg, dFld, lookF, dSetF, setF, dProp, dMeth, dMake, dMakeK, cxOf_K, dChain, notNG, isNG, isNon_non, isNon_bl, isNon_int, isNon_str, isNon_lst, isNon_tup, isNon_dct, isNon_ins, isNon_exc, dXv, reprG, DD.D.ins.injEq, DD.D.exc.injEq, cmpIG, neIG, clsD, Option.bind_some, B.s.injEq, if_true, if_false, dNeg, dLenSet, dIndex, dClrE, dAppE, dCallK, eqKG, sortedSG, $xs,*])
local macro_rules | `(tactic| simp only [zQ]) => `(tactic| simp only [startD, List.map_cons, List.map_nil, List.length_cons, List.length_nil, Nat.reduceAdd, Nat.reduceSub, List.replicate, List.cons_append, List.nil_append, dSet, dIfS, dT, dOp, dCB, dCons, dNil, dV, dM, dC, dp, dNext, dRet, dRetN, dLst, dTup, dDrop, dNot, dAnd, dOr, dAndV, dOrV, dNotV, intG, intG0, lenG, lenD, ixG, itemD, intCG, intOf, maxG, List.getElem?_cons_zero, List.getElem?_cons_succ, List.set_cons_zero, List.set_cons_succ, Option.some.injEq, B.isU, B.d, B.rd, exists_eq_left', exists_eq_left, exists_and_left, true_and, and_true, B.p.injEq, DD.D.bl.injEq, DD.D.int.injEq, List.cons.injEq, DD.PC, decide_eq_true_eq, and_assoc, Option.map_some, dLc, iAny, walked, wipeE, gN, dCall, dCallP, dCallF, eqG, neG, Bool.not_true, Bool.not_false, if_true, if_false, Bool.false_eq_true, reduceIte, List.append_nil, dCBK, addG, dM1, gT, gsCons, gsNil, iEnumD, dAsP, iR1, dPart, dNo, dSl, freB, lstD, List.all_cons, List.all_nil, litD, Bool.and_self, dReprPair, dDctN, itemD2, ixG2, keyD, lookD, strG2, dPar, bCons, bNil, dFor, List.zip_cons_cons, List.zip_nil_right, List.foldl_cons, List.foldl_nil, dApp, B.o.injEq, DD.D.lst.injEq, DD.D.tup.injEq, exists_eq', dDct0, B.u.injEq, sizeLine_eq, Nat.reduceLeDiff, Nat.reduceLT, Nat.zero_le, true_implies, slG, List.length_map, tupleG, seqD, listG, iR2, List.length_take, List.length_drop, List.length_append, DD.D.str.injEq, mulG, dAsg, dFld, lookF, dSetF, setF, dProp, dMeth, dMake, dMakeK, cxOf_K, dChain, notNG, isNG, isNon_non, isNon_bl, isNon_int, isNon_str, isNon_lst, isNon_tup, isNon_dct, isNon_ins, isNon_exc, dXv, reprG, DD.D.ins.injEq, DD.D.exc.injEq, cmpIG, neIG, clsD, Option.bind_some, B.s.injEq, if_true, if_false, dNeg, dLenSet, dIndex, dClrE, dAppE, dCallK, eqKG, sortedSG])
local macro_rules | `(tactic| simp only [zQ, $xs,*]) => `(tactic| simp only [startD, List.map_cons, List.map_nil, List.length_cons, List.length_nil, Nat.reduceAdd, Nat.reduceSub, List.replicate, List.cons_append, List.nil_append, dSet, dIfS, dT, dOp, dCB, dCons, dNil, dV, dM, dC, dp, dNext, dRet, dRetN, dLst, dTup, dDrop, dNot, dAnd, dOr, dAndV, dOrV, dNotV, intG, intG0, lenG, lenD, ixG, itemD, intCG, intOf, maxG, List.getElem?_cons_zero, List.getElem?_cons_succ, List.set_cons_zero, List.set_cons_succ, Option.some.injEq, B.isU, B.d, B.rd, exists_eq_left', exists_eq_left, exists_and_left, true_and, and_true, B.p.injEq, DD.D.bl.injEq, DD.D.int.injEq, List.cons.injEq, DD.PC, decide_eq_true_eq, and_assoc, Option.map_some, dLc, iAny, walked, wipeE, gN, dCall, dCallP, dCallF, eqG, neG, Bool.not_true, Bool.not_false, if_true, if_false, Bool.false_eq_true, reduceIte, List.append_nil, dCBK, addG, dM1, gT, gsCons, gsNil, iEnumD, dAsP, iR1, dPart, dNo, dSl, freB, lstD, List.all_cons, List.all_nil, litD, Bool.and_self, dReprPair, dDctN, itemD2, ixG2, keyD, lookD, strG2, dPar, bCons, bNil, dFor, List.zip_cons_cons, List.zip_nil_right, List.foldl_cons, List.foldl_nil, dApp, B.o.injEq, DD.D.lst.injEq, DD.D.tup.injEq, exists_eq', dDct0, B.u.injEq, sizeLine_eq, Nat.reduceLeDiff, Nat.reduceLT, Nat.zero_le, true_implies, slG, List.length_map, tupleG, seqD, listG, iR2, List.length_take, List.length_drop, List.length_append, DD.D.str.injEq, mulG, dAsg, dFld, lookF, dSetF, setF, dProp, dMeth, dMake, dMakeK, cxOf_K, dChain, notNG, isNG, isNon_non, isNon_bl, isNon_int, isNon_str, isNon_lst, isNon_tup, isNon_dct, isNon_ins, isNon_exc, dXv, reprG, DD.D.ins.injEq, DD.D.exc.injEq, cmpIG, neIG, clsD, Option.bind_some, B.s.injEq, if_true, if_false, dNeg, dLenSet, dIndex, dClrE, dAppE, dCallK, eqKG, sortedSG, $xs,*])
local macro_rules | `(tactic| simp only [zM]) => `(tactic| simp only [startD, List.map_cons, List.map_nil, List.length_cons, List.length_nil, Nat.reduceAdd, Nat.reduceSub, List.replicate, List.cons_append, List.nil_append, dSet, dIfS, dT, dOp, dCB, dCons, dNil, dV, dM, dC, dp, dNext, dRet, dRetN, dLst, dTup, dDrop, dNot, dAnd, dOr, dAndV, dOrV, dNotV, intG, intG0, lenG, lenD, ixG, itemD, intCG, intOf, maxG, List.getElem?_cons_zero, List.getElem?_cons_succ, List.set_cons_zero, List.set_cons_succ, Option.some.injEq, B.isU, B.d, B.rd, exists_eq_left', exists_eq_left, exists_and_left, true_and, and_true, B.p.injEq, DD.D.bl.injEq, DD.D.int.injEq, List.cons.injEq, DD.PC, decide_eq_true_eq, and_assoc, Option.map_some, dLc, iAny, walked, wipeE, gN, dCall, dCallP, dCallF, eqG, neG, Bool.not_true, Bool.not_false, if_true, if_false, Bool.false_eq_true, reduceIte, List.append_nil, dCBK, addG, dM1, gT, gsCons, gsNil, iEnumD, dAsP, iR1, dPart, dNo, dSl, freB, lstD, List.all_cons, List.all_nil, litD, Bool.and_self, dReprPair, dDctN, itemD2, ixG2, keyD, lookD, strG2, dPar, bCons, bNil, dFor, List.zip_cons_cons, List.zip_nil_right, List.foldl_cons, List.foldl_nil, dApp, B.o.injEq, DD.D.lst.injEq, DD.D.tup.injEq, exists_eq', dDct0, B.u.injEq, sizeLine_eq, Nat.reduceLeDiff, Nat.reduceLT, Nat.zero_le, true_implies, slG, List.length_map, tupleG, seqD, listG, iR2, List.length_take, List.length_drop, List.length_append, DD.D.str.injEq, mulG, dAsg, dFld, lookF, dSetF, setF, dProp, dMeth, dMake, dMakeK, cxOf_K, dChain, notNG, isNG, isNon_non, isNon_bl, isNon_int, isNon_str, isNon_lst, isNon_tup, isNon_dct, isNon_ins, isNon_exc, dXv, reprG, DD.D.ins.injEq, DD.D.exc.injEq, cmpIG, neIG, clsD, Option.bind_some, B.s.injEq, if_true, if_false, dNeg, dLenSet, dIndex, dClrE, dAppE, dCallK, eqKG, sortedSG, dNL, dNR, slotD, eqL, neL, inL, isInX, ixL, itemX, getD', lenX, dLenN, dGet2, dPutN, ownS, setX, dRev, dClr, dPop, dPopAt, dExt, dAug, dDc, dLend, lendE, lend1, lentB, isLD, dDctT, dLenSetA, keyT, keyL, List.mem_cons, List.not_mem_nil, or_false, false_or, or_true, true_or, Nat.reduceEqDiff, decide_true, decide_false, Bool.or_true, Bool.true_or, Bool.false_or, Bool.or_false, Bool.and_true, Bool.true_and, reduceCtorEq, DD.D.dct.injEq, DD.D.dcT.injEq, dDctT0, nilG, nilL, List.isEmpty_nil, List.isEmpty_cons])
local macro_rules | `(tactic| simp only [zM, $xs,*]) => `(tactic| simp only [startD, List.map_cons, List.map_nil, List.length_cons, List.length_nil, Nat.reduceAdd, Nat.reduceSub, List.replicate, List.cons_append, List.nil_append, dSet, dIfS, dT, dOp, dCB, dCons, dNil, dV, dM, dC, dp, dNext, dRet, dRetN, dLst, dTup, dDrop, dNot, dAnd, dOr, dAndV, dOrV, dNotV, intG, intG0, lenG, lenD, ixG, itemD, intCG, intOf, maxG, List.getElem?_cons_zero, List.getElem?_cons_succ, List.set_cons_zero, List.set_cons_succ, Option.some.injEq, B.isU, B.d, B.rd, exists_eq_left', exists_eq_left, exists_and_left, true_and, and_true, B.p.injEq, DD.D.bl.injEq, DD.D.int.injEq, List.cons.injEq, DD.PC, decide_eq_true_eq, and_assoc, Option.map_some, dLc, iAny, walked, wipeE, gN, dCall, dCallP, dCallF, eqG, neG, Bool.not_true, Bool.not_false, if_true, if_false, Bool.false_eq_true, reduceIte, List.append_nil, dCBK, addG, dM1, gT, gsCons, gsNil, iEnumD, dAsP, iR1, dPart, dNo, dSl, freB, lstD, List.all_cons, List.all_nil, litD, Bool.and_self, dReprPair, dDctN, itemD2, ixG2, keyD, lookD, strG2, dPar, bCons, bNil, dFor, List.zip_cons_cons, List.zip_nil_right, List.foldl_cons, List.foldl_nil, dApp, B.o.injEq, DD.D.lst.injEq, DD.D.tup.injEq, exists_eq', dDct0, B.u.injEq, sizeLine_eq, Nat.reduceLeDiff, Nat.reduceLT, Nat.zero_le, true_implies, slG, List.length_map, tupleG, seqD, listG, iR2, List.length_take, List.length_drop, List.length_append, DD.D.str.injEq, mulG, dAsg, dFld, lookF, dSetF, setF, dProp, dMeth, dMake, dMakeK, cxOf_K, dChain, notNG, isNG, isNon_non, isNon_bl, isNon_int, isNon_str, isNon_lst, isNon_tup, isNon_dct, isNon_ins, isNon_exc, dXv, reprG, DD.D.ins.injEq, DD.D.exc.injEq, cmpIG, neIG, clsD, Option.bind_some, B.s.injEq, if_true, if_false, dNeg, dLenSet, dIndex, dClrE, dAppE, dCallK, eqKG, sortedSG, dNL, dNR, slotD, eqL, neL, inL, isInX, ixL, itemX, getD', lenX, dLenN, dGet2, dPutN, ownS, setX, dRev, dClr, dPop, dPopAt, dExt, dAug, dDc, dLend, lendE, lend1, lentB, isLD, dDctT, dLenSetA, keyT, keyL, List.mem_cons, List.not_mem_nil, or_false, false_or, or_true, true_or, Nat.reduceEqDiff, decide_true, decide_false, Bool.or_true, Bool.true_or, Bool.false_or, Bool.or_false, Bool.and_true, Bool.true_and, reduceCtorEq, DD.D.dct.injEq, DD.D.dcT.injEq, dDctT0, nilG, nilL, List.isEmpty_nil, List.isEmpty_cons, $xs,*])
section
variable {P : Program} {w : World} {K : PySem.W.Frag} {mg : Str → Option Value} {base : Heap}

theorem bent_of {d e : D} (hd : dat d = true) (he : dat e = true) (h1 : ∀ ds, d = .lst ds → ds.length ≤ 61 ∧ ∀ x ∈ ds, rowish x ∧ Rs 50 3 x) (h2 : ∀ ds, e = .lst ds → ds.length ≤ 62 ∧ ∀ x ∈ ds, dat x = true ∧ Rs 50 3 x)
    (rd : (∀ ds, d ≠ .lst ds) → Rs 4000 4 d) (re : (∀ ds, e ≠ .lst ds) → Rs 4000 4 e) (no : isMach d e = false) : Bent d e := by
  refine ⟨⟨hd, he, fun ds h => ⟨by have := (h1 ds h).1; omega, fun x hx => ((h1 ds h).2 x hx).1⟩, fun ds h => ⟨by have := (h2 ds h).1; omega, fun x hx => ((h2 ds h).2 x hx).1⟩⟩, no, ?_⟩
  have r1 : Rs 4000 4 d := by
    cases d with
    | lst ds => exact (rs_lst (fun x hx => ((h1 ds rfl).2 x hx).2) (h1 ds rfl).1).mono (by decide) (by decide)
    | _ => exact rd (fun ds z => by cases z)
  have r2 : Rs 4000 4 e := by
    cases e with
    | lst ds => exact (rs_lst (fun x hx => ((h2 ds rfl).2 x hx).2) (h2 ds rfl).1).mono (by decide) (by decide)
    | _ => exact re (fun ds z => by cases z)
  refine (rs_tup (n := 4000) (k := 4) (m := 2) (ds := [d, e]) (fun x hx => ?_) (Nat.le_refl 2)).mono (by decide) (by decide)
  simp only [List.mem_cons, List.not_mem_nil, or_false] at hx
  rcases hx with rfl | rfl
  · exact r1
  · exact r2
theorem row_ok {r : MRow} {N : Nat} (h : r.1 < N ∧ r.2.1 < N ∧ r.2.2 < N) (hN : N ≤ 60) : rowish (rowD r) ∧ Rs 50 3 (rowD r) := by
  refine ⟨⟨rfl, fun xs e y hy => ?_, fun xs e => (by cases e)⟩, (rs_tup (n := 0) (k := 0) (m := 3) (ds := [.int (r.1 : Nat), .int (r.2.1 : Nat), .int (r.2.2 : Nat)]) (fun x hx => ?_) (Nat.le_refl 3)).mono (by decide) (by decide)⟩
  · cases e
    simp only [List.mem_cons, List.not_mem_nil, or_false] at hy
    rcases hy with rfl | rfl | rfl <;> rfl
  · simp only [List.mem_cons, List.not_mem_nil, or_false] at hx
    rcases hx with rfl | rfl | rfl <;> exact rs_int (by omega)
theorem rows_ok {rs : List MRow} {acc : List Nat} (ok : TableOk 60 rs acc) : (rs.map rowD).length ≤ 61 ∧ ∀ x ∈ rs.map rowD, rowish x ∧ Rs 50 3 x := by
  have := ok.le
  refine ⟨by rw [List.length_map]; omega, fun x hx => ?_⟩
  obtain ⟨r, hr, rfl⟩ := List.mem_map.mp hx
  exact row_ok (ok.ok.lt r hr) ok.le
theorem accs_ok {rs : List MRow} {acc : List Nat} (ok : TableOk 60 rs acc) : (acc.map iD).length ≤ 61 ∧ ∀ x ∈ acc.map iD, dat x = true ∧ Rs 50 3 x := by
  have h0 := ok.le
  have := Nat.le_trans (OrdOk.len ⟨ok.nd, ok.lt⟩) ok.le
  refine ⟨by rw [List.length_map]; omega, fun x hx => ?_⟩
  obtain ⟨a, ha, rfl⟩ := List.mem_map.mp hx
  have := ok.lt a ha
  exact ⟨rfl, (rs_int (by omega)).mono (by decide) (by decide)⟩
theorem bent_d {rs : List MRow} {acc : List Nat} (ok : TableOk 60 rs acc) {d : D} (hd : dat d = true) (nl : isLst d = false) (r : Rs 4000 4 d) : Bent d (.lst (acc.map iD)) := by
  refine bent_of hd rfl (fun ds e => ?_) (fun ds e => ?_) (fun _ => r) (fun z => absurd rfl (z _)) ?_
  · rw [e] at nl
    cases nl
  · cases e
    have := accs_ok ok
    exact ⟨by omega, this.2⟩
  · cases d <;> first | rfl | cases nl
theorem bent_e {rs : List MRow} {acc : List Nat} (ok : TableOk 60 rs acc) {e : D} (he : dat e = true) (nl : isLst e = false) (r : Rs 4000 4 e) : Bent (.lst (rs.map rowD)) e := by
  refine bent_of rfl he (fun ds z => ?_) (fun ds z => ?_) (fun z => absurd rfl (z _)) (fun _ => r) ?_
  · cases z
    exact rows_ok ok
  · rw [z] at nl
    cases nl
  · cases e <;> first | rfl | cases nl
theorem bent_row {rs : List MRow} {acc : List Nat} (ok : TableOk 60 rs acc) {p q : List D} {x : D} (hp : ∀ y ∈ p, y ∈ rs.map rowD) (hq : ∀ y ∈ q, y ∈ rs.map rowD) (hl : (p ++ [x] ++ q).length = rs.length) (hx : rowish x ∧ Rs 50 3 x) (no : isRow rs.length x = false) : Bent (.lst (p ++ [x] ++ q)) (.lst (acc.map iD)) := by
  have h0 := ok.le
  refine bent_of rfl rfl (fun ds e => ?_) (fun ds e => ?_) (fun z => absurd rfl (z _)) (fun z => absurd rfl (z _)) ?_
  · cases e
    refine ⟨by omega, fun y hy => ?_⟩
    rcases List.mem_append.mp hy with z | z
    · rcases List.mem_append.mp z with z | z
      · exact (rows_ok ok).2 y (hp y z)
      · rw [List.mem_singleton.mp z]
        exact hx
    · exact (rows_ok ok).2 y (hq y z)
  · cases e
    have := accs_ok ok
    exact ⟨by omega, this.2⟩
  · have h : (p ++ [x] ++ q).all (isRow (p ++ [x] ++ q).length) = false := by
      rw [hl, List.all_append, List.all_append, List.all_cons, no, Bool.false_and, Bool.and_false, Bool.false_and]
    show (_ && _ && _) = false
    rw [h, Bool.and_false, Bool.false_and]
theorem bent_acc {rs : List MRow} {acc : List Nat} (ok : TableOk 60 rs acc) {p q : List D} {x : D} (hp : ∀ y ∈ p, y ∈ acc.map iD) (hq : ∀ y ∈ q, y ∈ acc.map iD) (hl : (p ++ [x] ++ q).length = acc.length + 1) (hx : dat x = true ∧ Rs 50 3 x) (no : accOk rs.length (p ++ [x] ++ q) = false) : Bent (.lst (rs.map rowD)) (.lst (p ++ [x] ++ q)) := by
  have h1 := accs_ok ok
  rw [List.length_map] at h1
  refine bent_of rfl rfl (fun ds e => ?_) (fun ds e => ?_) (fun z => absurd rfl (z _)) (fun z => absurd rfl (z _)) ?_
  · cases e
    exact rows_ok ok
  · cases e
    refine ⟨by omega, fun y hy => ?_⟩
    rcases List.mem_append.mp hy with z | z
    · rcases List.mem_append.mp z with z | z
      · exact h1.2 y (hp y z)
      · rw [List.mem_singleton.mp z]
        exact hx
    · exact h1.2 y (hq y z)
  · show (_ && _ && accOk (rs.map rowD).length (p ++ [x] ++ q)) = false
    rw [List.length_map, no, Bool.and_false]
theorem at_2 {a b c : D} {l : List D} : atI (a :: b :: c :: l) 2 = some c := atI_nat (j := 2) rfl
theorem set_row {r : MRow} {N k : Nat} {x : D} (h : r.1 < N ∧ r.2.1 < N ∧ r.2.2 < N) (hN : N ≤ 60) (xs : isSt N x = false) (xd : dat x = true) (xr : Rs 2 1 x) (hk : k < 3) :
    ∃ y1 y2 y3, (ixN 3 (k : Int)).map (fun j => D.lst ([D.int (r.1 : Nat), D.int (r.2.1 : Nat), D.int (r.2.2 : Nat)].set j x)) = some (.lst [y1, y2, y3]) ∧ (rowish (.tup [y1, y2, y3]) ∧ Rs 50 3 (.tup [y1, y2, y3])) ∧ isRow N (.tup [y1, y2, y3]) = false := by
  have ri : ∀ {a : Nat}, a < N → dat (.int (a : Nat)) = true ∧ Rs 2 1 (.int (a : Nat)) := fun ha => ⟨rfl, (rs_int (by omega)).mono (by decide) (by decide)⟩
  have mk : ∀ {y1 y2 y3 : D}, (dat y1 = true ∧ Rs 2 1 y1) → (dat y2 = true ∧ Rs 2 1 y2) → (dat y3 = true ∧ Rs 2 1 y3) → rowish (.tup [y1, y2, y3]) ∧ Rs 50 3 (.tup [y1, y2, y3]) := fun {y1 y2 y3} g1 g2 g3 => by
    have al : ∀ y ∈ [y1, y2, y3], dat y = true ∧ Rs 2 1 y := fun y hy => by
      simp only [List.mem_cons, List.not_mem_nil, or_false] at hy
      rcases hy with rfl | rfl | rfl
      · exact g1
      · exact g2
      · exact g3
    exact ⟨⟨rfl, fun zs e y hy => (by cases e; exact (al y hy).1), fun zs e => (by cases e)⟩, (rs_tup (n := 2) (k := 1) (m := 3) (ds := [y1, y2, y3]) (fun y hy => (al y hy).2) (Nat.le_refl 3)).mono (by decide) (by decide)⟩
  match k, hk with
  | 0, _ => exact ⟨_, _, _, rfl, mk ⟨xd, xr⟩ (ri h.2.1) (ri h.2.2), by show (isSt N x && _ && _) = false; rw [xs, Bool.false_and, Bool.false_and]⟩
  | 1, _ => exact ⟨_, _, _, rfl, mk (ri h.1) ⟨xd, xr⟩ (ri h.2.2), by show (_ && isSt N x && _) = false; rw [xs, Bool.and_false, Bool.false_and]⟩
  | 2, _ => exact ⟨_, _, _, rfl, mk (ri h.1) (ri h.2.1) ⟨xd, xr⟩, by show (_ && isSt N x) = false; rw [xs, Bool.and_false]⟩
theorem sIx_nat {n d k : Nat} (h : k ≤ n) : HT.sIx n d (some (k : Int)) = k := by
  unfold HT.sIx
  have h0 : ¬ ((k : Int) < 0) := by omega
  simp only [h0, if_false]
  omega
theorem sIx_non {n d : Nat} : HT.sIx n d none = d := rfl
theorem cutD_take {ds : List D} {k : Nat} (h : k ≤ ds.length) : DD.cutD ds none (some (k : Int)) = ds.take k := by
  unfold DD.cutD
  rw [sIx_nat h, sIx_non, List.drop_zero, Nat.sub_zero]
theorem cutD_drop {ds : List D} {k : Nat} (h : k ≤ ds.length) : DD.cutD ds (some (k : Int)) none = ds.drop k := by
  unfold DD.cutD
  rw [sIx_nat h, sIx_non]
  exact List.take_of_length_le (by rw [List.length_drop]; omega)
def odd2 (r : MRow) : List D := [.lst [.int (r.1 : Nat), .int (r.2.1 : Nat), .int (r.2.2 : Nat)], .tup [.int (r.1 : Nat), .int (r.2.1 : Nat)], .tup [.int (r.1 : Nat), .int (r.2.1 : Nat), .int (r.2.2 : Nat), .int 0], .tup [], .non, .str "chb", .int 0, .tup [rowD r, rowD r, rowD r]]
theorem odd2_ok {r : MRow} {N : Nat} (h : r.1 < N ∧ r.2.1 < N ∧ r.2.2 < N) (hN : N ≤ 60) : ∀ x ∈ odd2 r, (rowish x ∧ Rs 50 3 x) ∧ isRow N x = false := by
  have ri : ∀ {a : Nat}, a < N → Rs 0 0 (.int (a : Nat)) := fun ha => rs_int (by omega)
  have tp : ∀ {ys : List D}, ys.length ≤ 4 → (∀ y ∈ ys, dat y = true ∧ Rs 0 0 y) → rowish (.tup ys) ∧ Rs 50 3 (.tup ys) := fun {ys} hl al =>
    ⟨⟨rfl, fun zs e y hy => (by cases e; exact (al y hy).1), fun zs e => (by cases e)⟩, (rs_tup (n := 0) (k := 0) (m := 4) (ds := ys) (fun y hy => (al y hy).2) hl).mono (by decide) (by decide)⟩
  have nt : ∀ {x : D}, dat x = true → isTup x = false → rowish x := fun {x} h1 h2 => ⟨h1, fun zs e => (by rw [e] at h2; cases h2), fun zs e => (by rw [e] at h2; cases h2)⟩
  intro x hx
  simp only [odd2, List.mem_cons, List.not_mem_nil, or_false] at hx
  rcases hx with rfl | rfl | rfl | rfl | rfl | rfl | rfl | rfl
  · refine ⟨⟨nt rfl rfl, (rs_lst (n := 0) (k := 0) (m := 3) (ds := [.int (r.1 : Nat), .int (r.2.1 : Nat), .int (r.2.2 : Nat)]) (fun y hy => ?_) (Nat.le_refl 3)).mono (by decide) (by decide)⟩, rfl⟩
    simp only [List.mem_cons, List.not_mem_nil, or_false] at hy
    rcases hy with rfl | rfl | rfl
    · exact ri h.1
    · exact ri h.2.1
    · exact ri h.2.2
  · refine ⟨tp (show 2 ≤ 4 by decide) fun y hy => ?_, rfl⟩
    simp only [List.mem_cons, List.not_mem_nil, or_false] at hy
    rcases hy with rfl | rfl
    · exact ⟨rfl, ri h.1⟩
    · exact ⟨rfl, ri h.2.1⟩
  · refine ⟨tp (show 4 ≤ 4 by decide) fun y hy => ?_, rfl⟩
    simp only [List.mem_cons, List.not_mem_nil, or_false] at hy
    rcases hy with rfl | rfl | rfl | rfl
    · exact ⟨rfl, ri h.1⟩
    · exact ⟨rfl, ri h.2.1⟩
    · exact ⟨rfl, ri h.2.2⟩
    · exact ⟨rfl, rs_int (by decide)⟩
  · exact ⟨tp (by decide) fun y hy => (by cases hy), rfl⟩
  · exact ⟨⟨nt rfl rfl, rs_non.mono (by decide) (by decide)⟩, rfl⟩
  · exact ⟨⟨nt rfl rfl, (rs_str (n := 3) (by decide) (by decide)).mono (by decide) (by decide)⟩, rfl⟩
  · exact ⟨⟨nt rfl rfl, (rs_int (by decide)).mono (by decide) (by decide)⟩, rfl⟩
  · have rr : Rs 3 1 (rowD r) := by
      refine (rs_tup (n := 0) (k := 0) (m := 3) (ds := [.int (r.1 : Nat), .int (r.2.1 : Nat), .int (r.2.2 : Nat)]) (fun y hy => ?_) (Nat.le_refl 3))
      simp only [List.mem_cons, List.not_mem_nil, or_false] at hy
      rcases hy with rfl | rfl | rfl
      · exact ri h.1
      · exact ri h.2.1
      · exact ri h.2.2
    have al : ∀ y ∈ [rowD r, rowD r, rowD r], y = rowD r := fun y hy => by
      simp only [List.mem_cons, List.not_mem_nil, or_false, or_self] at hy
      exact hy
    exact ⟨⟨⟨rfl, fun zs e y hy => (by cases e; rw [al y hy]; rfl), fun zs e => (by cases e)⟩, (rs_tup (n := 3) (k := 1) (m := 3) (ds := [rowD r, rowD r, rowD r]) (fun y hy => (by rw [al y hy]; exact rr)) (Nat.le_refl 3)).mono (by decide) (by decide)⟩, rfl⟩
theorem st_map : ∀ {l : List Nat}, (l.map iD).filterMap stOf = l.map fun n : Nat => (n : Int)
  | [] => rfl
  | a :: l => by
    rw [List.map_cons, List.filterMap_cons, show stOf (iD a) = some (a : Int) from rfl, st_map (l := l)]
    rfl
theorem dup_bad {N cut a : Nat} {acc : List Nat} (ha : a ∈ acc) : accOk N ((acc.map iD).take cut ++ [iD a] ++ (acc.map iD).drop cut) = false := by
  unfold accOk
  have nd : ¬ (((acc.map iD).take cut ++ [iD a] ++ (acc.map iD).drop cut).filterMap stOf).Nodup := by
    intro h
    rw [← List.map_take, ← List.map_drop, List.filterMap_append, List.filterMap_append, st_map, st_map, show [iD a].filterMap stOf = [(a : Int)] from rfl] at h
    rw [← List.take_append_drop cut acc] at ha
    rcases List.mem_append.mp ha with z | z
    · have h1 := (List.nodup_append.mp h).1
      exact (List.nodup_append.mp h1).2.2 (a : Int) (List.mem_map.mpr ⟨a, z, rfl⟩) (a : Int) List.mem_cons_self rfl
    · exact (List.nodup_append.mp h).2.2 (a : Int) (List.mem_append_right _ List.mem_cons_self) (a : Int) (List.mem_map.mpr ⟨a, z, rfl⟩) rfl
  rw [decide_eq_false nd, Bool.and_false]
def bD2 (x : D × D) : D := .tup [x.1, x.2]

abbrev s__law_bent : Stmt := topS 49
theorem sc__law_bent : FnScope ["_law_purse_here", "_law_table_here", "_law_rows", "_law_accepting", "_law_at", "_law_k", "_law_bent_here", "_law_odd", "_law_row", "_law_cut", "_law_twice"] ["_law_purse_here", "_law_table_here"] (defScope s__law_bent) := ⟨rfl, rfl, rfl, by decide +kernel, rfl, by decide +kernel, by decide +kernel⟩
def spd__law_bent  : Spd := fun bs R _ => ∃ (n : Nat) (rs : List MRow) (acc : List Nat), bs = [.u true n, .p (tabD rs acc)] ∧ TableOk 60 rs acc ∧ n ≤ 800000 ∧ ∀ (L : List (D × D)) m, (∀ x ∈ L, Bent x.1 x.2) → L.length ≤ 100 → n ≤ m → m ≤ n + 100 → R (.o (.lst (L.map bD2))) m
theorem cal__law_bent (Da : DefAt K mg "_law_bent" s__law_bent) (c__law_draw : Cal P w K mg base "_law_draw" 1 ["_law_purse_here", "_law_many"] spdDraw) (c__law_odd_states : Cal P w K mg base "_law_odd_states" 2 ["_law_purse_here", "_law_many"] spd__law_odd_states) (m_len : mg "len" = none) (m_list : mg "list" = none) (m_tuple : mg "tuple" = none) : Cal P w K mg base "_law_bent" 4 ["_law_purse_here", "_law_table_here"] spd__law_bent := by
  refine cal_mk (some 0) Da sc__law_bent (fun _ _ _ _ _ _ us hl => match us, hl with | [_, _], _ => rfl) (fun bs R E h => ?_) (fun bs R E h => ?_) fun f cdv A outer s H E W bs R ED gu hr te h fh => ?_
  · obtain ⟨n, rs, acc, rfl, ok, hn, q⟩ := h
    rfl
  · obtain ⟨n, rs, acc, rfl, ok, hn, q⟩ := h
    exact pur_zero (by simp [B.own])
  · obtain ⟨n, rs, acc, rfl, ok, hn, q⟩ := h
    have nd := sc__law_bent.nd
    have hu := hr.units
    have ps := passes_of (X := cxOf (L2.CX P w) P w K mg base ["_law_purse_here", "_law_table_here", "_law_rows", "_law_accepting", "_law_at", "_law_k", "_law_bent_here", "_law_odd", "_law_row", "_law_cut", "_law_twice"] "_law_bent" (defScope s__law_bent) f cdv A outer s H E) rfl
    refine ⟨_, (dss_cons (ds_asg (de_v 1) (dg_tup (n := 2) rfl (dgs_cons (dg_name (i := 2) nd rfl (by first | exact Or.inl rfl | exact Or.inr rfl)) (dgs_cons (dg_name (i := 3) nd rfl (by first | exact Or.inl rfl | exact Or.inr rfl)) dgs_nil)))) (dss_cons (ds_par (i := 4) (j := 5) rfl nd rfl rfl (by decide) rfl rfl (db_cons (fun _ => (de_cP c__law_draw gu hr (i := 0) rfl (da_cons (de_lenN 2 m_len) da_nil))) (db_cons (fun _ => (de_cP c__law_draw gu hr (i := 0) rfl (da_cons de_int da_nil))) db_nil)) rfl) (dss_cons (ds_set (i := 6) nd rfl (by first | exact Or.inl rfl | exact Or.inr rfl) (de_lst (da_cons (de_tup (da_cons (de_lst da_nil) (da_cons (de_lst da_nil) da_nil))) (da_cons (de_tup (da_cons (de_lst da_nil) (da_cons (de_lst (da_cons de_int da_nil)) da_nil))) (da_cons (de_tup (da_cons (de_callTy call_tuple_of rc_tuple rfl m_tuple bt_tuple (da_cons (de_v 2) da_nil)) (da_cons (de_v 3) da_nil))) (da_cons (de_tup (da_cons de_non (da_cons (de_v 3) da_nil))) (da_cons (de_tup (da_cons de_dct0 (da_cons (de_v 3) da_nil))) (da_cons (de_tup (da_cons de_str (da_cons (de_v 3) da_nil))) da_nil)))))))) (dss_cons (ds_set (i := 6) nd rfl (by first | exact Or.inl rfl | exact Or.inr rfl) (de_op op_addAll rd_add (de_v 6) (de_lst (da_cons (de_tup (da_cons (de_v 2) (da_cons (de_callTy call_tuple_of rc_tuple rfl m_tuple bt_tuple (da_cons (de_v 3) da_nil)) da_nil))) (da_cons (de_tup (da_cons (de_v 2) (da_cons de_non da_nil))) (da_cons (de_tup (da_cons (de_v 2) (da_cons de_int da_nil))) (da_cons (de_tup (da_cons (de_v 2) (da_cons de_dct0 da_nil))) (da_cons (de_tup (da_cons (de_v 2) (da_cons de_str da_nil))) (da_cons (de_tup (da_cons (de_v 2) (da_cons de_bl da_nil))) da_nil))))))))) (dss_cons (ds_for te ps rfl (di_any (de_cP c__law_odd_states gu hr (i := 0) rfl (da_cons (de_lenN 2 m_len) da_nil))) (fun _ => (dg_name (i := 7) nd rfl (by first | exact Or.inl rfl | exact Or.inr rfl))) (fun _ te => (dss_cons (ds_set (i := 8) nd rfl (by first | exact Or.inl rfl | exact Or.inr rfl) (de_callTy call_list_of rc_list rfl m_list bt_list (da_cons (de_ixN 2 hu (de_v 4) (fun _ _ => rfl)) da_nil))) (dss_cons (ds_putN 8 hu (de_v 7) (de_v 5)) (dss_cons (ds_append (i := 6) rfl (by first | exact Or.inl rfl | exact Or.inr (Or.inl rfl)) (de_tup (da_cons (de_op op_addAll rd_add (de_op op_addAll rd_add (de_slice (de_v 2) do_none (do_some (de_v 4))) (de_lst (da_cons (de_tup (da_cons (de_ixN 8 hu de_int (fun _ _ => rfl)) (da_cons (de_ixN 8 hu de_int (fun _ _ => rfl)) (da_cons (de_ixN 8 hu de_int (fun _ _ => rfl)) da_nil)))) da_nil))) (de_slice (de_v 2) (do_some (de_op op_addAll rd_add (de_v 4) de_int)) do_none)) (da_cons (de_v 3) da_nil))) (hpe := fun ta h => pe_bm PySem.F.plainAttrs_list PySem.F.slot_list_append PySem.F.type_list_append mt_append (pv 6) (pa_cons h pa_nil))) (dss_cons (ds_set (i := 9) nd rfl (by first | exact Or.inl rfl | exact Or.inr rfl) (de_cP c__law_draw gu hr (i := 0) rfl (da_cons (de_op op_addAll rd_add (de_lenN 3 m_len) de_int) da_nil))) (dss_one (ds_append (i := 6) rfl (by first | exact Or.inl rfl | exact Or.inr (Or.inl rfl)) (de_tup (da_cons (de_v 2) (da_cons (de_op op_addAll rd_add (de_op op_addAll rd_add (de_slice (de_v 3) do_none (do_some (de_v 9))) (de_lst (da_cons (de_v 7) da_nil))) (de_slice (de_v 3) (do_some (de_v 9)) do_none)) da_nil))) (hpe := fun ta h => pe_bm PySem.F.plainAttrs_list PySem.F.slot_list_append PySem.F.type_list_append mt_append (pv 6) (pa_cons h pa_nil)))))))))) (dss_cons (ds_set (i := 8) nd rfl (by first | exact Or.inl rfl | exact Or.inr rfl) (de_ixN 2 hu (de_v 4) (fun _ _ => rfl))) (dss_cons (ds_for te ps rfl (di_any (de_lst (da_cons (de_callTy call_list_of rc_list rfl m_list bt_list (da_cons (de_v 8) da_nil)) (da_cons (de_slice (de_v 8) do_none (do_some de_int)) (da_cons (de_op op_addAll rd_add (de_v 8) (de_tup (da_cons de_int da_nil))) (da_cons (de_tup da_nil) (da_cons de_non (da_cons de_str (da_cons de_int (da_cons (de_tup (da_cons (de_v 8) (da_cons (de_v 8) (da_cons (de_v 8) da_nil)))) da_nil)))))))))) (fun _ => (dg_name (i := 7) nd rfl (by first | exact Or.inl rfl | exact Or.inr rfl))) (fun _ te => (dss_one (ds_append (i := 6) rfl (by first | exact Or.inl rfl | exact Or.inr (Or.inl rfl)) (de_tup (da_cons (de_op op_addAll rd_add (de_op op_addAll rd_add (de_slice (de_v 2) do_none (do_some (de_v 4))) (de_lst (da_cons (de_v 7) da_nil))) (de_slice (de_v 2) (do_some (de_op op_addAll rd_add (de_v 4) de_int)) do_none)) (da_cons (de_v 3) da_nil))) (hpe := fun ta h => pe_bm PySem.F.plainAttrs_list PySem.F.slot_list_append PySem.F.type_list_append mt_append (pv 6) (pa_cons h pa_nil)))))) (dss_cons (ds_if (dt_cmpL 3 (op_neNil hu) (rl_nil (t := false)) (de_lst da_nil)) (dss_cons (ds_set (i := 10) nd rfl (by first | exact Or.inl rfl | exact Or.inr rfl) (de_ixN 3 hu (de_cP c__law_draw gu hr (i := 0) rfl (da_cons (de_lenN 3 m_len) da_nil)) (fun _ _ => rfl))) (dss_cons (ds_set (i := 9) nd rfl (by first | exact Or.inl rfl | exact Or.inr rfl) (de_cP c__law_draw gu hr (i := 0) rfl (da_cons (de_op op_addAll rd_add (de_lenN 3 m_len) de_int) da_nil))) (dss_one (ds_append (i := 6) rfl (by first | exact Or.inl rfl | exact Or.inr (Or.inl rfl)) (de_tup (da_cons (de_v 2) (da_cons (de_op op_addAll rd_add (de_op op_addAll rd_add (de_slice (de_v 3) do_none (do_some (de_v 9))) (de_lst (da_cons (de_v 10) da_nil))) (de_slice (de_v 3) (do_some (de_v 9)) do_none)) da_nil))) (hpe := fun ta h => pe_bm PySem.F.plainAttrs_list PySem.F.slot_list_append PySem.F.type_list_append mt_append (pv 6) (pa_cons h pa_nil)))))) dss_nil) (dss_one (ds_ret (de_m 6))))))))))), ?_⟩
    have okr := ok.ok
    have le60 := ok.le
    have pos := okr.pos
    have la : acc.length ≤ 60 := Nat.le_trans (OrdOk.len ⟨ok.nd, ok.lt⟩) le60
    refine dseq ?_
    simp only [zM]
    refine ⟨_, rfl, rfl, _, _, rfl, _, _, rfl, rfl, dseq ?_⟩
    simp only [zM]
    refine ⟨n, _, rfl, by omega, by omega, by omega, fun at0 a0 a1 => ?_⟩
    obtain ⟨at0, rfl⟩ := int_nat a0
    simp only [zM]
    refine ⟨n + 1, _, rfl, by decide, by decide, by omega, fun k0 b0 b1 => ?_⟩
    obtain ⟨k0, rfl⟩ := int_nat b0
    simp only [zM]
    refine dseq ?_
    simp only [zM]
    refine dseq ?_
    simp only [zM]
    refine dseq ?_
    simp only [zM]
    refine ⟨n + 1 + 1, _, rfl, by omega, fun far f0 f1 => ⟨rfl, rfl, _, rfl, ?_⟩⟩
    have hcp : DD.cutD (rs.map rowD) none (some (at0 : Int)) = (rs.map rowD).take at0 := cutD_take (by rw [List.length_map]; omega)
    have hcq : DD.cutD (rs.map rowD) (some ((at0 : Int) + 1)) none = (rs.map rowD).drop (at0 + 1) := cutD_drop (k := at0 + 1) (by rw [List.length_map]; omega)
    have lP : ((rs.map rowD).take at0).length = at0 := by
      rw [List.length_take, List.length_map]
      omega
    have lQ : ((rs.map rowD).drop (at0 + 1)).length = rs.length - (at0 + 1) := by rw [List.length_drop, List.length_map]
    have mP : ∀ y ∈ (rs.map rowD).take at0, y ∈ rs.map rowD := fun y hy => List.mem_of_mem_take hy
    have mQ : ∀ y ∈ (rs.map rowD).drop (at0 + 1), y ∈ rs.map rowD := fun y hy => List.mem_of_mem_drop hy
    generalize (rs.map rowD).take at0 = Pr at hcp lP mP
    generalize (rs.map rowD).drop (at0 + 1) = Qr at hcq lQ mQ
    have hodd := odd_ok (many := rs.length) le60 f0 f1
    refine forL_ds (fun p δ => ∃ (L : List (D × D)) (m : Nat) (x7 x8 x9 : Option B), (∀ x ∈ L, Bent x.1 x.2) ∧ L.length ≤ 12 + 2 * p.length ∧ n ≤ m ∧ m ≤ n + 3 + p.length ∧ p.length ≤ 11 ∧ δ = [some (.u true m), some (.p (tabD rs acc)), some (.p (.lst (rs.map rowD))), some (.p (.lst (acc.map iD))), some (.p (.int (at0 : Nat))), some (.p (.int (k0 : Nat))), some (.o (.lst (L.map bD2))), x7, x8, x9, none]) (fun p x r δ e hI M hM => ?_) (fun δ hI => ?_) ?_
    · obtain ⟨L, m, x7, x8, x9, hL, hl, m0, m1, hp, rfl⟩ := hI
      simp only [zM]
      refine dseq ?_
      simp only [zM]
      refine ⟨_, row_at okr (by omega), _, rfl, dseq ?_⟩
      have hr := (okr.at (q := at0) (by omega)).2
      generalize rowAt rs at0 = r at hr
      have hxo : x ∈ oddS rs.length far := by
        rw [e]
        simp
      obtain ⟨xs, xd, xr⟩ := hodd x hxo
      obtain ⟨y1, y2, y3, hset, hrow, hbad⟩ := set_row (k := k0) hr le60 xs xd xr (by omega)
      simp only [zM]
      refine ⟨_, hset, dseq ?_⟩
      simp only [zM, at_0, at_1, at_2]
      rw [hcp, hcq]
      refine ⟨by omega, by omega, by omega, dseq ?_⟩
      simp only [zM]
      refine ⟨m, _, rfl, by omega, by omega, by omega, fun cut c0 c1 => ?_⟩
      obtain ⟨cut, rfl⟩ := int_nat c0
      simp only [zM]
      have hca : DD.cutD (acc.map iD) none (some (cut : Int)) = (acc.map iD).take cut := cutD_take (by rw [List.length_map]; omega)
      have hcb : DD.cutD (acc.map iD) (some (cut : Int)) none = (acc.map iD).drop cut := cutD_drop (by rw [List.length_map]; omega)
      rw [hca, hcb]
      have l1 : ((acc.map iD).take cut).length = cut := by
        rw [List.length_take, List.length_map]
        omega
      have l2 : ((acc.map iD).drop cut).length = acc.length - cut := by rw [List.length_drop, List.length_map]
      have hp2 := len_pre e
      have hp3 : (oddS rs.length far).length = 11 := rfl
      have b1 : Bent (.lst (Pr ++ [.tup [y1, y2, y3]] ++ Qr)) (.lst (acc.map iD)) := bent_row ok mP mQ (by rw [List.length_append, len_snoc, lP, lQ]; omega) hrow hbad
      have b2 : Bent (.lst (rs.map rowD)) (.lst ((acc.map iD).take cut ++ [x] ++ (acc.map iD).drop cut)) := bent_acc ok (fun y hy => List.mem_of_mem_take hy) (fun y hy => List.mem_of_mem_drop hy) (by rw [List.length_append, len_snoc, l1, l2]; omega) ⟨xd, xr.mono (by decide) (by decide)⟩ (by
        unfold accOk
        rw [List.all_append, List.all_append, List.all_cons, xs, Bool.false_and, Bool.and_false, Bool.false_and, Bool.false_and])
      refine ⟨by omega, by omega, by omega, hM _ ⟨L ++ [(.lst (Pr ++ [.tup [y1, y2, y3]] ++ Qr), .lst (acc.map iD)), (.lst (rs.map rowD), .lst ((acc.map iD).take cut ++ [x] ++ (acc.map iD).drop cut))], m + 1, some (.p x), some (.o (.lst [y1, y2, y3])), some (.p (.int (cut : Nat))), fun z hz => ?_, by rw [List.length_append, len_snoc]; show L.length + 2 ≤ _; omega, by omega, by rw [len_snoc]; omega, by rw [len_snoc]; omega, by rw [List.map_append, List.append_assoc]; rfl⟩⟩
      rcases List.mem_append.mp hz with w | w
      · exact hL z w
      · simp only [List.mem_cons, List.not_mem_nil, or_false] at w
        rcases w with rfl | rfl
        · exact b1
        · exact b2
    · obtain ⟨L, m, x7, x8, x9, hL, hl, m0, m1, hp, rfl⟩ := hI
      have hp3 : (oddS rs.length far).length = 11 := rfl
      rw [hp3] at hl m1
      simp only [zM]
      refine dseq ?_
      simp only [zM]
      refine ⟨_, row_at okr (by omega), dseq ?_⟩
      have hr := (okr.at (q := at0) (by omega)).2
      generalize rowAt rs at0 = r at hr
      simp only [zM]
      refine ⟨_, rfl, ?_⟩
      simp only [zM, rowD]
      refine ⟨by decide, List.cons_ne_nil _ _, ?_⟩
      have h2ok := odd2_ok hr le60
      have h2l : (odd2 r).length = 8 := rfl
      refine forL_ds (fun p δ => ∃ (L : List (D × D)) (y7 y8 : Option B), (∀ x ∈ L, Bent x.1 x.2) ∧ L.length ≤ 34 + p.length ∧ δ = [some (.u true m), some (.p (tabD rs acc)), some (.p (.lst (rs.map rowD))), some (.p (.lst (acc.map iD))), some (.p (.int (at0 : Nat))), some (.p (.int (k0 : Nat))), some (.o (.lst (L.map bD2))), y7, y8, x9, none]) (l := odd2 r) (fun p x r' δ e hI M hM => ?_) (fun δ hI => ?_) ⟨L, _, _, hL, by omega, rfl⟩
      · obtain ⟨L, y7, y8, hL, hl, rfl⟩ := hI
        have hp := len_pre e
        rw [h2l] at hp
        obtain ⟨hx, hbad⟩ := h2ok x (by rw [e]; simp)
        have b1 : Bent (.lst (Pr ++ [x] ++ Qr)) (.lst (acc.map iD)) := bent_row ok mP mQ (by rw [List.length_append, len_snoc, lP, lQ]; omega) hx hbad
        simp only [zM]
        rw [hcp, hcq]
        refine ⟨by omega, by omega, by omega, hM _ ⟨L ++ [(.lst (Pr ++ [x] ++ Qr), .lst (acc.map iD))], some (.p x), y8, fun z hz => ?_, by rw [len_snoc, len_snoc]; omega, by rw [List.map_append]; rfl⟩⟩
        rcases List.mem_append.mp hz with w | w
        · exact hL z w
        · rw [List.mem_singleton.mp w]
          exact b1
      · obtain ⟨L, y7, y8, hL, hl, rfl⟩ := hI
        rw [h2l] at hl
        simp only [zM]
        refine dseq ?_
        simp only [zM]
        by_cases hz : acc = []
        · have hz2 : ((acc.map iD).isEmpty == false) = false := by
            rw [hz]
            rfl
          rw [hz2]
          exact iteF (q L m hL (by omega) m0 (by omega))
        · have hz2 : ((acc.map iD).isEmpty == false) = true := by
            cases acc
            · exact absurd rfl hz
            · rfl
          have hz3 : 0 < acc.length := List.length_pos_iff.mpr hz
          rw [hz2]
          refine iteT (dseq ?_)
          simp only [zM]
          refine ⟨m, _, rfl, by omega, by omega, by omega, fun t t0 t1 => ?_⟩
          obtain ⟨t, rfl⟩ := int_nat t0
          have ht : t < acc.length := by omega
          have ht2 := atI_map (f := iD) (List.getElem?_eq_getElem ht)
          have hm := List.getElem_mem ht
          generalize acc[t] = a at ht2 hm
          simp only [zM]
          refine ⟨_, ht2, dseq ?_⟩
          simp only [zM]
          refine ⟨m + 1, _, rfl, by omega, by omega, by omega, fun cut c0 c1 => ?_⟩
          obtain ⟨cut, rfl⟩ := int_nat c0
          simp only [zM]
          have hca : DD.cutD (acc.map iD) none (some (cut : Int)) = (acc.map iD).take cut := cutD_take (by rw [List.length_map]; omega)
          have hcb : DD.cutD (acc.map iD) (some (cut : Int)) none = (acc.map iD).drop cut := cutD_drop (by rw [List.length_map]; omega)
          rw [hca, hcb]
          have l1 : ((acc.map iD).take cut).length = cut := by
            rw [List.length_take, List.length_map]
            omega
          have l2 : ((acc.map iD).drop cut).length = acc.length - cut := by rw [List.length_drop, List.length_map]
          have b2 : Bent (.lst (rs.map rowD)) (.lst ((acc.map iD).take cut ++ [iD a] ++ (acc.map iD).drop cut)) := bent_acc ok (fun y hy => List.mem_of_mem_take hy) (fun y hy => List.mem_of_mem_drop hy) (by rw [List.length_append, len_snoc, l1, l2]; omega) ((accs_ok ok).2 _ (List.mem_map.mpr ⟨a, hm, rfl⟩)) (dup_bad hm)
          have fin := q (L ++ [(.lst (rs.map rowD), .lst ((acc.map iD).take cut ++ [iD a] ++ (acc.map iD).drop cut))]) (m + 1 + 1) (fun z hz => by
            rcases List.mem_append.mp hz with w | w
            · exact hL z w
            · rw [List.mem_singleton.mp w]
              exact b2) (by rw [len_snoc]; omega) (by omega) (by omega)
          rw [List.map_append] at fin
          exact ⟨by omega, by omega, by omega, fin⟩
    · refine ⟨[(.lst [], .lst []), (.lst [], .lst [.int 0]), (.tup (rs.map rowD), .lst (acc.map iD)), (.non, .lst (acc.map iD)), (.dct [] [], .lst (acc.map iD)), (.str "chb", .lst (acc.map iD)), (.lst (rs.map rowD), .tup (acc.map iD)), (.lst (rs.map rowD), .non), (.lst (rs.map rowD), .int 0), (.lst (rs.map rowD), .dct [] []), (.lst (rs.map rowD), .str "0"), (.lst (rs.map rowD), .bl true)], _, _, _, _, fun x hx => ?_, Nat.le_refl 12, by omega, Nat.le_refl _, by decide, rfl⟩
      simp only [List.mem_cons, List.not_mem_nil, or_false] at hx
      have hAs := accs_ok ok
      have hRs := rows_ok ok
      have rT : ∀ {ys : List D}, ys.length ≤ 61 → (∀ y ∈ ys, Rs 50 3 y) → Rs 4000 4 (.tup ys) := fun h1 h2 => (rs_tup h2 h1).mono (by decide) (by decide)
      have em : Rs 0 1 (.lst []) := (rs_lst (n := 0) (k := 0) (m := 0) (ds := []) (fun y hy => (by cases hy)) (Nat.le_refl 0)).mono (by decide) (by decide)
      rcases hx with rfl | rfl | rfl | rfl | rfl | rfl | rfl | rfl | rfl | rfl | rfl | rfl
      · exact bent_of rfl rfl (fun ds e => (by cases e; exact ⟨by decide, fun y hy => (by cases hy)⟩)) (fun ds e => (by cases e; exact ⟨by decide, fun y hy => (by cases hy)⟩)) (fun z => absurd rfl (z _)) (fun z => absurd rfl (z _)) rfl
      · exact bent_of rfl rfl (fun ds e => (by cases e; exact ⟨by decide, fun y hy => (by cases hy)⟩)) (fun ds e => (by cases e; exact ⟨by decide, fun y hy => (by rw [List.mem_singleton.mp hy]; exact ⟨rfl, (rs_int (by decide)).mono (by decide) (by decide)⟩)⟩)) (fun z => absurd rfl (z _)) (fun z => absurd rfl (z _)) rfl
      · exact bent_d ok rfl rfl (rT hRs.1 fun y hy => (hRs.2 y hy).2)
      · exact bent_d ok rfl rfl (rs_non.mono (by decide) (by decide))
      · exact bent_d ok rfl rfl (rs_dct0.mono (by decide) (by decide))
      · exact bent_d ok rfl rfl ((rs_str (n := 3) (by decide) (by decide)).mono (by decide) (by decide))
      · exact bent_e ok rfl rfl (rT hAs.1 fun y hy => (hAs.2 y hy).2)
      · exact bent_e ok rfl rfl (rs_non.mono (by decide) (by decide))
      · exact bent_e ok rfl rfl ((rs_int (by decide)).mono (by decide) (by decide))
      · exact bent_e ok rfl rfl (rs_dct0.mono (by decide) (by decide))
      · exact bent_e ok rfl rfl ((rs_str (n := 3) (by decide) (by decide)).mono (by decide) (by decide))
      · exact bent_e ok rfl rfl (rs_bl.mono (by decide) (by decide))
end
end K

set_option Elab.async false
set_option linter.all false
set_option maxRecDepth 100000
set_option maxHeartbeats 8000000
namespace K
open PySem PySem.Spec PyProof.Rows L2 DD
local macro_rules | `(tactic| simp only [zP]) => `(tactic| simp only [startD, List.map_cons, List.map_nil, List.length_cons, List.length_nil, Nat.reduceAdd, Nat.reduceSub, List.replicate, List.cons_append, List.nil_append, dSeq, dSet, dIfS, dT, dOp, dCB, dCons, dNil, dV, dM, dC, dp, dNext, dRet, dRetN, dLst, dTup, dDrop, dNot, dAnd, dOr, dAndV, dOrV, dNotV, intG, intG0, lenG, lenD, ixG, itemD, intCG, intOf, maxG, List.getElem?_cons_zero, List.getElem?_cons_succ, List.set_cons_zero, List.set_cons_succ, Option.some.injEq, B.isU, B.d, B.rd, exists_eq_left', exists_eq_left, exists_and_left, true_and, and_true, B.p.injEq, DD.D.bl.injEq, DD.D.int.injEq, List.cons.injEq, DD.PC, decide_eq_true_eq, and_assoc, Option.map_some, dLc, iAny, walked, wipeE, gN, dCall, dCallP, dCallF, eqG, neG, Bool.not_true, Bool.not_false, if_true, if_false, Bool.false_eq_true, reduceIte, List.append_nil, dCBK, addG, dM1, gT, gsCons, gsNil, iEnumD, dAsP, iR1, dPart, dNo, dSl, freB, lstD, List.all_cons, List.all_nil, litD, Bool.and_self, dReprPair, dDctN, itemD2, ixG2, keyD, lookD, strG2, dPar, bCons, bNil, dFor, List.zip_cons_cons, List.zip_nil_right, List.foldl_cons, List.foldl_nil, dApp, B.o.injEq, DD.D.lst.injEq, DD.D.tup.injEq, exists_eq', dDct0, B.u.injEq, sizeLine_eq, Nat.reduceLeDiff, Nat.reduceLT, Nat.zero_le, true_implies, slG, List.length_map, tupleG, seqD, listG, iR2, List.length_take, List.length_drop, List.length_append, DD.D.str.injEq, mulG, dAsg, dFld, lookF, dSetF, setF, dProp, dMeth, dMake, dMakeK, cxOf_K, dChain, notNG, isNG, isNon_non, isNon_bl, isNon_int, isNon_str, isNon_lst, isNon_tup, isNon_dct, isNon_ins, isNon_exc, dXv, reprG, DD.D.ins.injEq, DD.D.exc.injEq, cmpIG, neIG, clsD, Option.bind_some, B.s.injEq, if_true, if_false, dNeg, dLenSet, dIndex, dClrE, dAppE, dCallK, eqKG, sortedSG])
local macro_rules | `(tactic| simp only [zP, $xs,*]) => `(tactic| simp only [startD, List.map_cons, List.map_nil, List.length_cons, List.length_nil, Nat.reduceAdd, Nat.reduceSub, List.replicate, List.cons_append, List.nil_append, dSeq, dSet, dIfS, dT, dOp, dCB, dCons, dNil, dV, dM, dC, dp, dNext, dRet, dRetN, dLst, dTup, dDrop, dNot, dAnd, dOr, dAndV, dOrV, dNotV, intG, intG0, lenG, lenD, ixG, itemD, intCG, intOf, maxG, List.getElem?_cons_zero, List.getElem?_cons_succ, List.set_cons_zero, List.set_cons_succ, Option.some.injEq, B.isU, B.d, B.rd, exists_eq_left', exists_eq_left, exists_and_left, true_and, and_true, B.p.injEq, DD.D.bl.injEq, DD.D.int.injEq, List.cons.injEq, DD.PC, decide_eq_true_eq, and_assoc, Option.map_some, dLc, iAny, walked, wipeE, gN, dCall, dCallP, dCallF, eqG, neG, Bool.not_true, Bool.not_false, if_true, if_false, Bool.false_eq_true, reduceIte, List.append_nil, dCBK, addG, dM1, gT, gsCons, gsNil, iEnumD, dAsP, iR1, dPart, dNo, dSl, freB, lstD, List.all_cons, List.all_nil, litD, Bool.and_self, dReprPair, dDctN, itemD2, ixG2, keyD, lookD, strG2, dPar, bCons, bNil, dFor, List.zip_cons_cons, List.zip_nil_right, List.foldl_cons, List.foldl_nil, dApp, B.o.injEq, DD.D.lst.injEq, DD.D.tup.injEq, exists_eq', dDct0, B.u.injEq, sizeLine_eq, Nat.reduceLeDiff, Nat.reduceLT, Nat.zero_le, true_implies, slG, List.length_map, tupleG, seqD, listG, iR2, List.length_take, List.length_drop, List.length_append, DD.D.str.injEq, mulG, dAsg, dFld, lookF, dSetF, setF, dProp, dMeth, dMake, dMakeK, cxOf_K, dChain, notNG, isNG, isNon_non, isNon_bl, isNon_int, isNon_str, isNon_lst, isNon_tup, isNon_dct, isNon_ins, isNon_exc, dXv, reprG, DD.D.ins.injEq, DD.D.exc.injEq, cmpIG, neIG, clsD, Option.bind_some, B.s.injEq, if_true, if_false, dNeg, dLenSet, dIndex, dClrE, dAppE, dCallK, eqKG, sortedSG, $xs,*])
local macro_rules | `(tactic| simp only [zQ]) => `(tactic| simp only [startD, List.map_cons, List.map_nil, List.length_cons, List.length_nil, Nat.reduceAdd, Nat.reduceSub, List.replicate, List.cons_append, List.nil_append, dSet, dIfS, dT, dOp, dCB, dCons, dNil, dV, dM, dC, dp, dNext, dRet, dRetN, dLst, dTup, dDrop, dNot, dAnd, dOr, dAndV, dOrV, dNotV, intG, intG0, lenG, lenD, ixG, itemD, intCG, intOf, maxG, List.getElem?_cons_zero, List.getElem?_cons_succ, List.set_cons_zero, List.set_cons_succ, Option.some.injEq, B.isU, B.d, B.rd, exists_eq_left', exists_eq_left, exists_and_left, true_and, and_true, B.p.injEq, DD.D.bl.injEq, DD.D.int.injEq, List.cons.injEq, DD.PC, decide_eq_true_eq, and_assoc, Option.map_some, dLc, iAny, walked, wipeE, gN, dCall, dCallP, dCallF, eqG, neG, Bool.not_true, Bool.not_false, if_true, if_false, Bool.false_eq_true, reduceIte, List.append_nil, dCBK, addG, dM1, gT, gsCons, gsNil, iEnumD, dAsP, iR1, dPart, dNo, dSl, freB, lstD, List.all_cons, List.all_nil, litD, Bool.and_self, dReprPair, dDctN, itemD2, ixG2, keyD, lookD, strG2, dPar, bCons, bNil, dFor, List.zip_cons_cons, List.zip_nil_right, List.foldl_cons, List.foldl_nil, dApp, B.o.injEq, DD.D.lst.injEq, DD.D.tup.injEq, exists_eq', dDct0, B.u.injEq, sizeLine_eq, Nat.reduceLeDiff, Nat.reduceLT, Nat.zero_le, true_implies, slG, List.length_map, tupleG, seqD, listG, iR2, List.length_take, List.length_drop, List.length_append, DD.D.str.injEq, mulG, dAsg, dFld, lookF, dSetF, setF, dProp, dMeth, dMake, dMakeK, cxOf_K, dChain, notNG, isNG, isNon_non, isNon_bl, isNon_int, isNon_str, isNon_lst, isNon_tup, isNon_dct, isNon_ins, isNon_exc, dXv, reprG, DD.D.ins.injEq, DD.D.exc.injEq, cmpIG, neIG, clsD, Option.bind_some, B.s.injEq, if_true, if_false, dNeg, dLenSet, dIndex, dClrE, dAppE, dCallK, eqKG, sortedSG])
local macro_rules | `(tactic| simp only [zQ, $xs,*]) => `(tactic| simp only [startD, List.map_cons, List.map_nil, List.length_cons, List.length_nil, Nat.reduceAdd, Nat.reduceSub, List.replicate, List.cons_append, List.nil_append, dSet, dIfS, dT, dOp, dCB, dCons, dNil, dV, dM, dC, dp, dNext, dRet, dRetN, dLst, dTup, dDrop, dNot, dAnd, dOr, dAndV, dOrV, dNotV, intG, intG0, lenG, lenD, ixG, itemD, intCG, intOf, maxG, List.getElem?_cons_zero, List.getElem?_cons_succ, List.set_cons_zero, List.set_cons_succ, Option.some.injEq, B.isU, B.d, B.rd, exists_eq_left', exists_eq_left, exists_and_left, true_and, and_true, B.p.injEq, DD.D.bl.injEq, DD.D.int.injEq, List.cons.injEq, DD.PC, decide_eq_true_eq, and_assoc, Option.map_some, dLc, iAny, walked, wipeE, gN, dCall, dCallP, dCallF, eqG, neG, Bool.not_true, Bool.not_false, if_true, if_false, Bool.false_eq_true, reduceIte, List.append_nil, dCBK, addG, dM1, gT, gsCons, gsNil, iEnumD, dAsP, iR1, dPart, dNo, dSl, freB, lstD, List.all_cons, List.all_nil, litD, Bool.and_self, dReprPair, dDctN, itemD2, ixG2, keyD, lookD, strG2, dPar, bCons, bNil, dFor, List.zip_cons_cons, List.zip_nil_right, List.foldl_cons, List.foldl_nil, dApp, B.o.injEq, DD.D.lst.injEq, DD.D.tup.injEq, exists_eq', dDct0, B.u.injEq, sizeLine_eq, Nat.reduceLeDiff, Nat.reduceLT, Nat.zero_le, true_implies, slG, List.length_map, tupleG, seqD, listG, iR2, List.length_take, List.length_drop, List.length_append, DD.D.str.injEq, mulG, dAsg, dFld, lookF, dSetF, setF, dProp, dMeth, dMake, dMakeK, cxOf_K, dChain, notNG, isNG, isNon_non, isNon_bl, isNon_int, isNon_str, isNon_lst, isNon_tup, isNon_dct, isNon_ins, isNon_exc, dXv, reprG, DD.D.ins.injEq, DD.D.exc.injEq, cmpIG, neIG, clsD, Option.bind_some, B.s.injEq, if_true, if_false, dNeg, dLenSet, dIndex, dClrE, dAppE, dCallK, eqKG, sortedSG, $xs,*])
local macro_rules | `(tactic| simp only [zM]) => `(tactic| simp only [startD, List.map_cons, List.map_nil, List.length_cons, List.length_nil, Nat.reduceAdd, Nat.reduceSub, List.replicate, List.cons_append, List.nil_append, dSet, dIfS, dT, dOp, dCB, dCons, dNil, dV, dM, dC, dp, dNext, dRet, dRetN, dLst, dTup, dDrop, dNot, dAnd, dOr, dAndV, dOrV, dNotV, intG, intG0, lenG, lenD, ixG, itemD, intCG, intOf, maxG, List.getElem?_cons_zero, List.getElem?_cons_succ, List.set_cons_zero, List.set_cons_succ, Option.some.injEq, B.isU, B.d, B.rd, exists_eq_left', exists_eq_left, exists_and_left, true_and, and_true, B.p.injEq, DD.D.bl.injEq, DD.D.int.injEq, List.cons.injEq, DD.PC, decide_eq_true_eq, and_assoc, Option.map_some, dLc, iAny, walked, wipeE, gN, dCall, dCallP, dCallF, eqG, neG, Bool.not_true, Bool.not_false, if_true, if_false, Bool.false_eq_true, reduceIte, List.append_nil, dCBK, addG, dM1, gT, gsCons, gsNil, iEnumD, dAsP, iR1, dPart, dNo, dSl, freB, lstD, List.all_cons, List.all_nil, litD, Bool.and_self, dReprPair, dDctN, itemD2, ixG2, keyD, lookD, strG2, dPar, bCons, bNil, dFor, List.zip_cons_cons, List.zip_nil_right, List.foldl_cons, List.foldl_nil, dApp, B.o.injEq, DD.D.lst.injEq, DD.D.tup.injEq, exists_eq', dDct0, B.u.injEq, sizeLine_eq, Nat.reduceLeDiff, Nat.reduceLT, Nat.zero_le, true_implies, slG, List.length_map, tupleG, seqD, listG, iR2, List.length_take, List.length_drop, List.length_append, DD.D.str.injEq, mulG, dAsg, dFld, lookF, dSetF, setF, dProp, dMeth, dMake, dMakeK, cxOf_K, dChain, notNG, isNG, isNon_non, isNon_bl, isNon_int, isNon_str, isNon_lst, isNon_tup, isNon_dct, isNon_ins, isNon_exc, dXv, reprG, DD.D.ins.injEq, DD.D.exc.injEq, cmpIG, neIG, clsD, Option.bind_some, B.s.injEq, if_true, if_false, dNeg, dLenSet, dIndex, dClrE, dAppE, dCallK, eqKG, sortedSG, dNL, dNR, slotD, eqL, neL, inL, isInX, ixL, itemX, getD', lenX, dLenN, dGet2, dPutN, ownS, setX, dRev, dClr, dPop, dPopAt, dExt, dAug, dDc, dLend, lendE, lend1, lentB, isLD, dDctT, dLenSetA, keyT, keyL, List.mem_cons, List.not_mem_nil, or_false, false_or, or_true, true_or, Nat.reduceEqDiff, decide_true, decide_false, Bool.or_true, Bool.true_or, Bool.false_or, Bool.or_false, Bool.and_true, Bool.true_and, reduceCtorEq, DD.D.dct.injEq, DD.D.dcT.injEq, dDctT0, nilG, nilL, List.isEmpty_nil, List.isEmpty_cons])
local macro_rules | `(tactic| simp only [zM, $xs,*]) => `(tactic| simp only [startD, List.map_cons, List.map_nil, List.length_cons, List.length_nil, Nat.reduceAdd, Nat.reduceSub, List.replicate, List.cons_append, List.nil_append, dSet, dIfS, dT, dOp, dCB, dCons, dNil, dV, dM, dC, dp, dNext, dRet, dRetN, dLst, dTup, dDrop, dNot, dAnd, dOr, dAndV, dOrV, dNotV, intG, intG0, lenG, lenD, ixG, itemD, intCG, intOf, maxG, List.getElem?_cons_zero, List.getElem?_cons_succ, List.set_cons_zero, List.set_cons_succ, Option.some.injEq, B.isU, B.d, B.rd, exists_eq_left', exists_eq_left, exists_and_left, true_and, and_true, B.p.injEq, DD.D.bl.injEq, DD.D.int.injEq, List.cons.injEq, DD.PC, decide_eq_true_eq, and_assoc, Option.map_some, dLc, iAny, walked, wipeE, gN, dCall, dCallP, dCallF, eqG, neG, Bool.not_true, Bool.not_false, if_true, if_false, Bool.false_eq_true, reduceIte, List.append_nil, dCBK, addG, dM1, gT, gsCons, gsNil, iEnumD, dAsP, iR1, dPart, dNo, dSl, freB, lstD, List.all_cons, List.all_nil, litD, Bool.and_self, dReprPair, dDctN, itemD2, ixG2, keyD, lookD, strG2, dPar, bCons, bNil, dFor, List.zip_cons_cons, List.zip_nil_right, List.foldl_cons, List.foldl_nil, dApp, B.o.injEq, DD.D.lst.injEq, DD.D.tup.injEq, exists_eq', dDct0, B.u.injEq, sizeLine_eq, Nat.reduceLeDiff, Nat.reduceLT, Nat.zero_le, true_implies, slG, List.length_map, tupleG, seqD, listG, iR2, List.length_take, List.length_drop, List.length_append, DD.D.str.injEq, mulG, dAsg, dFld, lookF, dSetF, setF, dProp, dMeth, dMake, dMakeK, cxOf_K, dChain, notNG, isNG, isNon_non, isNon_bl, isNon_int, isNon_str, isNon_lst, isNon_tup, isNon_dct, isNon_ins, isNon_exc, dXv, reprG, DD.D.ins.injEq, DD.D.exc.injEq, cmpIG, neIG, clsD, Option.bind_some, B.s.injEq, if_true, if_false, dNeg, dLenSet, dIndex, dClrE, dAppE, dCallK, eqKG, sortedSG, dNL, dNR, slotD, eqL, neL, inL, isInX, ixL, itemX, getD', lenX, dLenN, dGet2, dPutN, ownS, setX, dRev, dClr, dPop, dPopAt, dExt, dAug, dDc, dLend, lendE, lend1, lentB, isLD, dDctT, dLenSetA, keyT, keyL, List.mem_cons, List.not_mem_nil, or_false, false_or, or_true, true_or, Nat.reduceEqDiff, decide_true, decide_false, Bool.or_true, Bool.true_or, Bool.false_or, Bool.or_false, Bool.and_true, Bool.true_and, reduceCtorEq, DD.D.dct.injEq, DD.D.dcT.injEq, dDctT0, nilG, nilL, List.isEmpty_nil, List.isEmpty_cons, $xs,*])
section
variable {P : Program} {w : World} {K : PySem.W.Frag} {mg : Str → Option Value} {base : Heap}

theorem flOf_at {n q : Nat} {acc : List Nat} (h : q < n) : (flOf n acc).getD q false = decide (q ∈ acc) := by
  unfold flOf
  rw [List.getD_eq_getElem?_getD, List.getElem?_map, List.getElem?_range h]
  rfl
theorem mem_accOf {fl : List Bool} {q : Nat} : q ∈ accOf fl ↔ fl.getD q false = true := by
  unfold accOf
  rw [List.mem_filter, List.mem_range]
  constructor
  · exact fun h => h.2
  · intro h
    refine ⟨?_, h⟩
    by_cases hq : q < fl.length
    · exact hq
    · rw [List.getD_eq_getElem?_getD, List.getElem?_eq_none (by omega)] at h
      cases h
theorem accOf_le {fl : List Bool} : (accOf fl).length ≤ fl.length := by
  unfold accOf
  exact Nat.le_trans (List.length_filter_le _ _) (Nat.le_of_eq List.length_range)
theorem table_mach {most : Nat} {rs : List MRow} {acc : List Nat} (ok : TableOk most rs acc) : isMach (.lst (rs.map rowD)) (.lst (acc.map iD)) = true := by
  have h1 : (rs.map rowD).isEmpty = false := by
    have := ok.ok.pos
    cases rs
    · cases this
    · rfl
  have si : ∀ {a : Nat}, a < rs.length → isSt rs.length (.int (a : Nat)) = true := fun {a} h => by
    show (decide ((0 : Int) ≤ (a : Int)) && decide ((a : Int) < (rs.length : Int))) = true
    rw [decide_eq_true (by omega), decide_eq_true (show ((a : Nat) : Int) < (rs.length : Nat) by omega)]
    rfl
  have h2 : (rs.map rowD).all (isRow rs.length) = true := List.all_eq_true.mpr fun x hx => by
    obtain ⟨r, hr, rfl⟩ := List.mem_map.mp hx
    obtain ⟨g1, g2, g3⟩ := ok.ok.lt r hr
    show (isSt _ _ && isSt _ _ && isSt _ _) = true
    rw [si g1, si g2, si g3]
    rfl
  have h3 : accOk rs.length (acc.map iD) = true := by
    refine accs_all (is := acc.map fun n : Nat => (n : Int)) (by rw [List.map_map]; rfl) (fun x hx => ?_) (nodup_mapOn ok.nd fun a _ b _ e => Int.ofNat_inj.mp e)
    obtain ⟨a, ha, rfl⟩ := List.mem_map.mp hx
    exact si (ok.lt a ha)
  show (!(rs.map rowD).isEmpty && (rs.map rowD).all (isRow (rs.map rowD).length) && accOk (rs.map rowD).length (acc.map iD)) = true
  rw [List.length_map, h1, h2, h3]
  rfl
theorem table_mch {rs : List MRow} {acc : List Nat} (ok : TableOk 60 rs acc) : Mch (.lst (rs.map rowD)) (.lst (acc.map iD)) :=
  ⟨rfl, rfl, fun ds e => (by cases e; exact ⟨by have := (rows_ok ok).1; omega, fun x hx => ((rows_ok ok).2 x hx).1⟩), fun ds e => (by cases e; exact ⟨by have := (accs_ok ok).1; omega, fun x hx => ((accs_ok ok).2 x hx).1⟩)⟩
/-- the least machine reads as the table does -/
theorem table_alike {rs : List MRow} {acc : List Nat} (ok : TableOk 60 rs acc) : ∀ os rows, Joined rs (lstR rs (flOf rs.length acc)) os rows → jacc 3 os acc (accOf (lstF rs (flOf rs.length acc))) = [] := fun os rows J => by
  have al := J.alike (f1 := flOf rs.length acc) (f2 := lstF rs (flOf rs.length acc)) fun w => (lst_lang ok.ok w).symm
  unfold jacc jaccN
  rw [List.filter_eq_nil_iff]
  intro i hi
  have hi := List.mem_range.mp hi
  have e : os.getD i (0, 0) = os[i] := by
    rw [List.getD_eq_getElem?_getD, List.getElem?_eq_getElem hi]
    rfl
  have xm := List.getElem_mem hi
  rw [e]
  generalize os[i] = x at xm
  have h := al x xm
  rw [flOf_at (J.lt x xm).1] at h
  show ¬ (decide (x.1 ∈ acc) != decide (x.2 ∈ accOf (lstF rs (flOf rs.length acc)))) = true
  have h2 : decide (x.2 ∈ accOf (lstF rs (flOf rs.length acc))) = (lstF rs (flOf rs.length acc)).getD x.2 false := by
    rw [Bool.eq_iff_iff, decide_eq_true_eq, mem_accOf]
  rw [h2, h]
  simp
theorem lst_le {rs : List MRow} {fl : List Bool} (ok : RowsOk rs) : (lstR rs fl).length ≤ rs.length := by
  unfold lstR
  rw [renR_len]
  refine Nat.le_trans (met_ok (jnR_ok ok)).len ?_
  rw [jnR_len, renR_len]
  exact (met_ok ok).len

abbrev s_law : Stmt := topS 51
theorem sc_law : FnScope ["_law_script", "_law_cell", "_law_purse_here", "_law_table_here", "_law_rows", "_law_accepting"] ["_law_script"] (defScope s_law) := ⟨rfl, rfl, rfl, by decide +kernel, rfl, by decide +kernel, by decide +kernel⟩
def spd_law  : Spd := fun bs R _ => ∃ ns : List Int, bs = [.p (.scr ns)] ∧ R (.p (.bl true)) 0
theorem cal_law (Da : DefAt K mg "law" s_law) {a_PairSet aI : Addr} (c__law_purse : Cal P w K mg base "_law_purse" 1 ["_law_script", "_law_at"] spdPurse) (c__law_table : Cal P w K mg base "_law_table" 3 ["_law_purse_here", "_law_most"] spd__law_table) (c__law_bent : Cal P w K mg base "_law_bent" 4 ["_law_purse_here", "_law_table_here"] spd__law_bent) (c__law_refused : Cal P w K mg base "_law_refused" 7 ["_law_rows", "_law_accepting"] spd__law_refused) (c__law_alike : Cal P w K mg base "_law_alike" 6 ["_law_one", "_law_other"] spd__law_alike) (c__law_told : Cal P w K mg base "_law_told" 3 ["_law_pairs"] (spd__law_told a_PairSet)) (mk_PairSet_2 : MakC P w K mg base "PairSet" a_PairSet 5 ["self", "rows", "accepting"] [] (spi_PairSet a_PairSet aI)) (m_range : mg "range" = none) : Cal P w K mg base "law" 10 ["_law_script"] spd_law := by
  refine cal_mk none Da sc_law (fun _ _ _ _ _ _ us hl => match us, hl with | [_], _ => rfl) (fun bs R E h => ?_) (fun bs R E h => ?_) fun f cdv A outer s H E W bs R ED gu hr te h fh => ?_
  · obtain ⟨ns, rfl, q⟩ := h
    rfl
  · obtain ⟨ns, rfl, q⟩ := h
    exact pur_none (by simp [B.own])
  · obtain ⟨ns, rfl, q⟩ := h
    have nd := sc_law.nd
    have hu := hr.units
    have ps := passes_of (X := cxOf (L2.CX P w) P w K mg base ["_law_script", "_law_cell", "_law_purse_here", "_law_table_here", "_law_rows", "_law_accepting"] "law" (defScope s_law) f cdv A outer s H E) rfl
    refine ⟨_, (dss_cons (ds_forR ps rfl (di_range1 rfl m_range (da_cons de_int da_nil)) (dg_name (i := 1) nd rfl (by first | exact Or.inl rfl | exact Or.inr rfl)) (dss_cons (ds_set (i := 2) nd rfl (by first | exact Or.inl rfl | exact Or.inr rfl) (de_asPurse (de_c c__law_purse gu hr (da_cons (de_v 0) (da_cons (de_v 1) da_nil))))) (dss_cons (ds_set (i := 3) nd rfl (by first | exact Or.inl rfl | exact Or.inr rfl) (de_cP c__law_table gu hr (i := 2) rfl (da_cons (de_ix2 hu (de_lst (da_cons de_int (da_cons de_int (da_cons de_int da_nil)))) (de_v 1) fun _ _ => rfl) da_nil))) (dss_cons (ds_for te ps rfl (di_any (de_cP c__law_bent gu hr (i := 2) rfl (da_cons (de_v 3) da_nil))) (fun _ => (dg_tup (n := 2) rfl (dgs_cons (dg_name (i := 4) nd rfl (by first | exact Or.inl rfl | exact Or.inr rfl)) (dgs_cons (dg_name (i := 5) nd rfl (by first | exact Or.inl rfl | exact Or.inr rfl)) dgs_nil)))) (fun _ te => (dss_one (ds_if (dt_not (dt_val (he := fun _ => rfl) (de_c c__law_refused gu hr (da_cons (de_v 4) (da_cons (de_v 5) da_nil))))) (dss_one (ds_ret de_bl)) dss_nil)))) (dss_one (ds_if (dt_not (dt_val (he := fun _ => rfl) (de_c c__law_alike gu hr (da_cons (de_v 3) (da_cons (de_c c__law_told gu hr (da_cons (de_make mk_PairSet_2 gu hr (da_cons (de_ixN 3 hu de_int (fun _ _ => rfl)) (da_cons (de_ixN 3 hu de_int (fun _ _ => rfl)) da_nil))) da_nil)) da_nil))))) (dss_one (ds_ret de_bl)) dss_nil)))))) (dss_one (ds_ret de_bl))), ?_⟩
    refine dseq ?_
    simp only [zM]
    refine ⟨by decide, by decide, ?_⟩
    refine forL_ds (fun p δ => ∃ x1 x2 x3 x4 x5, δ = [some (.p (.scr ns)), x1, x2, x3, x4, x5]) (fun p d r δ e hI N hN => ?_) (fun δ hI => ?_) ⟨_, _, _, _, _, rfl⟩
    · obtain ⟨x1, x2, x3, x4, x5, rfl⟩ := hI
      obtain ⟨rfl, hp⟩ := upto_at (n := 3) e
      simp only [zM]
      refine dseq ?_
      simp only [zM]
      refine ⟨ns, _, rfl, fun x y a1 a2 a3 a4 => ⟨rfl, x, y, 0, rfl, 0, ⟨a1, a2, a3, a4, by decide, by decide⟩, dseq ?_⟩⟩
      simp only [zM]
      obtain ⟨most, hm, m1, m60⟩ : ∃ most : Nat, atI [D.int 4, D.int 12, D.int 60] (p.length : Nat) = some (.int (most : Nat)) ∧ 1 ≤ most ∧ most ≤ 60 := by
        match p.length, hp with
        | 0, _ => exact ⟨4, rfl, by decide, by decide⟩
        | 1, _ => exact ⟨12, rfl, by decide, by decide⟩
        | 2, _ => exact ⟨60, rfl, by decide, by decide⟩
      refine ⟨_, hm, 0, most, rfl, m1, m60, by decide, fun rs acc m ok0 hm0 hm1 => ⟨rfl, dseq ?_⟩⟩
      have ok : TableOk 60 rs acc := ⟨ok0.ok, Nat.le_trans ok0.le m60, ok0.nd, ok0.lt⟩
      have le60 := ok.le
      simp only [zM]
      refine ⟨m, rs, acc, rfl, ok, by omega, fun L m' hL hl h1 h2 => ⟨rfl, rfl, _, rfl, ?_⟩⟩
      refine forL_run bD2 (fun p' δ => ∃ y4 y5, δ = [some (.p (.scr ns)), some (.p (.int (p.length : Nat))), some (.u false m'), some (.p (.tup [.lst (rs.map rowD), .lst (acc.map iD)])), y4, y5]) (l := L) (pre := []) (fun p' z r' δ e' hI M hM => ?_) (fun δ hI => ?_) ⟨_, _, rfl⟩
      · obtain ⟨y4, y5, rfl⟩ := hI
        have hz := hL z (by rw [List.nil_append] at e'; rw [e']; simp)
        simp only [zM, bD2]
        exact ⟨z.1, z.2, rfl, hz, rfl, true, rfl, iteF (hM _ ⟨_, _, rfl⟩)⟩
      · obtain ⟨y4, y5, rfl⟩ := hI
        have lp := lst_le (fl := flOf rs.length acc) ok.ok
        have ll := lst_len (rs := rs) (fl := flOf rs.length acc)
        have la : acc.length ≤ 60 := Nat.le_trans (OrdOk.len ⟨ok.nd, ok.lt⟩) le60
        simp only [zM, at_0, at_1]
        have al := accOf_le (fl := lstF rs (flOf rs.length acc))
        have hb : rs.length * (lstR rs (flOf rs.length acc)).length ≤ 60 * 60 := Nat.mul_le_mul le60 (Nat.le_trans lp le60)
        refine ⟨_, _, _, rfl, rfl, rfl, table_mch ok, .inl ⟨table_mach ok, rs, acc, rfl, rfl, ok.ok, ok.nd, by omega, rfl, ?_⟩⟩
        refine ⟨lstR rs (flOf rs.length acc), lstF rs (flOf rs.length acc), rfl, by omega, by omega, rfl, rfl, ?_⟩
        exact ⟨rs, lstR rs (flOf rs.length acc), acc, accOf (lstF rs (flOf rs.length acc)), rfl, ok.ok, lstR_ok ok.ok, by omega, by omega, by omega, table_alike ok, rfl, true, rfl, iteF (hN _ ⟨_, _, _, _, _, rfl⟩)⟩
    · obtain ⟨x1, x2, x3, x4, x5, rfl⟩ := hI
      exact ⟨rfl, 0, q⟩
end
end K

set_option Elab.async false
set_option linter.all false
set_option maxRecDepth 100000
set_option maxHeartbeats 8000000
namespace K
open PySem PySem.Spec PyProof.Rows L2 DD
local macro_rules | `(tactic| simp only [zP]) => `(tactic| simp only [startD, List.map_cons, List.map_nil, List.length_cons, List.length_nil, Nat.reduceAdd, Nat.reduceSub, List.replicate, List.cons_append, List.nil_append, dSeq, dSet, dIfS, dT, dOp, dCB, dCons, dNil, dV, dM, dC, dp, dNext, dRet, dRetN, dLst, dTup, dDrop, dNot, dAnd, dOr, dAndV, dOrV, dNotV, intG, intG0, lenG, lenD, ixG, itemD, intCG, intOf, maxG, List.getElem?_cons_zero, List.getElem?_cons_succ, List.set_cons_zero, List.set_cons_succ, Option.some.injEq, B.isU, B.d, B.rd, exists_eq_left', exists_eq_left, exists_and_left, true_and, and_true, B.p.injEq, DD.D.bl.injEq, DD.D.int.injEq, List.cons.injEq, DD.PC, decide_eq_true_eq, and_assoc, Option.map_some, dLc, iAny, walked, wipeE, gN, dCall, dCallP, dCallF, eqG, neG, Bool.not_true, Bool.not_false, if_true, if_false, Bool.false_eq_true, reduceIte, List.append_nil, dCBK, addG, dM1, gT, gsCons, gsNil, iEnumD, dAsP, iR1, dPart, dNo, dSl, freB, lstD, List.all_cons, List.all_nil, litD, Bool.and_self, dReprPair, dDctN, itemD2, ixG2, keyD, lookD, strG2, dPar, bCons, bNil, dFor, List.zip_cons_cons, List.zip_nil_right, List.foldl_cons, List.foldl_nil, dApp, B.o.injEq, DD.D.lst.injEq, DD.D.tup.injEq, exists_eq', dDct0, B.u.injEq, sizeLine_eq, Nat.reduceLeDiff, Nat.reduceLT, Nat.zero_le, true_implies, slG, List.length_map, tupleG, seqD, listG, iR2, List.length_take, List.length_drop, List.length_append, DD.D.str.injEq, mulG, dAsg, dFld, lookF, dSetF, setF, dProp, dMeth, dMake, dMakeK, cxOf_K, dChain, notNG, isNG, isNon_non, isNon_bl, isNon_int, isNon_str, isNon_lst, isNon_tup, isNon_dct, isNon_ins, isNon_exc, dXv, reprG, DD.D.ins.injEq, DD.D.exc.injEq, cmpIG, neIG, clsD, Option.bind_some, B.s.injEq, if_true, if_false, dNeg, dLenSet, dIndex, dClrE, dAppE, dCallK, eqKG, sortedSG])
local macro_rules | `(tactic| simp only [zP, $xs,*]) => `(tactic| simp only [startD, List.map_cons, List.map_nil, List.length_cons, List.length_nil, Nat.reduceAdd, Nat.reduceSub, List.replicate, List.cons_append, List.nil_append, dSeq, dSet, dIfS, dT, dOp, dCB, dCons, dNil, dV, dM, dC, dp, dNext, dRet, dRetN, dLst, dTup, dDrop, dNot, dAnd, dOr, dAndV, dOrV, dNotV, intG, intG0, lenG, lenD, ixG, itemD, intCG, intOf, maxG, List.getElem?_cons_zero, List.getElem?_cons_succ, List.set_cons_zero, List.set_cons_succ, Option.some.injEq, B.isU, B.d, B.rd, exists_eq_left', exists_eq_left, exists_and_left, true_and, and_true, B.p.injEq, DD.D.bl.injEq, DD.D.int.injEq, List.cons.injEq, DD.PC, decide_eq_true_eq, and_assoc, Option.map_some, dLc, iAny, walked, wipeE, gN, dCall, dCallP, dCallF, eqG, neG, Bool.not_true, Bool.not_false, if_true, if_false, Bool.false_eq_true, reduceIte, List.append_nil, dCBK, addG, dM1, gT, gsCons, gsNil, iEnumD, dAsP, iR1, dPart, dNo, dSl, freB, lstD, List.all_cons, List.all_nil, litD, Bool.and_self, dReprPair, dDctN, itemD2, ixG2, keyD, lookD, strG2, dPar, bCons, bNil, dFor, List.zip_cons_cons, List.zip_nil_right, List.foldl_cons, List.foldl_nil, dApp, B.o.injEq, DD.D.lst.injEq, DD.D.tup.injEq, exists_eq', dDct0, B.u.injEq, sizeLine_eq, Nat.reduceLeDiff, Nat.reduceLT, Nat.zero_le, true_implies, slG, List.length_map, tupleG, seqD, listG, iR2, List.length_take, List.length_drop, List.length_append, DD.D.str.injEq, mulG, dAsg, dFld, lookF, dSetF, setF, dProp, dMeth, dMake, dMakeK, cxOf_K, dChain, notNG, isNG, isNon_non, isNon_bl, isNon_int, isNon_str, isNon_lst, isNon_tup, isNon_dct, isNon_ins, isNon_exc, dXv, reprG, DD.D.ins.injEq, DD.D.exc.injEq, cmpIG, neIG, clsD, Option.bind_some, B.s.injEq, if_true, if_false, dNeg, dLenSet, dIndex, dClrE, dAppE, dCallK, eqKG, sortedSG, $xs,*])
local macro_rules | `(tactic| simp only [zQ]) => `(tactic| simp only [startD, List.map_cons, List.map_nil, List.length_cons, List.length_nil, Nat.reduceAdd, Nat.reduceSub, List.replicate, List.cons_append, List.nil_append, dSet, dIfS, dT, dOp, dCB, dCons, dNil, dV, dM, dC, dp, dNext, dRet, dRetN, dLst, dTup, dDrop, dNot, dAnd, dOr, dAndV, dOrV, dNotV, intG, intG0, lenG, lenD, ixG, itemD, intCG, intOf, maxG, List.getElem?_cons_zero, List.getElem?_cons_succ, List.set_cons_zero, List.set_cons_succ, Option.some.injEq, B.isU, B.d, B.rd, exists_eq_left', exists_eq_left, exists_and_left, true_and, and_true, B.p.injEq, DD.D.bl.injEq, DD.D.int.injEq, List.cons.injEq, DD.PC, decide_eq_true_eq, and_assoc, Option.map_some, dLc, iAny, walked, wipeE, gN, dCall, dCallP, dCallF, eqG, neG, Bool.not_true, Bool.not_false, if_true, if_false, Bool.false_eq_true, reduceIte, List.append_nil, dCBK, addG, dM1, gT, gsCons, gsNil, iEnumD, dAsP, iR1, dPart, dNo, dSl, freB, lstD, List.all_cons, List.all_nil, litD, Bool.and_self, dReprPair, dDctN, itemD2, ixG2, keyD, lookD, strG2, dPar, bCons, bNil, dFor, List.zip_cons_cons, List.zip_nil_right, List.foldl_cons, List.foldl_nil, dApp, B.o.injEq, DD.D.lst.injEq, DD.D.tup.injEq, exists_eq', dDct0, B.u.injEq, sizeLine_eq, Nat.reduceLeDiff, Nat.reduceLT, Nat.zero_le, true_implies, slG, List.length_map, tupleG, seqD, listG, iR2, List.length_take, List.length_drop, List.length_append, DD.D.str.injEq, mulG, dAsg, dFld, lookF, dSetF, setF, dProp, dMeth, dMake, dMakeK, cxOf_K, dChain, notNG, isNG, isNon_non, isNon_bl, isNon_int, isNon_str, isNon_lst, isNon_tup, isNon_dct, isNon_ins, isNon_exc, dXv, reprG, DD.D.ins.injEq, DD.D.exc.injEq, cmpIG, neIG, clsD, Option.bind_some, B.s.injEq, if_true, if_false, dNeg, dLenSet, dIndex, dClrE, dAppE, dCallK, eqKG, sortedSG])
local macro_rules | `(tactic| simp only [zQ, $xs,*]) => `(tactic| simp only [startD, List.map_cons, List.map_nil, List.length_cons, List.length_nil, Nat.reduceAdd, Nat.reduceSub, List.replicate, List.cons_append, List.nil_append, dSet, dIfS, dT, dOp, dCB, dCons, dNil, dV, dM, dC, dp, dNext, dRet, dRetN, dLst, dTup, dDrop, dNot, dAnd, dOr, dAndV, dOrV, dNotV, intG, intG0, lenG, lenD, ixG, itemD, intCG, intOf, maxG, List.getElem?_cons_zero, List.getElem?_cons_succ, List.set_cons_zero, List.set_cons_succ, Option.some.injEq, B.isU, B.d, B.rd, exists_eq_left', exists_eq_left, exists_and_left, true_and, and_true, B.p.injEq, DD.D.bl.injEq, DD.D.int.injEq, List.cons.injEq, DD.PC, decide_eq_true_eq, and_assoc, Option.map_some, dLc, iAny, walked, wipeE, gN, dCall, dCallP, dCallF, eqG, neG, Bool.not_true, Bool.not_false, if_true, if_false, Bool.false_eq_true, reduceIte, List.append_nil, dCBK, addG, dM1, gT, gsCons, gsNil, iEnumD, dAsP, iR1, dPart, dNo, dSl, freB, lstD, List.all_cons, List.all_nil, litD, Bool.and_self, dReprPair, dDctN, itemD2, ixG2, keyD, lookD, strG2, dPar, bCons, bNil, dFor, List.zip_cons_cons, List.zip_nil_right, List.foldl_cons, List.foldl_nil, dApp, B.o.injEq, DD.D.lst.injEq, DD.D.tup.injEq, exists_eq', dDct0, B.u.injEq, sizeLine_eq, Nat.reduceLeDiff, Nat.reduceLT, Nat.zero_le, true_implies, slG, List.length_map, tupleG, seqD, listG, iR2, List.length_take, List.length_drop, List.length_append, DD.D.str.injEq, mulG, dAsg, dFld, lookF, dSetF, setF, dProp, dMeth, dMake, dMakeK, cxOf_K, dChain, notNG, isNG, isNon_non, isNon_bl, isNon_int, isNon_str, isNon_lst, isNon_tup, isNon_dct, isNon_ins, isNon_exc, dXv, reprG, DD.D.ins.injEq, DD.D.exc.injEq, cmpIG, neIG, clsD, Option.bind_some, B.s.injEq, if_true, if_false, dNeg, dLenSet, dIndex, dClrE, dAppE, dCallK, eqKG, sortedSG, $xs,*])
local macro_rules | `(tactic| simp only [zM]) => `(tactic| simp only [startD, List.map_cons, List.map_nil, List.length_cons, List.length_nil, Nat.reduceAdd, Nat.reduceSub, List.replicate, List.cons_append, List.nil_append, dSet, dIfS, dT, dOp, dCB, dCons, dNil, dV, dM, dC, dp, dNext, dRet, dRetN, dLst, dTup, dDrop, dNot, dAnd, dOr, dAndV, dOrV, dNotV, intG, intG0, lenG, lenD, ixG, itemD, intCG, intOf, maxG, List.getElem?_cons_zero, List.getElem?_cons_succ, List.set_cons_zero, List.set_cons_succ, Option.some.injEq, B.isU, B.d, B.rd, exists_eq_left', exists_eq_left, exists_and_left, true_and, and_true, B.p.injEq, DD.D.bl.injEq, DD.D.int.injEq, List.cons.injEq, DD.PC, decide_eq_true_eq, and_assoc, Option.map_some, dLc, iAny, walked, wipeE, gN, dCall, dCallP, dCallF, eqG, neG, Bool.not_true, Bool.not_false, if_true, if_false, Bool.false_eq_true, reduceIte, List.append_nil, dCBK, addG, dM1, gT, gsCons, gsNil, iEnumD, dAsP, iR1, dPart, dNo, dSl, freB, lstD, List.all_cons, List.all_nil, litD, Bool.and_self, dReprPair, dDctN, itemD2, ixG2, keyD, lookD, strG2, dPar, bCons, bNil, dFor, List.zip_cons_cons, List.zip_nil_right, List.foldl_cons, List.foldl_nil, dApp, B.o.injEq, DD.D.lst.injEq, DD.D.tup.injEq, exists_eq', dDct0, B.u.injEq, sizeLine_eq, Nat.reduceLeDiff, Nat.reduceLT, Nat.zero_le, true_implies, slG, List.length_map, tupleG, seqD, listG, iR2, List.length_take, List.length_drop, List.length_append, DD.D.str.injEq, mulG, dAsg, dFld, lookF, dSetF, setF, dProp, dMeth, dMake, dMakeK, cxOf_K, dChain, notNG, isNG, isNon_non, isNon_bl, isNon_int, isNon_str, isNon_lst, isNon_tup, isNon_dct, isNon_ins, isNon_exc, dXv, reprG, DD.D.ins.injEq, DD.D.exc.injEq, cmpIG, neIG, clsD, Option.bind_some, B.s.injEq, if_true, if_false, dNeg, dLenSet, dIndex, dClrE, dAppE, dCallK, eqKG, sortedSG, dNL, dNR, slotD, eqL, neL, inL, isInX, ixL, itemX, getD', lenX, dLenN, dGet2, dPutN, ownS, setX, dRev, dClr, dPop, dPopAt, dExt, dAug, dDc, dLend, lendE, lend1, lentB, isLD, dDctT, dLenSetA, keyT, keyL, List.mem_cons, List.not_mem_nil, or_false, false_or, or_true, true_or, Nat.reduceEqDiff, decide_true, decide_false, Bool.or_true, Bool.true_or, Bool.false_or, Bool.or_false, Bool.and_true, Bool.true_and, reduceCtorEq, DD.D.dct.injEq, DD.D.dcT.injEq, dDctT0, nilG, nilL, List.isEmpty_nil, List.isEmpty_cons])
local macro_rules | `(tactic| simp only [zM, $xs,*]) => `(tactic| simp only [startD, List.map_cons, List.map_nil, List.length_cons, List.length_nil, Nat.reduceAdd, Nat.reduceSub, List.replicate, List.cons_append, List.nil_append, dSet, dIfS, dT, dOp, dCB, dCons, dNil, dV, dM, dC, dp, dNext, dRet, dRetN, dLst, dTup, dDrop, dNot, dAnd, dOr, dAndV, dOrV, dNotV, intG, intG0, lenG, lenD, ixG, itemD, intCG, intOf, maxG, List.getElem?_cons_zero, List.getElem?_cons_succ, List.set_cons_zero, List.set_cons_succ, Option.some.injEq, B.isU, B.d, B.rd, exists_eq_left', exists_eq_left, exists_and_left, true_and, and_true, B.p.injEq, DD.D.bl.injEq, DD.D.int.injEq, List.cons.injEq, DD.PC, decide_eq_true_eq, and_assoc, Option.map_some, dLc, iAny, walked, wipeE, gN, dCall, dCallP, dCallF, eqG, neG, Bool.not_true, Bool.not_false, if_true, if_false, Bool.false_eq_true, reduceIte, List.append_nil, dCBK, addG, dM1, gT, gsCons, gsNil, iEnumD, dAsP, iR1, dPart, dNo, dSl, freB, lstD, List.all_cons, List.all_nil, litD, Bool.and_self, dReprPair, dDctN, itemD2, ixG2, keyD, lookD, strG2, dPar, bCons, bNil, dFor, List.zip_cons_cons, List.zip_nil_right, List.foldl_cons, List.foldl_nil, dApp, B.o.injEq, DD.D.lst.injEq, DD.D.tup.injEq, exists_eq', dDct0, B.u.injEq, sizeLine_eq, Nat.reduceLeDiff, Nat.reduceLT, Nat.zero_le, true_implies, slG, List.length_map, tupleG, seqD, listG, iR2, List.length_take, List.length_drop, List.length_append, DD.D.str.injEq, mulG, dAsg, dFld, lookF, dSetF, setF, dProp, dMeth, dMake, dMakeK, cxOf_K, dChain, notNG, isNG, isNon_non, isNon_bl, isNon_int, isNon_str, isNon_lst, isNon_tup, isNon_dct, isNon_ins, isNon_exc, dXv, reprG, DD.D.ins.injEq, DD.D.exc.injEq, cmpIG, neIG, clsD, Option.bind_some, B.s.injEq, if_true, if_false, dNeg, dLenSet, dIndex, dClrE, dAppE, dCallK, eqKG, sortedSG, dNL, dNR, slotD, eqL, neL, inL, isInX, ixL, itemX, getD', lenX, dLenN, dGet2, dPutN, ownS, setX, dRev, dClr, dPop, dPopAt, dExt, dAug, dDc, dLend, lendE, lend1, lentB, isLD, dDctT, dLenSetA, keyT, keyL, List.mem_cons, List.not_mem_nil, or_false, false_or, or_true, true_or, Nat.reduceEqDiff, decide_true, decide_false, Bool.or_true, Bool.true_or, Bool.false_or, Bool.or_false, Bool.and_true, Bool.true_and, reduceCtorEq, DD.D.dct.injEq, DD.D.dcT.injEq, dDctT0, nilG, nilL, List.isEmpty_nil, List.isEmpty_cons, $xs,*])
section
variable {P : Program} {w : World} {K : PySem.W.Frag} {mg : Str → Option Value} {base : Heap}

theorem mkp_2 {a_PairSet aI : Addr} {k : Nat} (h : ∃ f fd, GnOk P w K mg base k f fd ["self", "rows", "accepting"] (toSpS K (spi_PairSet a_PairSet aI)) ∧ Mk K a_PairSet f ∧ mg "PairSet" = some (.ref a_PairSet) ∧ FunD K "__init__" "PairSet.__init__" (defArgs s_PairSet___init__) (defBody s_PairSet___init__) (defScope s_PairSet___init__) [] [] f fd) :
    MakC P w K mg base "PairSet" a_PairSet k ["self", "rows", "accepting"] [] (spi_PairSet a_PairSet aI) := by
  obtain ⟨f, fd, G, M, hm, F⟩ := h
  obtain ⟨oc, od, dV, kV, doc, pm, an, cdv, ct, osl, rfl, lk, hcd, hD, hK⟩ := F.ex
  rcases hD with ⟨_, rfl⟩ | ⟨e, _⟩
  · exact ⟨f, _, [], [], G, M, hm, .all fun us hl => match us, hl with | [_, _, _], _ => rfl, .nil, fun F => .nil⟩
  · exact absurd rfl e

end
end K

set_option Elab.async false
set_option linter.all false
set_option maxRecDepth 100000
set_option maxHeartbeats 8000000
namespace K
open PySem PySem.Spec PyProof.Rows L2 DD
def initOf : Stmt → Stmt
  | .ClassDef _ _ _ b _ _ _ _ _ _ _ => b.getD 0 (.Pass ⟨0, 0, 0, 0⟩)
  | s => s
def p_InvalidMachine : Nat → Pos := fun | 0 => ⟨23, 8, 23, 13⟩ | 1 => ⟨23, 8, 23, 15⟩ | 2 => ⟨23, 8, 23, 24⟩ | 3 => ⟨23, 25, 23, 30⟩ | 4 => ⟨23, 8, 23, 31⟩ | 5 => ⟨23, 8, 23, 31⟩ | 6 => ⟨24, 8, 24, 12⟩ | 7 => ⟨24, 8, 24, 18⟩ | 8 => ⟨24, 21, 24, 26⟩ | _ => ⟨24, 8, 24, 26⟩
abbrev i_InvalidMachine : Stmt := initOf (topS 7)
theorem all_mk {w : World} {K : PySem.W.Frag} {h : Heap} {mg : Str → Option Value} (X : K.In h) (G : h.Ns mainGlobals mg)
    {osys : Obj}
    {f_first_met : Addr} {od_first_met an_first_met : Option Addr} {sl_first_met : Array (Option Value)} {oc_first_met kV_first_met dc_first_met pm_first_met cd_first_met ct_first_met : Value}
    {f_renumbered : Addr} {od_renumbered an_renumbered : Option Addr} {sl_renumbered : Array (Option Value)} {oc_renumbered kV_renumbered dc_renumbered pm_renumbered cd_renumbered ct_renumbered : Value}
    {f_grouped : Addr} {od_grouped an_grouped : Option Addr} {sl_grouped : Array (Option Value)} {oc_grouped kV_grouped dc_grouped pm_grouped cd_grouped ct_grouped : Value}
    {f_least_machine : Addr} {od_least_machine an_least_machine : Option Addr} {sl_least_machine : Array (Option Value)} {oc_least_machine kV_least_machine dc_least_machine pm_least_machine cd_least_machine ct_least_machine : Value}
    {f_is_whole : Addr} {od_is_whole an_is_whole : Option Addr} {sl_is_whole : Array (Option Value)} {oc_is_whole kV_is_whole dc_is_whole pm_is_whole cd_is_whole ct_is_whole : Value}
    {f_is_state : Addr} {od_is_state an_is_state : Option Addr} {sl_is_state : Array (Option Value)} {oc_is_state kV_is_state dc_is_state pm_is_state cd_is_state ct_is_state : Value}
    {f_is_machine : Addr} {od_is_machine an_is_machine : Option Addr} {sl_is_machine : Array (Option Value)} {oc_is_machine kV_is_machine dc_is_machine pm_is_machine cd_is_machine ct_is_machine : Value}
    {f__law_purse : Addr} {od__law_purse an__law_purse : Option Addr} {sl__law_purse : Array (Option Value)} {oc__law_purse kV__law_purse dc__law_purse pm__law_purse cd__law_purse ct__law_purse : Value}
    {f__law_draw : Addr} {od__law_draw an__law_draw : Option Addr} {sl__law_draw : Array (Option Value)} {oc__law_draw kV__law_draw dc__law_draw pm__law_draw cd__law_draw ct__law_draw : Value}
    {f__law_table : Addr} {od__law_table an__law_table : Option Addr} {sl__law_table : Array (Option Value)} {oc__law_table kV__law_table dc__law_table pm__law_table cd__law_table ct__law_table : Value}
    {f__law_told : Addr} {od__law_told an__law_told : Option Addr} {sl__law_told : Array (Option Value)} {oc__law_told kV__law_told dc__law_told pm__law_told cd__law_told ct__law_told : Value}
    {f__law_joined : Addr} {od__law_joined an__law_joined : Option Addr} {sl__law_joined : Array (Option Value)} {oc__law_joined kV__law_joined dc__law_joined pm__law_joined cd__law_joined ct__law_joined : Value}
    {f__law_shortest : Addr} {od__law_shortest an__law_shortest : Option Addr} {sl__law_shortest : Array (Option Value)} {oc__law_shortest kV__law_shortest dc__law_shortest pm__law_shortest cd__law_shortest ct__law_shortest : Value}
    {f__law_alike : Addr} {od__law_alike an__law_alike : Option Addr} {sl__law_alike : Array (Option Value)} {oc__law_alike kV__law_alike dc__law_alike pm__law_alike cd__law_alike ct__law_alike : Value}
    {f__law_odd_states : Addr} {od__law_odd_states an__law_odd_states : Option Addr} {sl__law_odd_states : Array (Option Value)} {oc__law_odd_states kV__law_odd_states dc__law_odd_states pm__law_odd_states cd__law_odd_states ct__law_odd_states : Value}
    {f__law_bent : Addr} {od__law_bent an__law_bent : Option Addr} {sl__law_bent : Array (Option Value)} {oc__law_bent kV__law_bent dc__law_bent pm__law_bent cd__law_bent ct__law_bent : Value}
    {f__law_refused : Addr} {od__law_refused an__law_refused : Option Addr} {sl__law_refused : Array (Option Value)} {oc__law_refused kV__law_refused dc__law_refused pm__law_refused cd__law_refused ct__law_refused : Value}
    {f_law : Addr} {od_law an_law : Option Addr} {sl_law : Array (Option Value)} {oc_law kV_law dc_law pm_law cd_law ct_law : Value}
    {A_InvalidMachine : Addr}
    {nm_InvalidMachine q_InvalidMachine : Str} {N_InvalidMachine : Addr} {bs_InvalidMachine bm_InvalidMachine : List Value} {sn_InvalidMachine : List Str} {sub_InvalidMachine : List Value} {ab_InvalidMachine : Bool} {col_InvalidMachine : Option Bool} {dd_InvalidMachine : Option Addr} {k0_InvalidMachine k1_InvalidMachine k2_InvalidMachine k3_InvalidMachine k5_InvalidMachine : Option Value}
    {T_InvalidMachine : Addr} {tc_InvalidMachine : Value} {td_InvalidMachine : Option Addr} {tn_InvalidMachine : Nat} {ts_InvalidMachine : Array (Option Value)}
    {I_InvalidMachine : Addr} {oc_InvalidMachine kV_InvalidMachine doc_InvalidMachine pm_InvalidMachine ct_InvalidMachine ccl_InvalidMachine cl_InvalidMachine : Value} {od_InvalidMachine an_InvalidMachine cdd_InvalidMachine cld_InvalidMachine : Option Addr} {cda_InvalidMachine cc_InvalidMachine : Addr} {osl_InvalidMachine ccs_InvalidMachine csl_InvalidMachine : Array (Option Value)} {vs_InvalidMachine : Array Value} {file_InvalidMachine : Str} {tf_InvalidMachine : Tok}
    {A_EveryPairError : Addr}
    {A_InvalidSet : Addr}
    {A_InvalidList : Addr}
    {A_InvalidMarks : Addr}
    {A_InvalidNumber : Addr}
    {A_InvalidStretches : Addr}
    {A_PairSet : Addr}
    {p_PairSet_rows : Addr} {r_PairSet_rows : List Value}
    {f_PairSet_rows : Addr} {od_PairSet_rows an_PairSet_rows : Option Addr} {sl_PairSet_rows : Array (Option Value)} {oc_PairSet_rows kV_PairSet_rows dc_PairSet_rows pm_PairSet_rows cd_PairSet_rows ct_PairSet_rows : Value}
    {p_PairSet_accepting : Addr} {r_PairSet_accepting : List Value}
    {f_PairSet_accepting : Addr} {od_PairSet_accepting an_PairSet_accepting : Option Addr} {sl_PairSet_accepting : Array (Option Value)} {oc_PairSet_accepting kV_PairSet_accepting dc_PairSet_accepting pm_PairSet_accepting cd_PairSet_accepting ct_PairSet_accepting : Value}
    {f_PairSet___init__ : Addr} {od_PairSet___init__ an_PairSet___init__ : Option Addr} {sl_PairSet___init__ : Array (Option Value)} {oc_PairSet___init__ kV_PairSet___init__ dc_PairSet___init__ pm_PairSet___init__ cd_PairSet___init__ ct_PairSet___init__ dV_PairSet___init__ : Value}
    
    (zsup : PySem.W.nsIn K mainGlobals "super" = some none)
    (zopq : PySem.W.nsIn K cStatics "thirdparty.any" = some none)
    (zsp : PySem.W.specialIn K (.builtin "object.__class__") "__get__" = some (some (.builtin "getset_descriptor.__get__")))
    (ztk : PySem.W.takesIn K (.builtin "object.__class__") = some true)
    (zsys : K.lookup sysModules = some osys)
    (a_first_met : PySem.W.nsIn K mainGlobals "first_met" = some (some (.ref f_first_met)))
    (l_first_met : K.lookup f_first_met = some ⟨oc_first_met, od_first_met, .func (PySem.W.fnOf "first_met" "first_met" (defArgs s_first_met) (defBody s_first_met) (defScope s_first_met) .none kV_first_met dc_first_met pm_first_met an_first_met cd_first_met ct_first_met), sl_first_met⟩)
    (c_first_met : PySem.W.codeIn K cd_first_met "first_met" = true)
    (k_first_met : PySem.W.keepIn K (.ref f_first_met) = true)
    (a_renumbered : PySem.W.nsIn K mainGlobals "renumbered" = some (some (.ref f_renumbered)))
    (l_renumbered : K.lookup f_renumbered = some ⟨oc_renumbered, od_renumbered, .func (PySem.W.fnOf "renumbered" "renumbered" (defArgs s_renumbered) (defBody s_renumbered) (defScope s_renumbered) .none kV_renumbered dc_renumbered pm_renumbered an_renumbered cd_renumbered ct_renumbered), sl_renumbered⟩)
    (c_renumbered : PySem.W.codeIn K cd_renumbered "renumbered" = true)
    (k_renumbered : PySem.W.keepIn K (.ref f_renumbered) = true)
    (a_grouped : PySem.W.nsIn K mainGlobals "grouped" = some (some (.ref f_grouped)))
    (l_grouped : K.lookup f_grouped = some ⟨oc_grouped, od_grouped, .func (PySem.W.fnOf "grouped" "grouped" (defArgs s_grouped) (defBody s_grouped) (defScope s_grouped) .none kV_grouped dc_grouped pm_grouped an_grouped cd_grouped ct_grouped), sl_grouped⟩)
    (c_grouped : PySem.W.codeIn K cd_grouped "grouped" = true)
    (k_grouped : PySem.W.keepIn K (.ref f_grouped) = true)
    (a_least_machine : PySem.W.nsIn K mainGlobals "least_machine" = some (some (.ref f_least_machine)))
    (l_least_machine : K.lookup f_least_machine = some ⟨oc_least_machine, od_least_machine, .func (PySem.W.fnOf "least_machine" "least_machine" (defArgs s_least_machine) (defBody s_least_machine) (defScope s_least_machine) .none kV_least_machine dc_least_machine pm_least_machine an_least_machine cd_least_machine ct_least_machine), sl_least_machine⟩)
    (c_least_machine : PySem.W.codeIn K cd_least_machine "least_machine" = true)
    (k_least_machine : PySem.W.keepIn K (.ref f_least_machine) = true)
    (a_is_whole : PySem.W.nsIn K mainGlobals "is_whole" = some (some (.ref f_is_whole)))
    (l_is_whole : K.lookup f_is_whole = some ⟨oc_is_whole, od_is_whole, .func (PySem.W.fnOf "is_whole" "is_whole" (defArgs s_is_whole) (defBody s_is_whole) (defScope s_is_whole) .none kV_is_whole dc_is_whole pm_is_whole an_is_whole cd_is_whole ct_is_whole), sl_is_whole⟩)
    (c_is_whole : PySem.W.codeIn K cd_is_whole "is_whole" = true)
    (k_is_whole : PySem.W.keepIn K (.ref f_is_whole) = true)
    (a_is_state : PySem.W.nsIn K mainGlobals "is_state" = some (some (.ref f_is_state)))
    (l_is_state : K.lookup f_is_state = some ⟨oc_is_state, od_is_state, .func (PySem.W.fnOf "is_state" "is_state" (defArgs s_is_state) (defBody s_is_state) (defScope s_is_state) .none kV_is_state dc_is_state pm_is_state an_is_state cd_is_state ct_is_state), sl_is_state⟩)
    (c_is_state : PySem.W.codeIn K cd_is_state "is_state" = true)
    (k_is_state : PySem.W.keepIn K (.ref f_is_state) = true)
    (a_is_machine : PySem.W.nsIn K mainGlobals "is_machine" = some (some (.ref f_is_machine)))
    (l_is_machine : K.lookup f_is_machine = some ⟨oc_is_machine, od_is_machine, .func (PySem.W.fnOf "is_machine" "is_machine" (defArgs s_is_machine) (defBody s_is_machine) (defScope s_is_machine) .none kV_is_machine dc_is_machine pm_is_machine an_is_machine cd_is_machine ct_is_machine), sl_is_machine⟩)
    (c_is_machine : PySem.W.codeIn K cd_is_machine "is_machine" = true)
    (k_is_machine : PySem.W.keepIn K (.ref f_is_machine) = true)
    (a__law_purse : PySem.W.nsIn K mainGlobals "_law_purse" = some (some (.ref f__law_purse)))
    (l__law_purse : K.lookup f__law_purse = some ⟨oc__law_purse, od__law_purse, .func (PySem.W.fnOf "_law_purse" "_law_purse" (defArgs s__law_purse) (defBody s__law_purse) (defScope s__law_purse) .none kV__law_purse dc__law_purse pm__law_purse an__law_purse cd__law_purse ct__law_purse), sl__law_purse⟩)
    (c__law_purse : PySem.W.codeIn K cd__law_purse "_law_purse" = true)
    (k__law_purse : PySem.W.keepIn K (.ref f__law_purse) = true)
    (a__law_draw : PySem.W.nsIn K mainGlobals "_law_draw" = some (some (.ref f__law_draw)))
    (l__law_draw : K.lookup f__law_draw = some ⟨oc__law_draw, od__law_draw, .func (PySem.W.fnOf "_law_draw" "_law_draw" (defArgs s__law_draw) (defBody s__law_draw) (defScope s__law_draw) .none kV__law_draw dc__law_draw pm__law_draw an__law_draw cd__law_draw ct__law_draw), sl__law_draw⟩)
    (c__law_draw : PySem.W.codeIn K cd__law_draw "_law_draw" = true)
    (k__law_draw : PySem.W.keepIn K (.ref f__law_draw) = true)
    (a__law_table : PySem.W.nsIn K mainGlobals "_law_table" = some (some (.ref f__law_table)))
    (l__law_table : K.lookup f__law_table = some ⟨oc__law_table, od__law_table, .func (PySem.W.fnOf "_law_table" "_law_table" (defArgs s__law_table) (defBody s__law_table) (defScope s__law_table) .none kV__law_table dc__law_table pm__law_table an__law_table cd__law_table ct__law_table), sl__law_table⟩)
    (c__law_table : PySem.W.codeIn K cd__law_table "_law_table" = true)
    (k__law_table : PySem.W.keepIn K (.ref f__law_table) = true)
    (a__law_told : PySem.W.nsIn K mainGlobals "_law_told" = some (some (.ref f__law_told)))
    (l__law_told : K.lookup f__law_told = some ⟨oc__law_told, od__law_told, .func (PySem.W.fnOf "_law_told" "_law_told" (defArgs s__law_told) (defBody s__law_told) (defScope s__law_told) .none kV__law_told dc__law_told pm__law_told an__law_told cd__law_told ct__law_told), sl__law_told⟩)
    (c__law_told : PySem.W.codeIn K cd__law_told "_law_told" = true)
    (k__law_told : PySem.W.keepIn K (.ref f__law_told) = true)
    (a__law_joined : PySem.W.nsIn K mainGlobals "_law_joined" = some (some (.ref f__law_joined)))
    (l__law_joined : K.lookup f__law_joined = some ⟨oc__law_joined, od__law_joined, .func (PySem.W.fnOf "_law_joined" "_law_joined" (defArgs s__law_joined) (defBody s__law_joined) (defScope s__law_joined) .none kV__law_joined dc__law_joined pm__law_joined an__law_joined cd__law_joined ct__law_joined), sl__law_joined⟩)
    (c__law_joined : PySem.W.codeIn K cd__law_joined "_law_joined" = true)
    (k__law_joined : PySem.W.keepIn K (.ref f__law_joined) = true)
    (a__law_shortest : PySem.W.nsIn K mainGlobals "_law_shortest" = some (some (.ref f__law_shortest)))
    (l__law_shortest : K.lookup f__law_shortest = some ⟨oc__law_shortest, od__law_shortest, .func (PySem.W.fnOf "_law_shortest" "_law_shortest" (defArgs s__law_shortest) (defBody s__law_shortest) (defScope s__law_shortest) .none kV__law_shortest dc__law_shortest pm__law_shortest an__law_shortest cd__law_shortest ct__law_shortest), sl__law_shortest⟩)
    (c__law_shortest : PySem.W.codeIn K cd__law_shortest "_law_shortest" = true)
    (k__law_shortest : PySem.W.keepIn K (.ref f__law_shortest) = true)
    (a__law_alike : PySem.W.nsIn K mainGlobals "_law_alike" = some (some (.ref f__law_alike)))
    (l__law_alike : K.lookup f__law_alike = some ⟨oc__law_alike, od__law_alike, .func (PySem.W.fnOf "_law_alike" "_law_alike" (defArgs s__law_alike) (defBody s__law_alike) (defScope s__law_alike) .none kV__law_alike dc__law_alike pm__law_alike an__law_alike cd__law_alike ct__law_alike), sl__law_alike⟩)
    (c__law_alike : PySem.W.codeIn K cd__law_alike "_law_alike" = true)
    (k__law_alike : PySem.W.keepIn K (.ref f__law_alike) = true)
    (a__law_odd_states : PySem.W.nsIn K mainGlobals "_law_odd_states" = some (some (.ref f__law_odd_states)))
    (l__law_odd_states : K.lookup f__law_odd_states = some ⟨oc__law_odd_states, od__law_odd_states, .func (PySem.W.fnOf "_law_odd_states" "_law_odd_states" (defArgs s__law_odd_states) (defBody s__law_odd_states) (defScope s__law_odd_states) .none kV__law_odd_states dc__law_odd_states pm__law_odd_states an__law_odd_states cd__law_odd_states ct__law_odd_states), sl__law_odd_states⟩)
    (c__law_odd_states : PySem.W.codeIn K cd__law_odd_states "_law_odd_states" = true)
    (k__law_odd_states : PySem.W.keepIn K (.ref f__law_odd_states) = true)
    (a__law_bent : PySem.W.nsIn K mainGlobals "_law_bent" = some (some (.ref f__law_bent)))
    (l__law_bent : K.lookup f__law_bent = some ⟨oc__law_bent, od__law_bent, .func (PySem.W.fnOf "_law_bent" "_law_bent" (defArgs s__law_bent) (defBody s__law_bent) (defScope s__law_bent) .none kV__law_bent dc__law_bent pm__law_bent an__law_bent cd__law_bent ct__law_bent), sl__law_bent⟩)
    (c__law_bent : PySem.W.codeIn K cd__law_bent "_law_bent" = true)
    (k__law_bent : PySem.W.keepIn K (.ref f__law_bent) = true)
    (a__law_refused : PySem.W.nsIn K mainGlobals "_law_refused" = some (some (.ref f__law_refused)))
    (l__law_refused : K.lookup f__law_refused = some ⟨oc__law_refused, od__law_refused, .func (PySem.W.fnOf "_law_refused" "_law_refused" (defArgs s__law_refused) (defBody s__law_refused) (defScope s__law_refused) .none kV__law_refused dc__law_refused pm__law_refused an__law_refused cd__law_refused ct__law_refused), sl__law_refused⟩)
    (c__law_refused : PySem.W.codeIn K cd__law_refused "_law_refused" = true)
    (k__law_refused : PySem.W.keepIn K (.ref f__law_refused) = true)
    (a_law : PySem.W.nsIn K mainGlobals "law" = some (some (.ref f_law)))
    (l_law : K.lookup f_law = some ⟨oc_law, od_law, .func (PySem.W.fnOf "law" "law" (defArgs s_law) (defBody s_law) (defScope s_law) .none kV_law dc_law pm_law an_law cd_law ct_law), sl_law⟩)
    (c_law : PySem.W.codeIn K cd_law "law" = true)
    (k_law : PySem.W.keepIn K (.ref f_law) = true)
    (z_int : PySem.W.nsIn K mainGlobals "int" = some none)
    (z_bool : PySem.W.nsIn K mainGlobals "bool" = some none)
    (z_isinstance : PySem.W.nsIn K mainGlobals "isinstance" = some none)
    (z_list : PySem.W.nsIn K mainGlobals "list" = some none)
    (z_len : PySem.W.nsIn K mainGlobals "len" = some none)
    (z_range : PySem.W.nsIn K mainGlobals "range" = some none)
    (z_max : PySem.W.nsIn K mainGlobals "max" = some none)
    (z_repr : PySem.W.nsIn K mainGlobals "repr" = some none)
    (z_tuple : PySem.W.nsIn K mainGlobals "tuple" = some none)
    (z_set : PySem.W.nsIn K mainGlobals "set" = some none)
    (z_enumerate : PySem.W.nsIn K mainGlobals "enumerate" = some none)
    (z_ValueError : PySem.W.nsIn K mainGlobals "ValueError" = some none)
    (a_InvalidMachine : PySem.W.nsIn K mainGlobals "InvalidMachine" = some (some (.ref A_InvalidMachine)))
    (xL_InvalidMachine : K.lookup A_InvalidMachine = some (excClassObj nm_InvalidMachine q_InvalidMachine A_InvalidMachine N_InvalidMachine bs_InvalidMachine bm_InvalidMachine true sn_InvalidMachine sub_InvalidMachine ab_InvalidMachine col_InvalidMachine dd_InvalidMachine k0_InvalidMachine k1_InvalidMachine k2_InvalidMachine k3_InvalidMachine k5_InvalidMachine "ValueError.__new__"))
    (rf_InvalidMachine : PySem.HandSPX.refsVE bm_InvalidMachine = true)
    (sa_InvalidMachine : PySem.W.findIn K (.ref A_InvalidMachine) "__setattr__" = some (some (.builtin "object.__setattr__")))
    (ex_InvalidMachine : PySem.W.subIn K (.ref A_InvalidMachine) (.type "BaseException") = some true)
    (no_InvalidMachine : PySem.W.findIn K (.ref A_InvalidMachine) "value" = some none)
    (ty_InvalidMachine : PySem.W.typeIn K (.ref A_InvalidMachine) = some (.type "type"))
    (kp_InvalidMachine : PySem.W.keepIn K (.ref A_InvalidMachine) = true)
    (iC_InvalidMachine : PySem.W.findIn K (.ref A_InvalidMachine) "__init__" = some (some (.ref I_InvalidMachine)))
    (tI_InvalidMachine : PySem.W.typeIn K (.ref I_InvalidMachine) = some (.type "function"))
    (hm_InvalidMachine : PySem.W.ks_superIn K A_InvalidMachine A_InvalidMachine "__init__" = some (some (.builtin "ValueError.__init__")))
    (hB_InvalidMachine : PySem.W.subIn K (.ref A_InvalidMachine) (.type "ValueError") = some true)
    (hD_InvalidMachine : PySem.W.mroIn K A_InvalidMachine (.ref A_InvalidMachine) = some true)
    (l1_InvalidMachine : K.lookup I_InvalidMachine = some ⟨oc_InvalidMachine, od_InvalidMachine, .func (PySem.W.ksFn "__init__" "InvalidMachine.__init__" (defArgs i_InvalidMachine) (ixBody p_InvalidMachine) ixScope (.ref T_InvalidMachine) kV_InvalidMachine doc_InvalidMachine pm_InvalidMachine an_InvalidMachine (.ref cda_InvalidMachine) ct_InvalidMachine cc_InvalidMachine), osl_InvalidMachine⟩)
    (lT_InvalidMachine : K.lookup T_InvalidMachine = some ⟨tc_InvalidMachine, td_InvalidMachine, .seq [.none].toArray tn_InvalidMachine, ts_InvalidMachine⟩)
    (c1_InvalidMachine : PySem.W.codeIn K (.ref cda_InvalidMachine) "InvalidMachine.__init__" = true)
    (l2_InvalidMachine : K.lookup cda_InvalidMachine = some ⟨ccl_InvalidMachine, cdd_InvalidMachine, .fields vs_InvalidMachine, ccs_InvalidMachine⟩)
    (v2_InvalidMachine : vs_InvalidMachine[2]? = some (.str file_InvalidMachine tf_InvalidMachine))
    (fi_InvalidMachine : ((PySem.Challenge.pw_everypair_k21_machines_refused.main.file : Str) == file_InvalidMachine) = true)
    (l3_InvalidMachine : K.lookup cc_InvalidMachine = some ⟨cl_InvalidMachine, cld_InvalidMachine, .cell (some (.ref A_InvalidMachine)), csl_InvalidMachine⟩)
    (ga_InvalidMachine : PySem.W.findIn K (.ref A_InvalidMachine) "__getattribute__" = some (some (.builtin "BaseException.__getattribute__")))
    (gg_InvalidMachine : PySem.W.findIn K (.ref A_InvalidMachine) "__getattr__" = some none)
    (hd_InvalidMachine : PySem.W.hasDictIn K A_InvalidMachine = true)
    (ic_InvalidMachine : PySem.W.isClsIn K A_InvalidMachine = true)
    (ac_InvalidMachine : PySem.W.findIn K (.ref A_InvalidMachine) "__class__" = some (some (.builtin "object.__class__")))
    (ob_InvalidMachine : PySem.W.mroIn K A_InvalidMachine (.type "object") = some true)
    (a_EveryPairError : PySem.W.nsIn K mainGlobals "EveryPairError" = some (some (.ref A_EveryPairError)))
    (a_InvalidSet : PySem.W.nsIn K mainGlobals "InvalidSet" = some (some (.ref A_InvalidSet)))
    (a_InvalidList : PySem.W.nsIn K mainGlobals "InvalidList" = some (some (.ref A_InvalidList)))
    (a_InvalidMarks : PySem.W.nsIn K mainGlobals "InvalidMarks" = some (some (.ref A_InvalidMarks)))
    (a_InvalidNumber : PySem.W.nsIn K mainGlobals "InvalidNumber" = some (some (.ref A_InvalidNumber)))
    (a_InvalidStretches : PySem.W.nsIn K mainGlobals "InvalidStretches" = some (some (.ref A_InvalidStretches)))
    (a_PairSet : PySem.W.nsIn K mainGlobals "PairSet" = some (some (.ref A_PairSet)))
    (pg_PairSet : PySem.W.plainGet K A_PairSet Str.empty = true)
    (hd_PairSet : PySem.W.hasDictIn K A_PairSet = true)
    (po_PairSet : PySem.W.plainOver K A_PairSet = true)
    (sa_PairSet : PySem.W.findIn K (.ref A_PairSet) "__setattr__" = some (some (.builtin "object.__setattr__")))
    (na_PairSet_machine : PySem.W.findIn K (.ref A_PairSet) "machine" = some none)
    (at_PairSet_rows : PySem.W.findIn K (.ref A_PairSet) "rows" = some (some (.ref p_PairSet_rows)))
    (sg_PairSet_rows : PySem.W.specialIn K (.ref p_PairSet_rows) "__get__" = some (some (.builtin "property.__get__")))
    (tk_PairSet_rows : PySem.W.takesIn K (.ref p_PairSet_rows) = some true)
    (re_PairSet_rows : PySem.W.recIn K p_PairSet_rows "property" = some (.ref f_PairSet_rows :: r_PairSet_rows))
    (l_PairSet_rows : K.lookup f_PairSet_rows = some ⟨oc_PairSet_rows, od_PairSet_rows, .func (PySem.W.fnOf "rows" "PairSet.rows" (defArgs s_PairSet_rows) (defBody s_PairSet_rows) (defScope s_PairSet_rows) .none kV_PairSet_rows dc_PairSet_rows pm_PairSet_rows an_PairSet_rows cd_PairSet_rows ct_PairSet_rows), sl_PairSet_rows⟩)
    (c_PairSet_rows : PySem.W.codeIn K cd_PairSet_rows "PairSet.rows" = true)
    (k_PairSet_rows : PySem.W.keepIn K (.ref f_PairSet_rows) = true)
    (at_PairSet_accepting : PySem.W.findIn K (.ref A_PairSet) "accepting" = some (some (.ref p_PairSet_accepting)))
    (sg_PairSet_accepting : PySem.W.specialIn K (.ref p_PairSet_accepting) "__get__" = some (some (.builtin "property.__get__")))
    (tk_PairSet_accepting : PySem.W.takesIn K (.ref p_PairSet_accepting) = some true)
    (re_PairSet_accepting : PySem.W.recIn K p_PairSet_accepting "property" = some (.ref f_PairSet_accepting :: r_PairSet_accepting))
    (l_PairSet_accepting : K.lookup f_PairSet_accepting = some ⟨oc_PairSet_accepting, od_PairSet_accepting, .func (PySem.W.fnOf "accepting" "PairSet.accepting" (defArgs s_PairSet_accepting) (defBody s_PairSet_accepting) (defScope s_PairSet_accepting) .none kV_PairSet_accepting dc_PairSet_accepting pm_PairSet_accepting an_PairSet_accepting cd_PairSet_accepting ct_PairSet_accepting), sl_PairSet_accepting⟩)
    (c_PairSet_accepting : PySem.W.codeIn K cd_PairSet_accepting "PairSet.accepting" = true)
    (k_PairSet_accepting : PySem.W.keepIn K (.ref f_PairSet_accepting) = true)
    (mk_PairSet : PySem.W.makesIn K A_PairSet = true)
    (in_PairSet : PySem.W.findIn K (.ref A_PairSet) "__init__" = some (some (.ref f_PairSet___init__)))
    (fn_PairSet___init__ : PySem.W.isFn K (.ref f_PairSet___init__) = true)
    (kc_PairSet : PySem.W.keepIn K (.ref A_PairSet) = true)
    (l_PairSet___init__ : K.lookup f_PairSet___init__ = some ⟨oc_PairSet___init__, od_PairSet___init__, .func (PySem.W.fnOf "__init__" "PairSet.__init__" (defArgs s_PairSet___init__) (defBody s_PairSet___init__) (defScope s_PairSet___init__) dV_PairSet___init__ kV_PairSet___init__ dc_PairSet___init__ pm_PairSet___init__ an_PairSet___init__ cd_PairSet___init__ ct_PairSet___init__), sl_PairSet___init__⟩)
    (c_PairSet___init__ : PySem.W.codeIn K cd_PairSet___init__ "PairSet.__init__" = true)
    (k_PairSet___init__ : PySem.W.keepIn K (.ref f_PairSet___init__) = true)
    (T0_PairSet___init__ : dV_PairSet___init__ = .none)
    (kx : PySem.W.exmOne K (.ref A_InvalidMachine) (.ref A_EveryPairError) = some true)
    (kV : PySem.W.kitOne K (.ref A_InvalidMachine) (.type "ValueError") = some true)
    (k_InvalidSet : PySem.W.kitOne K (.ref A_InvalidMachine) (.ref A_InvalidSet) = some false)
    (k_InvalidList : PySem.W.kitOne K (.ref A_InvalidMachine) (.ref A_InvalidList) = some false)
    (k_InvalidMarks : PySem.W.kitOne K (.ref A_InvalidMachine) (.ref A_InvalidMarks) = some false)
    (k_InvalidNumber : PySem.W.kitOne K (.ref A_InvalidMachine) (.ref A_InvalidNumber) = some false)
    (k_InvalidStretches : PySem.W.kitOne K (.ref A_InvalidMachine) (.ref A_InvalidStretches) = some false)
    (base : Heap) : Cal PySem.Challenge.pw_everypair_k21_machines_refused w K mg base "law" 10 ["_law_script"] spd_law := by
  have hsy : ∃ o, K.lookup sysModules = some o := ⟨_, zsys⟩
  have d_first_met : DefAt K mg "first_met" s_first_met := defAt_of X G a_first_met l_first_met c_first_met k_first_met
  have d_renumbered : DefAt K mg "renumbered" s_renumbered := defAt_of X G a_renumbered l_renumbered c_renumbered k_renumbered
  have d_grouped : DefAt K mg "grouped" s_grouped := defAt_of X G a_grouped l_grouped c_grouped k_grouped
  have d_least_machine : DefAt K mg "least_machine" s_least_machine := defAt_of X G a_least_machine l_least_machine c_least_machine k_least_machine
  have d_is_whole : DefAt K mg "is_whole" s_is_whole := defAt_of X G a_is_whole l_is_whole c_is_whole k_is_whole
  have d_is_state : DefAt K mg "is_state" s_is_state := defAt_of X G a_is_state l_is_state c_is_state k_is_state
  have d_is_machine : DefAt K mg "is_machine" s_is_machine := defAt_of X G a_is_machine l_is_machine c_is_machine k_is_machine
  have d__law_purse : DefAt K mg "_law_purse" s__law_purse := defAt_of X G a__law_purse l__law_purse c__law_purse k__law_purse
  have d__law_draw : DefAt K mg "_law_draw" s__law_draw := defAt_of X G a__law_draw l__law_draw c__law_draw k__law_draw
  have d__law_table : DefAt K mg "_law_table" s__law_table := defAt_of X G a__law_table l__law_table c__law_table k__law_table
  have d__law_told : DefAt K mg "_law_told" s__law_told := defAt_of X G a__law_told l__law_told c__law_told k__law_told
  have d__law_joined : DefAt K mg "_law_joined" s__law_joined := defAt_of X G a__law_joined l__law_joined c__law_joined k__law_joined
  have d__law_shortest : DefAt K mg "_law_shortest" s__law_shortest := defAt_of X G a__law_shortest l__law_shortest c__law_shortest k__law_shortest
  have d__law_alike : DefAt K mg "_law_alike" s__law_alike := defAt_of X G a__law_alike l__law_alike c__law_alike k__law_alike
  have d__law_odd_states : DefAt K mg "_law_odd_states" s__law_odd_states := defAt_of X G a__law_odd_states l__law_odd_states c__law_odd_states k__law_odd_states
  have d__law_bent : DefAt K mg "_law_bent" s__law_bent := defAt_of X G a__law_bent l__law_bent c__law_bent k__law_bent
  have d__law_refused : DefAt K mg "_law_refused" s__law_refused := defAt_of X G a__law_refused l__law_refused c__law_refused k__law_refused
  have d_law : DefAt K mg "law" s_law := defAt_of X G a_law l_law c_law k_law
  have m_int := PySem.W.mg_none_of X G z_int
  have m_bool := PySem.W.mg_none_of X G z_bool
  have m_isinstance := PySem.W.mg_none_of X G z_isinstance
  have m_list := PySem.W.mg_none_of X G z_list
  have m_len := PySem.W.mg_none_of X G z_len
  have m_range := PySem.W.mg_none_of X G z_range
  have m_max := PySem.W.mg_none_of X G z_max
  have m_repr := PySem.W.mg_none_of X G z_repr
  have m_tuple := PySem.W.mg_none_of X G z_tuple
  have m_set := PySem.W.mg_none_of X G z_set
  have m_enumerate := PySem.W.mg_none_of X G z_enumerate
  have m_ValueError := PySem.W.mg_none_of X G z_ValueError
  have m_InvalidMachine := PySem.W.mg_of X G a_InvalidMachine
  have o_InvalidMachine : OwnX PySem.Challenge.pw_everypair_k21_machines_refused K A_InvalidMachine I_InvalidMachine := ⟨⟨⟨_, _, _, _, _, _, _, _, _, _, _, _, _, _, _, xL_InvalidMachine, rf_InvalidMachine⟩, sa_InvalidMachine, ex_InvalidMachine, ty_InvalidMachine, kp_InvalidMachine⟩, iC_InvalidMachine, tI_InvalidMachine, no_InvalidMachine, zsup, zopq, hm_InvalidMachine, hB_InvalidMachine, hD_InvalidMachine, by decide +kernel, _, _, _, _, _, _, _, _, _, _, _, _, _, _, _, _, _, _, _, _, _, _, _, _, _, l1_InvalidMachine, c1_InvalidMachine, l2_InvalidMachine, v2_InvalidMachine, fi_InvalidMachine, l3_InvalidMachine, rfl, rfl, own_binds lT_InvalidMachine rfl (fun _ _ => ⟨_, rfl, rfl⟩), fun _ => rfl⟩
  have x_InvalidMachine : XfE K A_InvalidMachine := ⟨⟨ga_InvalidMachine, gg_InvalidMachine, ex_InvalidMachine, hd_InvalidMachine⟩, no_InvalidMachine, ic_InvalidMachine, ac_InvalidMachine, zsp, ztk, ob_InvalidMachine⟩
  have m_EveryPairError := PySem.W.mg_of X G a_EveryPairError
  have m_InvalidSet := PySem.W.mg_of X G a_InvalidSet
  have m_InvalidList := PySem.W.mg_of X G a_InvalidList
  have m_InvalidMarks := PySem.W.mg_of X G a_InvalidMarks
  have m_InvalidNumber := PySem.W.mg_of X G a_InvalidNumber
  have m_InvalidStretches := PySem.W.mg_of X G a_InvalidStretches
  have m_PairSet := PySem.W.mg_of X G a_PairSet
  have cl_PairSet : Cls K A_PairSet := ⟨pg_PairSet, hd_PairSet, po_PairSet, sa_PairSet⟩
  have fo_PairSet_machine : FldOk K A_PairSet "machine" := ⟨cl_PairSet, na_PairSet_machine⟩
  have d_PairSet_rows : PropAt K A_PairSet "rows" "PairSet.rows" s_PairSet_rows := ⟨cl_PairSet, _, _, _, ⟨at_PairSet_rows, sg_PairSet_rows, tk_PairSet_rows, _, re_PairSet_rows⟩, ⟨_, _, _, _, _, _, _, _, _, rfl, l_PairSet_rows, c_PairSet_rows⟩, k_PairSet_rows⟩
  have d_PairSet_accepting : PropAt K A_PairSet "accepting" "PairSet.accepting" s_PairSet_accepting := ⟨cl_PairSet, _, _, _, ⟨at_PairSet_accepting, sg_PairSet_accepting, tk_PairSet_accepting, _, re_PairSet_accepting⟩, ⟨_, _, _, _, _, _, _, _, _, rfl, l_PairSet_accepting, c_PairSet_accepting⟩, k_PairSet_accepting⟩
  have d_PairSet___init__ : InitAt K mg "PairSet" A_PairSet "PairSet.__init__" s_PairSet___init__ [] [] := ⟨_, _, ⟨mk_PairSet, in_PairSet, fn_PairSet___init__, kc_PairSet⟩, m_PairSet, ⟨_, _, _, _, _, _, _, _, _, _, rfl, l_PairSet___init__, c_PairSet___init__, .inl ⟨rfl, T0_PairSet___init__⟩, .inl rfl⟩, k_PairSet___init__⟩
  have w_first_met : Cal PySem.Challenge.pw_everypair_k21_machines_refused w K mg base _ _ _ _ := cal_first_met d_first_met m_len
  have w_renumbered : Cal PySem.Challenge.pw_everypair_k21_machines_refused w K mg base _ _ _ _ := cal_renumbered d_renumbered w_first_met m_enumerate
  have w_grouped : Cal PySem.Challenge.pw_everypair_k21_machines_refused w K mg base _ _ _ _ := cal_grouped d_grouped m_len m_set m_int m_enumerate
  have w_least_machine : Cal PySem.Challenge.pw_everypair_k21_machines_refused w K mg base _ _ _ _ := cal_least_machine d_least_machine w_renumbered w_grouped m_enumerate
  have w_is_whole : Cal PySem.Challenge.pw_everypair_k21_machines_refused w K mg base _ _ _ _ := cal_is_whole d_is_whole m_isinstance m_int m_bool
  have w_is_state : Cal PySem.Challenge.pw_everypair_k21_machines_refused w K mg base _ _ _ _ := cal_is_state d_is_state w_is_whole
  have w_is_machine : Cal PySem.Challenge.pw_everypair_k21_machines_refused w K mg base _ _ _ _ := cal_is_machine d_is_machine w_is_state m_isinstance m_list m_tuple m_len
  have g_PairSet := cal_PairSet (P := PySem.Challenge.pw_everypair_k21_machines_refused) (w := w) (base := base) d_PairSet___init__ w_is_machine w_least_machine fo_PairSet_machine o_InvalidMachine m_InvalidMachine m_tuple m_range m_len
  have p_rows : PropC PySem.Challenge.pw_everypair_k21_machines_refused w K mg base _ _ _ _ := cal_PairSet_rows d_PairSet_rows fo_PairSet_machine m_list
  have p_accepting : PropC PySem.Challenge.pw_everypair_k21_machines_refused w K mg base _ _ _ _ := cal_PairSet_accepting d_PairSet_accepting fo_PairSet_machine m_range m_len
  have w__law_purse : Cal PySem.Challenge.pw_everypair_k21_machines_refused w K mg base _ _ _ _ := cal_purse d__law_purse m_int m_len m_max
  have w__law_draw : Cal PySem.Challenge.pw_everypair_k21_machines_refused w K mg base _ _ _ _ := cal_draw d__law_draw m_int
  have w__law_table : Cal PySem.Challenge.pw_everypair_k21_machines_refused w K mg base _ _ _ _ := cal__law_table d__law_table w__law_draw m_range m_int
  have w__law_told : Cal PySem.Challenge.pw_everypair_k21_machines_refused w K mg base _ _ _ _ := cal__law_told d__law_told p_rows p_accepting
  have w__law_joined : Cal PySem.Challenge.pw_everypair_k21_machines_refused w K mg base _ _ _ _ := cal__law_joined d__law_joined m_range m_len
  have w__law_shortest : Cal PySem.Challenge.pw_everypair_k21_machines_refused w K mg base _ _ _ _ := cal__law_shortest d__law_shortest m_range m_len
  have w__law_alike : Cal PySem.Challenge.pw_everypair_k21_machines_refused w K mg base _ _ _ _ := cal__law_alike d__law_alike w__law_joined w__law_shortest
  have w__law_odd_states : Cal PySem.Challenge.pw_everypair_k21_machines_refused w K mg base _ _ _ _ := cal__law_odd_states d__law_odd_states w__law_draw
  have w__law_bent : Cal PySem.Challenge.pw_everypair_k21_machines_refused w K mg base _ _ _ _ := cal__law_bent d__law_bent w__law_draw w__law_odd_states m_len m_list m_tuple
  have w__law_refused : Cal PySem.Challenge.pw_everypair_k21_machines_refused w K mg base _ _ _ _ := cal__law_refused d__law_refused (mkp_2 g_PairSet) m_EveryPairError kx (con_ref m_InvalidMachine) x_InvalidMachine kV m_ValueError (con_ref m_InvalidSet) k_InvalidSet (con_ref m_InvalidList) k_InvalidList (con_ref m_InvalidMarks) k_InvalidMarks (con_ref m_InvalidNumber) k_InvalidNumber (con_ref m_InvalidStretches) k_InvalidStretches m_isinstance m_repr hsy
  exact cal_law d_law w__law_purse w__law_table w__law_bent w__law_refused w__law_alike w__law_told (mkp_2 g_PairSet) m_range
end K
open PySem PySem.W PyProof.Rows
set_option maxRecDepth 100000 in
set_option maxHeartbeats 0 in
theorem PySem.Challenge.cw_everypair_k21_machines_refused_holds : PySem.Challenge.rw_everypair_k21_machines_refused.Holds := by
  w_on; o_law; x_head; (case hw => w_witness2)
  k_fill
  refine DD.walk_c (l := PySem.Challenge.rw_everypair_k21_machines_refused) (n := 63) (k := 10) (x := "_law_script") (y := "law") (spd := K.spd_law) rfl (by decide) rfl ⟨rfl, by decide, by decide⟩ (fun w h Y => PySem.W.kIn_of Y) rfl ?F ?S
  case F =>
    intro w mg h KX G
    refine' K.all_mk KX G ?zsup ?zopq ?zsp ?ztk ?zsys ?a_first_met ?l_first_met ?c_first_met ?k_first_met ?a_renumbered ?l_renumbered ?c_renumbered ?k_renumbered ?a_grouped ?l_grouped ?c_grouped ?k_grouped ?a_least_machine ?l_least_machine ?c_least_machine ?k_least_machine ?a_is_whole ?l_is_whole ?c_is_whole ?k_is_whole ?a_is_state ?l_is_state ?c_is_state ?k_is_state ?a_is_machine ?l_is_machine ?c_is_machine ?k_is_machine ?a__law_purse ?l__law_purse ?c__law_purse ?k__law_purse ?a__law_draw ?l__law_draw ?c__law_draw ?k__law_draw ?a__law_table ?l__law_table ?c__law_table ?k__law_table ?a__law_told ?l__law_told ?c__law_told ?k__law_told ?a__law_joined ?l__law_joined ?c__law_joined ?k__law_joined ?a__law_shortest ?l__law_shortest ?c__law_shortest ?k__law_shortest ?a__law_alike ?l__law_alike ?c__law_alike ?k__law_alike ?a__law_odd_states ?l__law_odd_states ?c__law_odd_states ?k__law_odd_states ?a__law_bent ?l__law_bent ?c__law_bent ?k__law_bent ?a__law_refused ?l__law_refused ?c__law_refused ?k__law_refused ?a_law ?l_law ?c_law ?k_law ?z_int ?z_bool ?z_isinstance ?z_list ?z_len ?z_range ?z_max ?z_repr ?z_tuple ?z_set ?z_enumerate ?z_ValueError ?a_InvalidMachine ?xL_InvalidMachine ?rf_InvalidMachine ?sa_InvalidMachine ?ex_InvalidMachine ?no_InvalidMachine ?ty_InvalidMachine ?kp_InvalidMachine ?iC_InvalidMachine ?tI_InvalidMachine ?hm_InvalidMachine ?hB_InvalidMachine ?hD_InvalidMachine ?l1_InvalidMachine ?lT_InvalidMachine ?c1_InvalidMachine ?l2_InvalidMachine ?v2_InvalidMachine ?fi_InvalidMachine ?l3_InvalidMachine ?ga_InvalidMachine ?gg_InvalidMachine ?hd_InvalidMachine ?ic_InvalidMachine ?ac_InvalidMachine ?ob_InvalidMachine ?a_EveryPairError ?a_InvalidSet ?a_InvalidList ?a_InvalidMarks ?a_InvalidNumber ?a_InvalidStretches ?a_PairSet ?pg_PairSet ?hd_PairSet ?po_PairSet ?sa_PairSet ?na_PairSet_machine ?at_PairSet_rows ?sg_PairSet_rows ?tk_PairSet_rows ?re_PairSet_rows ?l_PairSet_rows ?c_PairSet_rows ?k_PairSet_rows ?at_PairSet_accepting ?sg_PairSet_accepting ?tk_PairSet_accepting ?re_PairSet_accepting ?l_PairSet_accepting ?c_PairSet_accepting ?k_PairSet_accepting ?mk_PairSet ?in_PairSet ?fn_PairSet___init__ ?kc_PairSet ?l_PairSet___init__ ?c_PairSet___init__ ?k_PairSet___init__ ?T0_PairSet___init__ ?kx ?kV ?k_InvalidSet ?k_InvalidList ?k_InvalidMarks ?k_InvalidNumber ?k_InvalidStretches
    (case zsup => k_is)
    (case zopq => k_is)
    (case zsp => k_is)
    (case ztk => k_is)
    (case zsys => k_is)
    (case a_first_met => k_is)
    (case l_first_met => k_is)
    (case c_first_met => k_is)
    (case k_first_met => k_is)
    (case a_renumbered => k_is)
    (case l_renumbered => k_is)
    (case c_renumbered => k_is)
    (case k_renumbered => k_is)
    (case a_grouped => k_is)
    (case l_grouped => k_is)
    (case c_grouped => k_is)
    (case k_grouped => k_is)
    (case a_least_machine => k_is)
    (case l_least_machine => k_is)
    (case c_least_machine => k_is)
    (case k_least_machine => k_is)
    (case a_is_whole => k_is)
    (case l_is_whole => k_is)
    (case c_is_whole => k_is)
    (case k_is_whole => k_is)
    (case a_is_state => k_is)
    (case l_is_state => k_is)
    (case c_is_state => k_is)
    (case k_is_state => k_is)
    (case a_is_machine => k_is)
    (case l_is_machine => k_is)
    (case c_is_machine => k_is)
    (case k_is_machine => k_is)
    (case a__law_purse => k_is)
    (case l__law_purse => k_is)
    (case c__law_purse => k_is)
    (case k__law_purse => k_is)
    (case a__law_draw => k_is)
    (case l__law_draw => k_is)
    (case c__law_draw => k_is)
    (case k__law_draw => k_is)
    (case a__law_table => k_is)
    (case l__law_table => k_is)
    (case c__law_table => k_is)
    (case k__law_table => k_is)
    (case a__law_told => k_is)
    (case l__law_told => k_is)
    (case c__law_told => k_is)
    (case k__law_told => k_is)
    (case a__law_joined => k_is)
    (case l__law_joined => k_is)
    (case c__law_joined => k_is)
    (case k__law_joined => k_is)
    (case a__law_shortest => k_is)
    (case l__law_shortest => k_is)
    (case c__law_shortest => k_is)
    (case k__law_shortest => k_is)
    (case a__law_alike => k_is)
    (case l__law_alike => k_is)
    (case c__law_alike => k_is)
    (case k__law_alike => k_is)
    (case a__law_odd_states => k_is)
    (case l__law_odd_states => k_is)
    (case c__law_odd_states => k_is)
    (case k__law_odd_states => k_is)
    (case a__law_bent => k_is)
    (case l__law_bent => k_is)
    (case c__law_bent => k_is)
    (case k__law_bent => k_is)
    (case a__law_refused => k_is)
    (case l__law_refused => k_is)
    (case c__law_refused => k_is)
    (case k__law_refused => k_is)
    (case a_law => k_is)
    (case l_law => k_is)
    (case c_law => k_is)
    (case k_law => k_is)
    (case z_int => k_is)
    (case z_bool => k_is)
    (case z_isinstance => k_is)
    (case z_list => k_is)
    (case z_len => k_is)
    (case z_range => k_is)
    (case z_max => k_is)
    (case z_repr => k_is)
    (case z_tuple => k_is)
    (case z_set => k_is)
    (case z_enumerate => k_is)
    (case z_ValueError => k_is)
    (case a_InvalidMachine => k_is)
    (case xL_InvalidMachine => k_is)
    (case rf_InvalidMachine => decide +kernel)
    (case sa_InvalidMachine => k_is)
    (case ex_InvalidMachine => k_is)
    (case no_InvalidMachine => k_is)
    (case ty_InvalidMachine => k_is)
    (case kp_InvalidMachine => k_is)
    (case iC_InvalidMachine => k_is)
    (case tI_InvalidMachine => k_is)
    (case hm_InvalidMachine => kernel_rfl)
    (case hB_InvalidMachine => k_is)
    (case hD_InvalidMachine => k_is)
    (case l1_InvalidMachine => k_is)
    (case lT_InvalidMachine => k_is)
    (case c1_InvalidMachine => k_is)
    (case l2_InvalidMachine => k_is)
    (case v2_InvalidMachine => rfl)
    (case fi_InvalidMachine => decide +kernel)
    (case l3_InvalidMachine => k_is)
    (case ga_InvalidMachine => k_is)
    (case gg_InvalidMachine => k_is)
    (case hd_InvalidMachine => k_is)
    (case ic_InvalidMachine => k_is)
    (case ac_InvalidMachine => k_is)
    (case ob_InvalidMachine => k_is)
    (case a_EveryPairError => k_is)
    (case a_InvalidSet => k_is)
    (case a_InvalidList => k_is)
    (case a_InvalidMarks => k_is)
    (case a_InvalidNumber => k_is)
    (case a_InvalidStretches => k_is)
    (case a_PairSet => k_is)
    (case pg_PairSet => k_is)
    (case hd_PairSet => k_is)
    (case po_PairSet => k_is)
    (case sa_PairSet => k_is)
    (case na_PairSet_machine => k_is)
    (case at_PairSet_rows => k_is)
    (case sg_PairSet_rows => k_is)
    (case tk_PairSet_rows => k_is)
    (case re_PairSet_rows => k_is)
    (case l_PairSet_rows => k_is)
    (case c_PairSet_rows => k_is)
    (case k_PairSet_rows => k_is)
    (case at_PairSet_accepting => k_is)
    (case sg_PairSet_accepting => k_is)
    (case tk_PairSet_accepting => k_is)
    (case re_PairSet_accepting => k_is)
    (case l_PairSet_accepting => k_is)
    (case c_PairSet_accepting => k_is)
    (case k_PairSet_accepting => k_is)
    (case mk_PairSet => k_is)
    (case in_PairSet => k_is)
    (case fn_PairSet___init__ => k_is)
    (case kc_PairSet => k_is)
    (case l_PairSet___init__ => k_is)
    (case c_PairSet___init__ => k_is)
    (case k_PairSet___init__ => k_is)
    (case T0_PairSet___init__ => rfl)
    (case kx => kernel_rfl)
    (case kV => kernel_rfl)
    (case k_InvalidSet => kernel_rfl)
    (case k_InvalidList => kernel_rfl)
    (case k_InvalidMarks => kernel_rfl)
    (case k_InvalidNumber => kernel_rfl)
    (case k_InvalidStretches => kernel_rfl)
  case S =>
    exact fun ns _ => ⟨ns, rfl, rfl⟩
#print axioms PySem.Challenge.cw_everypair_k21_machines_refused_holds
