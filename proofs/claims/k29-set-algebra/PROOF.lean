import PyProof.Rows.All
import Wide.All
import OpenK.AllK
import Wide.FinOn
import KE.RegKSuper
import OpenK.XHead
import Open.Tops
import HandS.ForMost
import PySem.Challenge.RW_everypair_k29_whole_set_algebra
import HandS.ForExc
import HandS.ExcCtx
import HandS.Hot
import HandS.Wide
import HandS.IsInst
import HandS.Text
import HandS.SortKw
import HandS.RaiseMore
import KE.GoesMore
import HandS.ExcSuper
import HandS.ExcInit
import HandS.ExcIs
import HandS.ExcField
import HandS.ExcValue
import HandS.Defaults
import KE.KExcSuper
import KE.KSuper
import KE.KExcIs
import PyProof.ReprRoads
import PyProof.ReprLen
import PyProof.CallFns
import HandS.Iter
import PyProof.Draws
import PyProof.EnumMake
import HandS.Dict
import HandS.Style
import HandS.Ends
import HandS.Property
import HandS.MakeKwOnly
import PyProof.InstNe
import KE.DataCmp
import HandS.OwnEq
import HandS.Strs
import HandS.TupLen
import KE.KDictDisplayH
import HandS.WordsDict
import HandS.Small
import HandS.DictComp
import HandS.Zip
import KE.KOpsOwn
import KE.KCallOwn
import HandS.ReplaceLit
import HandS.SortInts
import HandS.Deep
import HandS.TryOnly
import HandS.TupAny
import HandS.StrMore
import HandS.ClsMeth
set_option Elab.async false
set_option linter.all false
def PySem.W.Fast.tw90343872475197607 : Type := PySem.Params
theorem PySem.W.Fast.te90343872475197607 : PySem.Params = PySem.W.Fast.tw90343872475197607 := rfl
set_option maxRecDepth 100000
set_option maxHeartbeats 0
open_shared K.sh for PySem.Challenge.pw_everypair_k29_whole_set_algebra leaving 1

set_option Elab.async false
set_option linter.all false
set_option maxRecDepth 100000
set_option maxHeartbeats 4000000
namespace DD
open PySem PySem.Spec PyProof.Rows L2

inductive D where
  | non | bl (b : Bool) | int (i : Int) | str (s : Str) | ty (n : String) | ref (a : Addr)
  | lst (ds : List D) | tup (ds : List D)
  | dct (ks : List Key) (ds : List D)
  | ins (C : Addr) (ns : List Str) (ds : List D)
  | iset (S : Int → Bool) (n : Nat)
  | exc (C : Addr) (ds : List D)
  | scr (ns : List Int)
  /-- a tuple that may be written in the text -/
  | cst (ds : List D)
  /-- a dict whose keys are tuples -/
  | dcT (ks : List (List Key)) (ds : List D)

def ExcAt (a C : Addr) (dx : Option Addr) : HO := .ext fun h => ∃ (oe : Obj) (vs : Array Value), h.get? a = some oe ∧ oe.cls = .ref C ∧ oe.dict = dx ∧ oe.data = .fields vs ∧ vs[2]? = some .none

def SqZ (K : PySem.W.Frag) (F : Hp) (a : Addr) (xs : List V) : Prop := (∃ o, F a = some (.frz o (.lst xs))) ∨
  ∃ (o : Obj) (its : Array Value) (n : Nat), K.lookup a = some o ∧ o.cls = .type "list" ∧ o.dict = none ∧ o.data = .seq its n ∧ its.size ≤ sizeLine ∧ Vals xs its.toList
theorem SqZ.mono {K : PySem.W.Frag} {F F' : Hp} {a : Addr} {xs : List V} (h : SqZ K F a xs) (e : ∀ o, F a = some (.frz o (.lst xs)) → F' a = some (.frz o (.lst xs))) : SqZ K F' a xs := by
  rcases h with ⟨o, h⟩ | h
  · exact .inl ⟨o, e o h⟩
  · exact .inr h
theorem SqZ.seq {K : PySem.W.Frag} {F : Hp} {a : Addr} {xs : List V} (h : SqZ K F a xs) : SqL K F a xs := by
  rcases h with ⟨o, h⟩ | h
  · exact .inl (.inr ⟨o, h⟩)
  · exact .inr h
mutual
def Rp (K : PySem.W.Frag) (F : Hp) : D → V → Prop
  | .non, v => v = .non
  | .bl b, v => v = .bl b
  | .int i, v => v = .int i
  | .str s, v => v = .str s
  | .ty n, v => v = .ty n
  | .ref a, v => v = .ref a
  | .lst ds, v => ∃ a xs, v = .ref a ∧ F a = some (.lst xs) ∧ RpL K F ds xs
  | .tup ds, v => ∃ a xs, v = .ref a ∧ F a = some (.tup xs) ∧ RpL K F ds xs
  | .dct ks ds, v => ∃ a xs, v = .ref a ∧ F a = some (.dK (ks.zip xs)) ∧ RpL K F ds xs ∧ ks.length = xs.length
  | .ins C ns ds, v => ∃ a dx xs, v = .ref a ∧ F a = some (.ins C dx (ns.zip xs)) ∧ RpL K F ds xs ∧ ns.length = xs.length
  | .iset S n, v => ∃ a, v = .ref a ∧ F a = some (.set S n)
  | .exc C ds, v => ∃ a dx x xs, v = .ref a ∧ F a = some (ExcAt a C (some dx)) ∧ F dx = some (.xd [("value", x)]) ∧ xs = [x] ∧ RpL K F ds xs
  | .scr ns, v => ∃ a, v = .ref a ∧ SqZ K F a (ns.map V.int)
  | .cst ds, v => ∃ a xs, v = .ref a ∧ SqT K F a xs ∧ RpL K F ds xs
  | .dcT ks ds, v => ∃ a xs, v = .ref a ∧ F a = some (.dT (ks.zip xs)) ∧ RpL K F ds xs ∧ ks.length = xs.length
def RpL (K : PySem.W.Frag) (F : Hp) : List D → List V → Prop
  | [], xs => xs = []
  | d :: ds, xs => ∃ x r, xs = x :: r ∧ Rp K F d x ∧ RpL K F ds r
end

theorem sqT_mono {K : PySem.W.Frag} {F F' : Hp} {a : Addr} {xs : List V} (e : Same F F') (h : SqT K F a xs) : SqT K F' a xs := by
  rcases h with (h | ⟨o, h⟩) | h
  · exact .inl (.inl (e _ _ h))
  · exact .inl (.inr ⟨o, e _ _ h⟩)
  · exact .inr h

mutual
theorem Rp.mono {K : PySem.W.Frag} {F F' : Hp} (e : Same F F') : ∀ (d : D) (v : V), Rp K F d v → Rp K F' d v
  | .non, _, h => h
  | .bl _, _, h => h
  | .int _, _, h => h
  | .str _, _, h => h
  | .ty _, _, h => h
  | .ref _, _, h => h
  | .lst ds, v, h => by
    unfold Rp at h ⊢
    obtain ⟨a, xs, rfl, h1, h2⟩ := h
    exact ⟨a, xs, rfl, e _ _ h1, RpL.mono e ds xs h2⟩
  | .tup ds, v, h => by
    unfold Rp at h ⊢
    obtain ⟨a, xs, rfl, h1, h2⟩ := h
    exact ⟨a, xs, rfl, e _ _ h1, RpL.mono e ds xs h2⟩
  | .dct ks ds, v, h => by
    unfold Rp at h ⊢
    obtain ⟨a, xs, rfl, h1, h2, h3⟩ := h
    exact ⟨a, xs, rfl, e _ _ h1, RpL.mono e ds xs h2, h3⟩
  | .ins C ns ds, v, h => by
    unfold Rp at h ⊢
    obtain ⟨a, dx, xs, rfl, h1, h2, h3⟩ := h
    exact ⟨a, dx, xs, rfl, e _ _ h1, RpL.mono e ds xs h2, h3⟩
  | .iset S n, v, h => by
    unfold Rp at h ⊢
    obtain ⟨a, rfl, h1⟩ := h
    exact ⟨a, rfl, e _ _ h1⟩
  | .scr ns, v, h => by
    unfold Rp at h ⊢
    obtain ⟨a, rfl, h1⟩ := h
    exact ⟨a, rfl, h1.mono fun o q => e _ _ q⟩
  | .cst ds, v, h => by
    unfold Rp at h ⊢
    obtain ⟨a, xs, rfl, h1, h2⟩ := h
    exact ⟨a, xs, rfl, sqT_mono e h1, RpL.mono e ds xs h2⟩
  | .dcT ks ds, v, h => by
    unfold Rp at h ⊢
    obtain ⟨a, xs, rfl, h1, h2, h3⟩ := h
    exact ⟨a, xs, rfl, e _ _ h1, RpL.mono e ds xs h2, h3⟩
  | .exc C ds, v, h => by
    unfold Rp at h ⊢
    obtain ⟨a, dx, x, xs, rfl, h1, h2, h3, h4⟩ := h
    exact ⟨a, dx, x, xs, rfl, e _ _ h1, e _ _ h2, h3, RpL.mono e ds xs h4⟩
theorem RpL.mono {K : PySem.W.Frag} {F F' : Hp} (e : Same F F') : ∀ (ds : List D) (xs : List V), RpL K F ds xs → RpL K F' ds xs
  | [], _, h => h
  | d :: ds, xs, h => by
    unfold RpL at h ⊢
    obtain ⟨x, r, rfl, h1, h2⟩ := h
    exact ⟨x, r, rfl, Rp.mono e d x h1, RpL.mono e ds r h2⟩
end
theorem RpL.length {K : PySem.W.Frag} {F : Hp} : ∀ {ds : List D} {xs : List V}, RpL K F ds xs → xs.length = ds.length
  | [], _, h => by
    unfold RpL at h
    rw [h] <;> rfl
  | d :: ds, xs, h => by
    unfold RpL at h
    obtain ⟨x, r, rfl, _, h2⟩ := h
    rw [List.length_cons, List.length_cons, RpL.length h2]
theorem RpL.get {K : PySem.W.Frag} {F : Hp} : ∀ {ds : List D} {xs : List V} {i : Nat} {d : D}, RpL K F ds xs → ds[i]? = some d → ∃ x, xs[i]? = some x ∧ Rp K F d x
  | [], _, _, _, _, e => by simp at e
  | d :: ds, xs, 0, d', h, e => by
    unfold RpL at h
    obtain ⟨x, r, rfl, h1, _⟩ := h
    simp at e
    subst e
    exact ⟨x, rfl, h1⟩
  | d :: ds, xs, i + 1, d', h, e => by
    unfold RpL at h
    obtain ⟨x, r, rfl, _, h2⟩ := h
    obtain ⟨y, e1, e2⟩ := RpL.get (i := i) h2 (by simpa using e)
    exact ⟨y, by simpa using e1, e2⟩
theorem RpL.nil {K : PySem.W.Frag} {F : Hp} : RpL K F [] [] := by
  unfold RpL
  rfl
theorem RpL.cons {K : PySem.W.Frag} {F : Hp} {d : D} {ds : List D} {x : V} {xs : List V} (h : Rp K F d x) (t : RpL K F ds xs) : RpL K F (d :: ds) (x :: xs) := by
  unfold RpL
  exact ⟨x, xs, rfl, h, t⟩
theorem RpL.append {K : PySem.W.Frag} {F : Hp} : ∀ {ds es : List D} {xs ys : List V}, RpL K F ds xs → RpL K F es ys → RpL K F (ds ++ es) (xs ++ ys)
  | [], _, _, _, h, g => by
    unfold RpL at h
    rw [h]
    exact g
  | d :: ds, es, xs, ys, h, g => by
    unfold RpL at h
    obtain ⟨x, r, rfl, h1, h2⟩ := h
    exact .cons h1 (RpL.append h2 g)
theorem RpL.take {K : PySem.W.Frag} {F : Hp} : ∀ {ds : List D} {xs : List V} (n : Nat), RpL K F ds xs → RpL K F (ds.take n) (xs.take n)
  | _, _, 0, _ => by
    rw [List.take_zero, List.take_zero]
    exact .nil
  | [], _, n + 1, h => by
    unfold RpL at h
    rw [h]
    exact .nil
  | d :: ds, xs, n + 1, h => by
    unfold RpL at h
    obtain ⟨x, r, rfl, h1, h2⟩ := h
    exact .cons h1 (RpL.take n h2)
theorem RpL.drop {K : PySem.W.Frag} {F : Hp} : ∀ {ds : List D} {xs : List V} (n : Nat), RpL K F ds xs → RpL K F (ds.drop n) (xs.drop n)
  | _, _, 0, h => h
  | [], _, n + 1, h => by
    unfold RpL at h
    rw [h]
    exact .nil
  | d :: ds, xs, n + 1, h => by
    unfold RpL at h
    obtain ⟨x, r, rfl, h1, h2⟩ := h
    exact RpL.drop n h2
theorem RpL.set {K : PySem.W.Frag} {F : Hp} {d : D} {x : V} (hx : Rp K F d x) : ∀ {ds : List D} {xs : List V} (n : Nat), RpL K F ds xs → RpL K F (ds.set n d) (xs.set n x)
  | [], _, _, h => by
    unfold RpL at h
    rw [h]
    exact .nil
  | d' :: ds, xs, 0, h => by
    unfold RpL at h
    obtain ⟨x', r, rfl, h1, h2⟩ := h
    exact .cons hx h2
  | d' :: ds, xs, n + 1, h => by
    unfold RpL at h
    obtain ⟨x', r, rfl, h1, h2⟩ := h
    exact .cons h1 (RpL.set hx n h2)
theorem RpL.int {K : PySem.W.Frag} {F : Hp} : ∀ {ns : List Int} {xs : List V}, RpL K F (ns.map D.int) xs → xs = ns.map V.int
  | [], _, h => by
    unfold RpL at h
    rw [h]
    rfl
  | n :: ns, xs, h => by
    unfold RpL at h
    obtain ⟨x, r, rfl, h1, h2⟩ := h
    unfold Rp at h1
    rw [h1, RpL.int h2]
    rfl
theorem RpL.str {K : PySem.W.Frag} {F : Hp} : ∀ {ns : List Str} {xs : List V}, RpL K F (ns.map D.str) xs → xs = ns.map V.str
  | [], _, h => by
    unfold RpL at h
    rw [h]
    rfl
  | n :: ns, xs, h => by
    unfold RpL at h
    obtain ⟨x, r, rfl, h1, h2⟩ := h
    unfold Rp at h1
    rw [h1, RpL.str h2]
    rfl
theorem RpL.ofStr {K : PySem.W.Frag} {F : Hp} : ∀ (ns : List Str), RpL K F (ns.map D.str) (ns.map V.str)
  | [] => .nil
  | n :: ns => .cons (by unfold Rp; rfl) (RpL.ofStr ns)

inductive B where
  | p (d : D) | o (d : D) | u (w : Bool) (n : Nat) | n (ds : List D) | s (d : D) | t (dss : List (List D)) | m (dss : List (List D))
abbrev Env' := List (Option B)
def B.d : B → D
  | .p d => d
  | .o d => d
  | .u _ _ => .non
  | .n ds => .tup ds
  | .s _ => .non
  | .t _ => .non
  | .m _ => .non
def B.own : B → Bool
  | .p _ => false
  | .n _ => false
  | .t _ => false
  | .m _ => false
  | _ => true
def B.isU : B → Bool
  | .u _ _ => true
  | .s _ => true
  | .t _ => true
  | .m _ => true
  | _ => false
def B.isR : B → Bool
  | .u _ _ => true
  | .s _ => true
  | .m _ => true
  | _ => false
def PWF (n : Nat) (x y z : Int) : Prop := 0 ≤ x ∧ x < 10 ^ 400 ∧ 0 ≤ y ∧ y < 2147483629 ∧ 0 ≤ z ∧ z ≤ n

structure Fix where
  F0 : Hp
  H0 : Hp
  P : Option Addr
  /-- what is wanted of an exception: its class, what its field holds, the slots -/
  E : Addr → List D → Env' → Prop
  /-- the lists of a tuple that a slot holds -/
  T : Addr → Bool
  tm : ∀ a, T a = true → ∃ o, H0 a = some o
abbrev Fix.of (F0 H0 : Hp) (P : Option Addr) (E : Addr → List D → Env' → Prop) : Fix := { F0 := F0, H0 := H0, P := P, E := E, T := fun _ => false, tm := fun _ h => by cases h }

def Own (K : PySem.W.Frag) (F H : Hp) : D → Addr → Prop
  | .lst ds, a => ∃ xs, H a = some (.lst xs) ∧ RpL K F ds xs
  | .dct ks ds, a => ∃ xs, H a = some (.dK (ks.zip xs)) ∧ RpL K F ds xs ∧ ks.length = xs.length
  | .dcT ks ds, a => ∃ xs, H a = some (.dT (ks.zip xs)) ∧ RpL K F ds xs ∧ ks.length = xs.length
  | .iset S n, a => H a = some (.set S n)
  | .ins C ns ds, a => ∃ dx xs, H a = some (.ins C dx (ns.zip xs)) ∧ RpL K F ds xs ∧ ns.length = xs.length
  | _, _ => False
def RB (K : PySem.W.Frag) (W : Fix) (F H : Hp) : B → V → Prop
  | .p d, v => Rp K F d v
  | .o d, v => ∃ a, v = .ref a ∧ F a = none ∧ W.H0 a = none ∧ Own K F H d a
  | .u w n, v => ∃ p x y z, v = .ref p ∧ F p = none ∧ (if w = true then W.P = some p else W.H0 p = none) ∧ H p = some (.lst [.int x, .int y, .int z]) ∧ PWF n x y z
  | .n ds, v => ∃ t xs, v = .ref t ∧ F t = some (.tup xs) ∧ RpL K F ds xs ∧ ∀ a, V.ref a ∈ xs → (∃ ys, F a = some (.lst ys)) ∧ W.H0 a = none
  | .s d, v => ∃ a, v = .ref a ∧ F a = none ∧ W.P = some a ∧ Own K F H d a
  | .t _, _ => False
  | .m dss, v => ∃ (t : Addr) (as : List Addr), v = .ref t ∧ F t = some (.tup (as.map V.ref)) ∧ as.Nodup ∧ as.length = dss.length ∧ ∀ (k : Nat) (a : Addr) (ds : List D), as[k]? = some a → dss[k]? = some ds → W.T a = true ∧ W.F0 a = none ∧ W.P ≠ some a ∧ ∃ ys, W.H0 a = some (.lst ys) ∧ RpL K F ds ys
def Fresh (K : PySem.W.Frag) (W : Fix) (F H : Hp) (dss : List (List D)) (v : V) : Prop := ∃ (t : Addr) (as : List Addr), v = .ref t ∧ F t = some (.tup (as.map V.ref)) ∧ as.Nodup ∧ as.length = dss.length ∧ ∀ (k : Nat) (a : Addr) (ds : List D), as[k]? = some a → dss[k]? = some ds → F a = none ∧ W.H0 a = none ∧ ∃ ys, H a = some (.lst ys) ∧ RpL K F ds ys

structure SD (K : PySem.W.Frag) (W : Fix) (F H : Hp) (σ : L2.St) (δ : Env') : Prop where
  f0 : Same W.F0 F
  h0 : ∀ a o, W.H0 a = some o → W.P ≠ some a → H a = some o
  fh : Same F H
  fr : ∀ a o, F a = some o → W.F0 a = some o ∨ W.H0 a = none
  fp : ∀ a, W.P = some a → F a = none ∧ (∃ o, H a = some o) ∧ ∃ o, W.H0 a = some o
  len : σ.length = δ.length
  get : ∀ (i : Nat) (b : B), δ[i]? = some (some b) → ∃ v, σ[i]? = some (some v) ∧ RB K W F H b v
  sep : ∀ (i j : Nat) (b c : B) (v : V), i ≠ j → δ[i]? = some (some b) → b.own = true → δ[j]? = some (some c) → c.own = true → σ[i]? = some (some v) → σ[j]? ≠ some (some v)

def DQ (K : PySem.W.Frag) (W : Fix) (F : Hp) (σ : L2.St) (Q : B → Env' → Prop) : VK := fun v H' =>
  ∃ (F' : Hp) (b : B) (δ' : Env'), Same F F' ∧ SD K W F' H' σ δ' ∧ RB K W F' H' b v ∧ (b.own = true → ∀ (j : Nat) (c : B), δ'[j]? = some (some c) → c.own = true → σ[j]? ≠ some (some v)) ∧ Q b δ'

section
variable {K : PySem.W.Frag} {W : Fix} {F H : Hp} {σ : L2.St} {δ : Env'}
theorem Own.some {d : D} {a : Addr} (h : Own K F H d a) : ∃ o, H a = some o := by
  cases d <;> first | exact h.elim | skip
  · obtain ⟨xs, h, _⟩ := h
    exact ⟨_, h⟩
  · obtain ⟨xs, h, _⟩ := h
    exact ⟨_, h⟩
  · obtain ⟨dx, xs, h, _⟩ := h
    exact ⟨_, h⟩
  · exact ⟨_, h⟩
  · obtain ⟨xs, h, _⟩ := h
    exact ⟨_, h⟩
theorem own_keep {F' H' : Hp} {d : D} {a : Addr} (h : Own K F H d a) (e : Same F F') (k : ∀ o, H a = some o → H' a = some o) : Own K F' H' d a := by
  cases d <;> first | exact h.elim | skip
  · obtain ⟨xs, h4, h5⟩ := h
    exact ⟨xs, k _ h4, RpL.mono e _ _ h5⟩
  · obtain ⟨xs, h4, h5, h6⟩ := h
    exact ⟨xs, k _ h4, RpL.mono e _ _ h5, h6⟩
  · obtain ⟨dx, xs, h4, h5, h6⟩ := h
    exact ⟨dx, xs, k _ h4, RpL.mono e _ _ h5, h6⟩
  · exact k _ h
  · obtain ⟨xs, h4, h5, h6⟩ := h
    exact ⟨xs, k _ h4, RpL.mono e _ _ h5, h6⟩
theorem RB.there {b : B} {v : V} (h : RB K W F H b v) (hb : b.own = true) : ∃ a o, v = .ref a ∧ H a = some o ∧ F a = none := by
  cases b with
  | t dss => cases hb
  | m dss => cases hb
  | p d => cases hb
  | n ds => cases hb
  | o d =>
    obtain ⟨a, rfl, h1, _, h2⟩ := h
    obtain ⟨o, ho⟩ := h2.some
    exact ⟨a, o, rfl, ho, h1⟩
  | u w n =>
    obtain ⟨p, x, y, z, rfl, h1, _, h2, _⟩ := h
    exact ⟨p, _, rfl, h2, h1⟩
  | s d =>
    obtain ⟨a, rfl, h1, _, h2⟩ := h
    obtain ⟨o, ho⟩ := h2.some
    exact ⟨a, o, rfl, ho, h1⟩
theorem SD.fresh0 (S : SD K W F H σ δ) {p : Addr} (hp : H p = none) : W.H0 p = none := by
  cases e : W.H0 p with
  | none => rfl
  | some o =>
    by_cases hP : W.P = some p
    · obtain ⟨_, ⟨o', ho⟩, _⟩ := S.fp p hP
      rw [hp] at ho
      cases ho
    · have := S.h0 p o e hP
      rw [hp] at this
      cases this
theorem SD.freshF (S : SD K W F H σ δ) {p : Addr} (hp : H p = none) : F p = none := S.fh.free hp
theorem RB.keep {F' H' : Hp} {b : B} {v : V} (h : RB K W F H b v) (e : Same F F') (k : ∀ a o, v = .ref a → b.own = true → H a = some o → H' a = some o) (n : ∀ a, v = .ref a → b.own = true → F a = none → F' a = none) : RB K W F' H' b v := by
  cases b with
  | t dss => exact h.elim
  | m dss =>
    obtain ⟨t, as, rfl, h1, h2, h3, h4⟩ := h
    refine ⟨t, as, rfl, e _ _ h1, h2, h3, fun k a ds q1 q2 => ?_⟩
    obtain ⟨z0, z1, z2, ys, z3, z4⟩ := h4 k a ds q1 q2
    exact ⟨z0, z1, z2, ys, z3, RpL.mono e _ _ z4⟩
  | p d => exact Rp.mono e d v h
  | n ds =>
    obtain ⟨t, xs, rfl, h1, h2, h3⟩ := h
    refine ⟨t, xs, rfl, e _ _ h1, RpL.mono e _ _ h2, fun a ha => ?_⟩
    obtain ⟨⟨ys, h4⟩, h5⟩ := h3 a ha
    exact ⟨⟨ys, e _ _ h4⟩, h5⟩
  | o d =>
    obtain ⟨a, rfl, h1, h2, h3⟩ := h
    refine ⟨a, rfl, n a rfl rfl h1, h2, ?_⟩
    exact own_keep (d := d) h3 e fun o q => k a o rfl rfl q
  | u w m =>
    obtain ⟨p, x, y, z, rfl, h1, h2, h3, h4⟩ := h
    exact ⟨p, x, y, z, rfl, n p rfl rfl h1, h2, k p _ rfl rfl h3, h4⟩
  | s d =>
    obtain ⟨a, rfl, h1, h2, h3⟩ := h
    exact ⟨a, rfl, n a rfl rfl h1, h2, own_keep (d := d) h3 e fun o q => k a o rfl rfl q⟩
theorem same_upd {H : Hp} {p : Addr} {o : HO} (h : H p = none) : Same H (upd H p o) := fun b x e => by
  rw [upd_ne (ne_of_none e h)]
  exact e
theorem SD.new (S : SD K W F H σ δ) {p : Addr} {o : HO} (hp : H p = none) : SD K W (upd F p o) (upd H p o) σ δ where
  f0 := S.f0.trans (same_upd (S.freshF hp))
  h0 := fun a o' h1 h2 => by
    have := S.h0 a o' h1 h2
    rw [upd_ne (ne_of_none this hp)]
    exact this
  fh := fun a o' h => by
    by_cases e : a = p
    · subst e
      rw [upd_same] at h ⊢
      exact h
    · rw [upd_ne e] at h ⊢
      exact S.fh a o' h
  fr := fun a o' h => by
    by_cases e : a = p
    · subst e
      exact .inr (S.fresh0 hp)
    · rw [upd_ne e] at h
      exact S.fr a o' h
  fp := fun a h => by
    obtain ⟨h1, ⟨o', h2⟩, h3⟩ := S.fp a h
    have e := ne_of_none h2 hp
    rw [upd_ne e, upd_ne e]
    exact ⟨h1, ⟨o', h2⟩, h3⟩
  len := S.len
  get := fun i b h => by
    obtain ⟨v, h1, h2⟩ := S.get i b h
    refine ⟨v, h1, h2.keep (same_upd (S.freshF hp)) (fun a o' _ _ h3 => ?_) (fun a hv hb h3 => ?_)⟩
    · rw [upd_ne (ne_of_none h3 hp)]
      exact h3
    · obtain ⟨a', o', e1, h4, _⟩ := h2.there hb
      rw [hv] at e1
      cases e1
      rw [upd_ne (ne_of_none h4 hp)]
      exact h3
  sep := S.sep
theorem SD.newO (S : SD K W F H σ δ) {p : Addr} {o : HO} (hp : H p = none) : SD K W F (upd H p o) σ δ where
  f0 := S.f0
  h0 := fun a o' h1 h2 => by
    have := S.h0 a o' h1 h2
    rw [upd_ne (ne_of_none this hp)]
    exact this
  fh := S.fh.trans (same_upd hp)
  fr := S.fr
  fp := fun a h => by
    obtain ⟨h1, ⟨o', h2⟩, h3⟩ := S.fp a h
    rw [upd_ne (ne_of_none h2 hp)]
    exact ⟨h1, ⟨o', h2⟩, h3⟩
  len := S.len
  get := fun i b h => by
    obtain ⟨v, h1, h2⟩ := S.get i b h
    refine ⟨v, h1, h2.keep (Same.refl F) (fun a o' _ _ h3 => ?_) (fun a hv hb h3 => h3)⟩
    rw [upd_ne (ne_of_none h3 hp)]
    exact h3
  sep := S.sep
theorem SD.freeze (S : SD K W F H σ δ) {a : Addr} {o : HO} (ha : H a = some o) (h0 : W.H0 a = none) (hF : F a = none) (hno : ∀ (j : Nat) (c : B), δ[j]? = some (some c) → c.own = true → σ[j]? ≠ some (some (.ref a))) : SD K W (upd F a o) H σ δ where
  f0 := S.f0.trans (same_upd hF)
  h0 := S.h0
  fh := fun b o' h => by
    by_cases e : b = a
    · subst e
      rw [upd_same] at h
      rw [ha]
      exact h
    · rw [upd_ne e] at h
      exact S.fh b o' h
  fr := fun b o' h => by
    by_cases e : b = a
    · subst e
      exact .inr h0
    · rw [upd_ne e] at h
      exact S.fr b o' h
  fp := fun b h => by
    obtain ⟨h1, h2, o', h3⟩ := S.fp b h
    refine ⟨?_, h2, o', h3⟩
    have e : b ≠ a := fun z => by
      rw [z, h0] at h3
      cases h3
    rw [upd_ne e]
    exact h1
  len := S.len
  get := fun i b h => by
    obtain ⟨v, h1, h2⟩ := S.get i b h
    refine ⟨v, h1, h2.keep (same_upd hF) (fun _ _ _ _ h3 => h3) (fun b' hv hb h3 => ?_)⟩
    by_cases e : b' = a
    · subst e
      subst hv
      exact absurd h1 (hno i b h hb)
    · rw [upd_ne e]
      exact h3
  sep := S.sep
end
end DD

set_option Elab.async false
set_option linter.all false
set_option maxRecDepth 100000
set_option maxHeartbeats 4000000
namespace DD
open PySem PySem.Spec PyProof.Rows L2

structure GnOk (P : Program) (w : World) (K : PySem.W.Frag) (mg : Str → Option Value) (base : Heap) (k : Nat) (f : Addr) (fd : FuncData) (ps : List Str) (sp : Sp) : Prop where
  len : ∀ vs H Q E, sp vs H Q E → vs.length = ps.length
  run : ∀ (A : Around) (outer : List Env) (s : Shared) (H : Hp) (args : Args) (us : List Value) (vs : List V) (Q : VK) (E : XK),
    A.guards = some [] → Room k A → Env0 P w K mg base A outer s H → BindsTo s fd args (ps.zip us) → Vals vs us → sp vs H Q E →
    codeAny (model P w) A (.call (.ref f) args) (CR (L2N.CX P w) outer P w H s Q E) s
theorem GnOk.mono {P : Program} {w : World} {K : PySem.W.Frag} {mg : Str → Option Value} {base : Heap} {j k : Nat} {f : Addr} {fd : FuncData} {ps : List Str} {sp : Sp}
    (G : GnOk P w K mg base j f fd ps sp) (h : j ≤ k) : GnOk P w K mg base k f fd ps sp :=
  ⟨G.len, fun A outer s H args us vs Q E hg hr => G.run A outer s H args us vs Q E hg (hr.mono h)⟩
theorem GnOk.of {P : Program} {w : World} {K : PySem.W.Frag} {mg : Str → Option Value} {base : Heap} {k : Nat} {f : Addr} {fd : FuncData} {ps : List Str} {sp : Sp}
    (G : FnOk P w K mg base (L2N.CX P w) k f fd ps sp) : GnOk P w K mg base k f fd ps sp :=
  ⟨G.len, fun A outer s H args us vs Q E _ hr => G.run A outer s H args us vs Q E hr⟩
theorem gn_of {P : Program} {w : World} {K : PySem.W.Frag} {mg : Str → Option Value} {base : Heap} {x qual : Str} {st : Stmt} {f : Addr} {fd : FuncData} {N ps : List Str} {k : Nat} {sp : Sp}
    (F : Fun K x qual st f fd) (S : FnScope N ps (defScope st)) (len : ∀ vs H Q E, sp vs H Q E → vs.length = ps.length)
    (hbody : ∀ (cdv : Value) (A : Around) (outer : List Env) (s : Shared) (H : Hp) (vs : List V) (Q : VK) (E : XK), A.guards = some [] →
      Room k (A.deeper (envOfC qual (defScope st) s.heap.objs.size f cdv)) → sp vs H Q E →
      ∃ t, PSs (cxOf (L2N.CX P w) P w K mg base N qual (defScope st) f cdv A outer s H E) (defBody st) t ∧ t { nx := fun _ H' => Q .non H', rt := Q } (start N vs) H) :
    GnOk P w K mg base (k + 1) f fd ps sp := by
  refine ⟨len, ?_⟩
  intro A outer s H args us vs Q E hg hr e0 hb r hsp
  obtain ⟨oc, od, kV, doc, pm, an, cdv, ct, osl, rfl, lk, hcd⟩ := F.ex
  have kin : K.In s.heap := e0.mod.kin.keeps fun b o e => (e0.bs b o e).1
  refine codeAny_call_function hr.depth (kin _ _ lk) rfl S.co S.gen rfl (PySem.W.codeRec_of kin hcd) (hb _ _ _ _ ?_)
  have hk : ∀ y ∈ ps.zip us, (defScope st).names.lookup y.1 = some .local ∨
      ((defScope st).names.lookup y.1 = some .cell ∧ ((cellsFrom (s.heap.objs.size + 1) (defScope st).names []).lookup y.1).isSome = true) := by
    rintro ⟨n, v⟩ hy
    rcases S.par n (List.of_mem_zip hy).1 with q | q
    · exact Or.inl q
    · exact Or.inr ⟨q, PySem.W.cellsFrom_some _ _ _ (Or.inl q)⟩
  refine wpAny_newFunctionEnv_cells S.kind hk ?_
  intro env he s1 x
  subst he
  refine ⟨(e0.mod.nolimit.keeps fun b o e => (e0.bs b o e).1).keeps x.toInCall.keep, codeAny_func ?_⟩
  obtain ⟨t, ht, hq⟩ := hbody cdv A outer s H vs Q E hg (hr.deeper _) hsp
  have I := inv_start (CX := L2N.CX P w) (P := P) (w := w) (mg := mg) (base := base) (E := E) S hr.hd e0 (len _ _ _ _ hsp) r x
  refine wpAny_mono (ht.run [] s1 (start N vs) H _ I hq) ?_ (fun e s' hs => hs)
  intro fl s' hs
  cases fl with
  | ret u =>
    obtain ⟨v, σ', H', J, rv, q⟩ := hs
    exact ⟨v, H', J.os, J.bare, J.base, J.hok, rv, q⟩
  | next =>
    obtain ⟨σ', H', J, q⟩ := hs
    exact ⟨V.non, H', J.os, J.bare, J.base, J.hok, rfl, q⟩
  | brk =>
    obtain ⟨_, _, _, q⟩ := hs
    exact q.elim
  | cont =>
    obtain ⟨_, _, _, q⟩ := hs
    exact q.elim

section
variable {X : Cx} {e : Expr}
def cE (X : Cx) (e : Expr) : TE := fun σ H Q => ∀ (pins : List (Addr × Obj)) (s : Shared), Inv X pins σ H s → wpAny (model X.prog X.w) X.A (eval e X.env) (EP X pins σ Q) X.xe s
def cT (X : Cx) (e : Expr) : TT := fun σ H Q => ∀ (pins : List (Addr × Obj)) (s : Shared), Inv X pins σ H s → wpAny (model X.prog X.w) X.A (isTrue e X.env (eval e X.env)) (TP X pins σ Q) X.xe s
def cW (X : Cx) (e : Expr) : TT := fun σ H Q => ∀ (whole : Sem Value) (pins : List (Addr × Obj)) (s : Shared), Inv X pins σ H s → wpAny (model X.prog X.w) X.A (isTrue e X.env whole) (TP X pins σ Q) X.xe s
def cA (X : Cx) (es : List Expr) : TA := fun σ H Q => ∀ (pos : Pos) (pins : List (Addr × Obj)) (s : Shared), Inv X pins σ H s → wpAny (model X.prog X.w) X.A (spliced (backTo pos (starEach es X.env))) (AP X pins σ Q) X.xe s
def cS (X : Cx) (st : Stmt) : TS := fun D σ H => ∀ (pins : List (Addr × Obj)) (s : Shared), Inv X pins σ H s → wpAny (model X.prog X.w) X.A (exec st X.env) (SP X pins D) X.xe s
def cSs (X : Cx) (st : List Stmt) : TS := fun D σ H => ∀ (pins : List (Addr × Obj)) (s : Shared), Inv X pins σ H s → wpAny (model X.prog X.w) X.A (execs st X.env) (SP X pins D) X.xe s
theorem cE_pe : PE X e (cE X e) := ⟨fun pins s _ _ _ I h => h pins s I⟩
theorem cT_pt : PT X e (cT X e) := ⟨fun pins s _ _ _ I h => h pins s I⟩
theorem cW_pw : PW X e (cW X e) := ⟨fun wh pins s _ _ _ I h => h wh pins s I⟩
theorem cA_pa {es : List Expr} : PA X es (cA X es) := ⟨fun pos pins s _ _ _ I h => h pos pins s I⟩
theorem cS_ps {st : Stmt} : PS X st (cS X st) := ⟨fun pins s _ _ _ I h => h pins s I⟩
theorem cSs_pss {st : List Stmt} : PSs X st (cSs X st) := ⟨fun pins s _ _ _ I h => h pins s I⟩
theorem cE_of {t : TE} {σ : L2.St} {H : Hp} {Q : VK} (h : PE X e t) (q : t σ H Q) : cE X e σ H Q := fun pins s I => h.run pins s σ H Q I q
theorem cT_of {t : TT} {σ : L2.St} {H : Hp} {Q : Bool → Hp → Prop} (h : PT X e t) (q : t σ H Q) : cT X e σ H Q := fun pins s I => h.run pins s σ H Q I q
theorem cE.imp {σ : L2.St} {H : Hp} {Q Q' : VK} (h : cE X e σ H Q) (i : ∀ v H', Q v H' → Q' v H') : cE X e σ H Q' := fun pins s I => thn (h pins s I) fun u s' q => by
  obtain ⟨v, H', I', r, q⟩ := q
  exact ⟨v, H', I', r, i v H' q⟩
theorem cT.imp {σ : L2.St} {H : Hp} {Q Q' : Bool → Hp → Prop} (h : cT X e σ H Q) (i : ∀ v H', Q v H' → Q' v H') : cT X e σ H Q' := fun pins s I => thn (h pins s I) fun u s' q => by
  obtain ⟨H', I', q⟩ := q
  exact ⟨H', I', i u H' q⟩
theorem cW.imp {σ : L2.St} {H : Hp} {Q Q' : Bool → Hp → Prop} (h : cW X e σ H Q) (i : ∀ v H', Q v H' → Q' v H') : cW X e σ H Q' := fun wh pins s I => thn (h wh pins s I) fun u s' q => by
  obtain ⟨H', I', q⟩ := q
  exact ⟨H', I', i u H' q⟩
theorem cA.imp {es : List Expr} {σ : L2.St} {H : Hp} {Q Q' : List V → Hp → Prop} (h : cA X es σ H Q) (i : ∀ v H', Q v H' → Q' v H') : cA X es σ H Q' := fun pos pins s I => thn (h pos pins s I) fun u s' q => by
  obtain ⟨v, H', I', r, q⟩ := q
  exact ⟨v, H', I', r, i v H' q⟩
theorem SP.imp {pins : List (Addr × Obj)} {D D' : Ends} {f : Flow} {s : Shared} (h : SP X pins D f s) (h1 : ∀ σ H, D.nx σ H → D'.nx σ H) (h2 : ∀ v H, D.rt v H → D'.rt v H) (h3 : ∀ σ H, D.bk σ H → D'.bk σ H) (h4 : ∀ σ H, D.ct σ H → D'.ct σ H) : SP X pins D' f s := by
  cases f with
  | next =>
    obtain ⟨σ', H', I, q⟩ := h
    exact ⟨σ', H', I, h1 _ _ q⟩
  | brk =>
    obtain ⟨σ', H', I, q⟩ := h
    exact ⟨σ', H', I, h3 _ _ q⟩
  | cont =>
    obtain ⟨σ', H', I, q⟩ := h
    exact ⟨σ', H', I, h4 _ _ q⟩
  | ret u =>
    obtain ⟨v, σ', H', I, r, q⟩ := h
    exact ⟨v, σ', H', I, r, h2 _ _ q⟩
end

abbrev TD := Env' → (B → Env' → Prop) → Prop
abbrev TDT := Env' → (Bool → Env' → Prop) → Prop
abbrev TDA := Env' → (List D → Env' → Prop) → Prop
structure DE (X : Cx) (W : Fix) (e : Expr) (t : TD) : Prop where
  run : ∀ (F H : Hp) (σ : L2.St) (δ : Env') (Q : B → Env' → Prop), SD X.K W F H σ δ → t δ Q → cE X e σ H (DQ X.K W F σ Q)
def TQ (K : PySem.W.Frag) (W : Fix) (F : Hp) (σ : L2.St) (Q : Bool → Env' → Prop) : Bool → Hp → Prop := fun b H' =>
  ∃ (F' : Hp) (δ' : Env'), Same F F' ∧ SD K W F' H' σ δ' ∧ Q b δ'
def AQ (K : PySem.W.Frag) (W : Fix) (F : Hp) (σ : L2.St) (Q : List D → Env' → Prop) : List V → Hp → Prop := fun vs H' =>
  ∃ (F' : Hp) (ds : List D) (δ' : Env'), Same F F' ∧ SD K W F' H' σ δ' ∧ RpL K F' ds vs ∧ Q ds δ'
structure DT (X : Cx) (W : Fix) (e : Expr) (t : TDT) : Prop where
  run : ∀ (F H : Hp) (σ : L2.St) (δ : Env') (Q : Bool → Env' → Prop), SD X.K W F H σ δ → t δ Q → cT X e σ H (TQ X.K W F σ Q)
structure DW (X : Cx) (W : Fix) (e : Expr) (t : TDT) : Prop where
  run : ∀ (F H : Hp) (σ : L2.St) (δ : Env') (Q : Bool → Env' → Prop), SD X.K W F H σ δ → t δ Q → cW X e σ H (TQ X.K W F σ Q)
structure DA (X : Cx) (W : Fix) (es : List Expr) (t : TDA) : Prop where
  run : ∀ (F H : Hp) (σ : L2.St) (δ : Env') (Q : List D → Env' → Prop), SD X.K W F H σ δ → t δ Q → cA X es σ H (AQ X.K W F σ Q)
theorem DW.dt {X : Cx} {W : Fix} {e : Expr} {t : TDT} (h : DW X W e t) : DT X W e t := ⟨fun F H σ δ Q S q pins s I => h.run F H σ δ Q S q _ pins s I⟩

section
variable {K : PySem.W.Frag} {W : Fix} {F F1 H : Hp} {σ : L2.St} {δ : Env'}
theorem DQ.back {Q : B → Env' → Prop} {v : V} (e : Same F F1) (h : DQ K W F1 σ Q v H) : DQ K W F σ Q v H := by
  obtain ⟨F', b, δ', e1, h⟩ := h
  exact ⟨F', b, δ', e.trans e1, h⟩
theorem TQ.back {Q : Bool → Env' → Prop} {v : Bool} (e : Same F F1) (h : TQ K W F1 σ Q v H) : TQ K W F σ Q v H := by
  obtain ⟨F', δ', e1, h⟩ := h
  exact ⟨F', δ', e.trans e1, h⟩
theorem AQ.back {Q : List D → Env' → Prop} {v : List V} (e : Same F F1) (h : AQ K W F1 σ Q v H) : AQ K W F σ Q v H := by
  obtain ⟨F', b, δ', e1, h⟩ := h
  exact ⟨F', b, δ', e.trans e1, h⟩
theorem own_noU {b : B} (h : b.isU = false) (g : b.own = true) : ∃ d, b = .o d := by
  cases b with
  | p d => cases g
  | n ds => cases g
  | o d => exact ⟨d, rfl⟩
  | u w n => cases h
  | s d => cases h
  | t dss => cases h
  | m dss => cases h
theorem own_frozen {o : HO} {d : D} {a : Addr} (h : Own K F H d a) (ho : H a = some o) (hF : F a = none) : Rp K (upd F a o) d (.ref a) := by
  have e : Same F (upd F a o) := same_upd hF
  cases d <;> first | exact h.elim | skip
  · obtain ⟨xs, h1, h2⟩ := h
    rw [h1] at ho
    cases ho
    unfold Rp
    exact ⟨a, xs, rfl, upd_same, RpL.mono e _ _ h2⟩
  · obtain ⟨xs, h1, h2, h3⟩ := h
    rw [h1] at ho
    cases ho
    unfold Rp
    exact ⟨a, xs, rfl, upd_same, RpL.mono e _ _ h2, h3⟩
  · obtain ⟨dx, xs, h1, h2, h3⟩ := h
    rw [h1] at ho
    cases ho
    unfold Rp
    exact ⟨a, dx, xs, rfl, upd_same, RpL.mono e _ _ h2, h3⟩
  · have h1 : H a = some (.set _ _) := h
    rw [h1] at ho
    cases ho
    unfold Rp
    exact ⟨a, rfl, upd_same⟩
  · obtain ⟨xs, h1, h2, h3⟩ := h
    rw [h1] at ho
    cases ho
    unfold Rp
    exact ⟨a, xs, rfl, upd_same, RpL.mono e _ _ h2, h3⟩
theorem DQ.plain {Q : B → Env' → Prop} {v : V} (h : DQ K W F σ (fun b δ' => b.isU = false ∧ Q b δ') v H) :
    ∃ (F' : Hp) (b : B) (δ' : Env'), Same F F' ∧ SD K W F' H σ δ' ∧ Rp K F' b.d v ∧ Q b δ' := by
  obtain ⟨F', b, δ', e1, S, r, hs, hu, q⟩ := h
  cases b with
  | p d => exact ⟨F', .p d, δ', e1, S, r, q⟩
  | n ds =>
    obtain ⟨t, xs, rfl, h1, h2, _⟩ := r
    refine ⟨F', .n ds, δ', e1, S, ?_, q⟩
    show Rp K F' (.tup ds) (.ref t)
    unfold Rp
    exact ⟨t, xs, rfl, h1, h2⟩
  | u w n => cases hu
  | s d => cases hu
  | t dss => cases hu
  | m dss => cases hu
  | o d =>
    obtain ⟨a, rfl, h1, h2, h3⟩ := r
    obtain ⟨o, ho⟩ := h3.some
    exact ⟨upd F' a o, .o d, δ', e1.trans (same_upd h1), S.freeze ho h2 h1 (hs rfl), own_frozen h3 ho h1, q⟩
theorem DQ.mk {Q : B → Env' → Prop} {v : V} {d : D} (S : SD K W F H σ δ) (r : Rp K F d v) (q : Q (.p d) δ) : DQ K W F σ Q v H :=
  ⟨F, .p d, δ, Same.refl F, S, r, (fun h => by cases h), q⟩
theorem DQ.mkN {Q : B → Env' → Prop} {p : Addr} {o : HO} {d : D} (S : SD K W F H σ δ) (hp : H p = none) (r : Rp K (upd F p o) d (.ref p)) (q : Q (.p d) δ) : DQ K W F σ Q (.ref p) (upd H p o) :=
  ⟨upd F p o, .p d, δ, same_upd (S.freshF hp), S.new hp, r, (fun h => by cases h), q⟩
theorem DQ.mkO {Q : B → Env' → Prop} {p : Addr} {o : HO} {d : D} (S : SD K W F H σ δ) (hp : H p = none) (r : Own K F (upd H p o) d p) (q : Q (.o d) δ) : DQ K W F σ Q (.ref p) (upd H p o) := by
  refine ⟨F, .o d, δ, Same.refl F, S.newO hp, ⟨p, rfl, S.freshF hp, S.fresh0 hp, r⟩, fun _ j c h1 h2 h3 => ?_, q⟩
  obtain ⟨v, e1, r1⟩ := S.get j c h1
  rw [h3] at e1
  cases e1
  obtain ⟨a, o', e2, h4, _⟩ := r1.there h2
  cases e2
  rw [hp] at h4
  cases h4
end

def dp (t : TD) : Env' → (D → Env' → Prop) → Prop := fun δ Q => t δ fun b δ' => b.isU = false ∧ Q b.d δ'
section
variable {X : Cx} {W : Fix} {e a b : Expr} {t ta tb : TD}
theorem DE.plain {F H : Hp} {σ : L2.St} {δ : Env'} {Q : D → Env' → Prop} (h : DE X W e t) (S : SD X.K W F H σ δ) (q : dp t δ Q) :
    cE X e σ H fun v H' => ∃ (F' : Hp) (d : D) (δ' : Env'), Same F F' ∧ SD X.K W F' H' σ δ' ∧ Rp X.K F' d v ∧ Q d δ' :=
  (h.run F H σ δ _ S q).imp fun v H' z => by
    obtain ⟨F', b, δ', e, S', r, q⟩ := DQ.plain (Q := fun b δ' => Q b.d δ') z
    exact ⟨F', b.d, δ', e, S', r, q⟩
theorem DE.of {te : TE} (h : PE X e te) (hh : ∀ (F H : Hp) (σ : L2.St) (δ : Env') (Q : B → Env' → Prop), SD X.K W F H σ δ → t δ Q → te σ H (DQ X.K W F σ Q)) : DE X W e t :=
  ⟨fun F H σ δ Q S q => cE_of h (hh F H σ δ Q S q)⟩

def dC (d : D) : TD := fun δ Q => Q (.p d) δ
def B.rd : B → B
  | .n ds => .n ds
  | b => .p b.d
def dV (i : Nat) : TD := fun δ Q => ∃ b, δ[i]? = some (some b) ∧ b.isU = false ∧ Q (.p b.d) (δ.set i (some b.rd))
def dM (i : Nat) : TD := fun δ Q => ∃ b, δ[i]? = some (some b) ∧ b.isU = false ∧ Q b (δ.set i none)
theorem SD.put {K : PySem.W.Frag} {F H : Hp} {σ : L2.St} {δ : Env'} {i : Nat} {v : V} {b : B} (S : SD K W F H σ δ) (r : RB K W F H b v)
    (hs : b.own = true → ∀ (j : Nat) (c : B), δ[j]? = some (some c) → c.own = true → j ≠ i → σ[j]? ≠ some (some v)) : SD K W F H (σ.set i (some v)) (δ.set i (some b)) where
  f0 := S.f0
  h0 := S.h0
  fh := S.fh
  fr := S.fr
  fp := S.fp
  len := by rw [List.length_set, List.length_set, S.len]
  get := fun j c h => by
    by_cases e : j = i
    · subst e
      have hl : j < δ.length := by
        have := (List.getElem?_eq_some_iff.mp h).1
        rw [List.length_set] at this
        exact this
      rw [List.getElem?_set_self hl] at h
      cases h
      exact ⟨v, by rw [List.getElem?_set_self (by rw [S.len]; exact hl)], r⟩
    · rw [List.getElem?_set_ne (Ne.symm e)] at h
      rw [List.getElem?_set_ne (Ne.symm e)]
      exact S.get j c h
  sep := fun j k c d x ne h1 h2 h3 h4 h5 => by
    by_cases ej : j = i
    · subst ej
      have ek : k ≠ j := Ne.symm ne
      have hl : j < δ.length := by
        have := (List.getElem?_eq_some_iff.mp h1).1
        rw [List.length_set] at this
        exact this
      rw [List.getElem?_set_self hl] at h1
      cases h1
      rw [List.getElem?_set_self (by rw [S.len]; exact hl)] at h5
      cases h5
      rw [List.getElem?_set_ne ne] at h3 ⊢
      exact hs h2 k d h3 h4 ek
    · rw [List.getElem?_set_ne (Ne.symm ej)] at h1 h5
      by_cases ek : k = i
      · subst ek
        have hl : k < δ.length := by
          have := (List.getElem?_eq_some_iff.mp h3).1
          rw [List.length_set] at this
          exact this
        rw [List.getElem?_set_self hl] at h3
        cases h3
        rw [List.getElem?_set_self (by rw [S.len]; exact hl)]
        intro z
        cases z
        exact hs h4 j c h1 h2 ej h5
      · rw [List.getElem?_set_ne (Ne.symm ek)] at h3 ⊢
        exact S.sep j k c d x ne h1 h2 h3 h4 h5
theorem SD.drop {K : PySem.W.Frag} {F H : Hp} {σ : L2.St} {δ : Env'} {i : Nat} (S : SD K W F H σ δ) : SD K W F H σ (δ.set i none) where
  f0 := S.f0
  h0 := S.h0
  fh := S.fh
  fr := S.fr
  fp := S.fp
  len := by rw [List.length_set, S.len]
  get := fun j c h => by
    by_cases e : j = i
    · subst e
      have hl : j < δ.length := by
        have := (List.getElem?_eq_some_iff.mp h).1
        rw [List.length_set] at this
        exact this
      rw [List.getElem?_set_self hl] at h
      cases h
    · rw [List.getElem?_set_ne (Ne.symm e)] at h
      exact S.get j c h
  sep := fun j k c d x ne h1 h2 h3 h4 h5 => by
    have aux : ∀ (m : Nat) (c : B), (δ.set i none)[m]? = some (some c) → δ[m]? = some (some c) := fun m c h => by
      by_cases e : m = i
      · subst e
        have hl : m < δ.length := by
          have := (List.getElem?_eq_some_iff.mp h).1
          rw [List.length_set] at this
          exact this
        rw [List.getElem?_set_self hl] at h
        cases h
      · rw [List.getElem?_set_ne (Ne.symm e)] at h
        exact h
    exact S.sep j k c d x ne (aux j c h1) h2 (aux k d h3) h4 h5
theorem set_noop {α : Type} {l : List α} {i : Nat} {x : α} (h : l[i]? = some x) : l.set i x = l := by
  obtain ⟨h1, h2⟩ := List.getElem?_eq_some_iff.mp h
  rw [← h2]
  exact List.set_getElem_self h1
theorem de_var {i : Nat} {x : Str} {pos : Pos} (hN : X.N[i]? = some x) (hv : Vis X.env.scope x) (hd : (x == ("__debug__" : Str)) = false := by decide) (hcd : (x == ("__classdict__" : Str)) = false := by decide) :
    DE X W (.Name x pos) (dV i) := .of (pe_var (X := X) hN hv hd hcd) fun F H σ δ Q S q => by
  obtain ⟨b, h1, h2, q⟩ := q
  obtain ⟨v, h3, r⟩ := S.get i b h1
  refine ⟨v, h3, ?_⟩
  cases b with
  | u w n => cases h2
  | s d => cases h2
  | t dss => cases h2
  | m dss => cases h2
  | n ds =>
    have e : δ.set i (some (B.n ds).rd) = δ := set_noop h1
    rw [e] at q
    obtain ⟨t, xs, rfl, h4, h5, _⟩ := r
    refine .mk S (?_ : Rp X.K F (.tup ds) (.ref t)) q
    unfold Rp
    exact ⟨t, xs, rfl, h4, h5⟩
  | p d =>
    have e : δ.set i (some (.p d)) = δ := set_noop h1
    have q : Q (.p d) (δ.set i (some (.p d))) := q
    rw [e] at q
    exact .mk S r q
  | o d =>
    obtain ⟨a, rfl, hF, h0, hO⟩ := r
    obtain ⟨o, ho⟩ := hO.some
    have S1 := SD.drop (i := i) S
    have S2 : SD X.K W (upd F a o) H σ (δ.set i none) := S1.freeze ho h0 hF fun j c e1 e2 e3 => by
      by_cases ej : j = i
      · subst ej
        have hl : j < δ.length := (List.getElem?_eq_some_iff.mp h1).1
        rw [List.getElem?_set_self hl] at e1
        cases e1
      · rw [List.getElem?_set_ne (Ne.symm ej)] at e1
        exact S.sep i j (.o d) c (.ref a) (Ne.symm ej) h1 rfl e1 e2 h3 e3
    have r2 : RB X.K W (upd F a o) H (.p d) (.ref a) := own_frozen hO ho hF
    have S3 := S2.put (i := i) r2 (fun z => by cases z)
    rw [set_noop h3, List.set_set] at S3
    exact ⟨upd F a o, .p d, _, same_upd hF, S3, r2, (fun z => by cases z), q⟩
theorem de_move {i : Nat} {x : Str} {pos : Pos} (hN : X.N[i]? = some x) (hv : Vis X.env.scope x) (hd : (x == ("__debug__" : Str)) = false := by decide) (hcd : (x == ("__classdict__" : Str)) = false := by decide) :
    DE X W (.Name x pos) (dM i) := .of (pe_var (X := X) hN hv hd hcd) fun F H σ δ Q S q => by
  obtain ⟨b, h1, h2, q⟩ := q
  obtain ⟨v, h3, r⟩ := S.get i b h1
  refine ⟨v, h3, F, b, _, Same.refl F, S.drop, r, fun hb j c e1 e2 e3 => ?_, q⟩
  by_cases ej : j = i
  · subst ej
    have hl : j < δ.length := (List.getElem?_eq_some_iff.mp h1).1
    rw [List.getElem?_set_self hl] at e1
    cases e1
  · rw [List.getElem?_set_ne (Ne.symm ej)] at e1
    exact S.sep i j b c v (Ne.symm ej) h1 hb e1 e2 h3 e3
theorem de_int {i : Int} {j : Nat} {pos : Pos} : DE X W (.Constant (.int i) j pos) (dC (.int i)) := .of pe_int fun F H σ δ Q S q => .mk S (by unfold Rp; rfl) q
theorem de_bl {i : Bool} {j : Nat} {pos : Pos} : DE X W (.Constant (.bool i) j pos) (dC (.bl i)) := .of pe_bl fun F H σ δ Q S q => .mk S (by unfold Rp; rfl) q
theorem de_str {i : Str} {j : Nat} {pos : Pos} : DE X W (.Constant (.str i) j pos) (dC (.str i)) := .of pe_str fun F H σ δ Q S q => .mk S (by unfold Rp; rfl) q
theorem de_glob {x : Str} {d : D} {v : V} {u : Value} {pos : Pos} (hg : Gl X x) (hm : X.mg x = some u) (r : RelV v u) (hr : ∀ F, Rp X.K F d v) (hd : (x == ("__debug__" : Str)) = false := by decide) :
    DE X W (.Name x pos) (dC d) := .of (pe_glob hg hm r hd) fun F H σ δ Q S q => .mk S (hr F) q
theorem de_bltn {x : Str} {d : D} {v : V} {u : Value} {pos : Pos} (hg : Gl X x) (hm : X.mg x = none) (hv : bootBuiltins x = some u) (r : RelV v u) (hr : ∀ F, Rp X.K F d v) (hn : x ≠ "__name__" := by decide) (hd : (x == ("__debug__" : Str)) = false := by decide) :
    DE X W (.Name x pos) (dC d) := .of (pe_bltn hg hm hv r hn hd) fun F H σ δ Q S q => .mk S (hr F) q

def RD (K : PySem.W.Frag) (r : R2) (g : D → D → (B → Prop) → Prop) : Prop :=
  ∀ (W : Fix) (F H : Hp) (σ : L2.St) (δ : Env') (x y : V) (c d : D) (Q : B → Prop) (Z : VK), SD K W F H σ δ → Rp K F c x → Rp K F d y → g c d Q →
    (∀ v H', DQ K W F σ (fun b δ' => δ' = δ ∧ Q b) v H' → Z v H') → r x y H Z
def dOp (g : D → D → (B → Prop) → Prop) (ta tb : TD) : TD := fun δ Q => dp ta δ fun x δ1 => dp tb δ1 fun y δ2 => g x y fun z => Q z δ2
theorem DQ.fix {K : PySem.W.Frag} {F F0 H : Hp} {σ : L2.St} {δ : Env'} {Q : B → Env' → Prop} {v : V} (e : Same F0 F) (h : DQ K W F σ (fun b δ' => δ' = δ ∧ Q b δ) v H) : DQ K W F0 σ Q v H := by
  obtain ⟨F', b, δ', e1, S, r, hs, rfl, q⟩ := h
  exact ⟨F', b, δ', e.trans e1, S, r, hs, q⟩
theorem two {F H : Hp} {σ : L2.St} {δ : Env'} {r : R2} {g : D → D → (B → Prop) → Prop} {Q : B → Env' → Prop} (ha : DE X W a ta) (hb : DE X W b tb) (hr : RD X.K r g) (S : SD X.K W F H σ δ) (q : dOp g ta tb δ Q) :
    tOp r (cE X a) (cE X b) σ H (DQ X.K W F σ Q) := by
  refine (ha.plain S q).imp fun x H1 h1 => ?_
  obtain ⟨F1, c, δ1, e1, S1, r1, q1⟩ := h1
  refine (hb.plain S1 q1).imp fun y H2 h2 => ?_
  obtain ⟨F2, d, δ2, e2, S2, r2, q2⟩ := h2
  exact hr W F2 H2 σ δ2 x y c d _ _ S2 (Rp.mono e2 c x r1) r2 q2 fun v H' h => h.fix (e1.trans e2)
theorem de_op {op : Operator} {pos : Pos} {r : R2} {g : D → D → (B → Prop) → Prop} (ho : OpR X (binaryOp op) r) (hr : RD X.K r g) (ha : DE X W a ta) (hb : DE X W b tb) : DE X W (.BinOp a op b pos) (dOp g ta tb) :=
  .of (pe_op ho cE_pe cE_pe) fun _ _ _ _ _ S q => two ha hb hr S q
theorem de_cmp {op : CmpOp} {pos : Pos} {r : R2} {g : D → D → (B → Prop) → Prop} (ho : OpR X (compareOp op) r) (hr : RD X.K r g) (ha : DE X W a ta) (hb : DE X W b tb) (hm : behindInMarks op b = false) : DE X W (.Compare a [op] [b] pos) (dOp g ta tb) :=
  .of (pe_cmpR ho cE_pe cE_pe hm) fun _ _ _ _ _ S q => two ha hb hr S q
def dT (t : TD) : TDT := fun δ Q => t δ fun b δ' => ∃ k, b = .p (.bl k) ∧ Q k δ'
theorem dt_cmp {op : CmpOp} {pos : Pos} {r : R2} {g : D → D → (B → Prop) → Prop} (ho : OpR X (compareOp op) r) (hr : RD X.K r g) (ha : DE X W a ta) (hb : DE X W b tb) (hm : behindInMarks op b = false) : DT X W (.Compare a [op] [b] pos) (dT (dOp g ta tb)) := by
  refine ⟨fun F H σ δ Q S q => cT_of (pt_cmpR ho cE_pe cE_pe hm) ?_⟩
  have q : dp ta δ fun x δ1 => dp tb δ1 fun y δ2 => g x y fun z => ∃ k, z = .p (.bl k) ∧ Q k δ2 := q
  refine (ha.plain S q).imp fun x H1 h1 => ?_
  obtain ⟨F1, c, δ1, e1, S1, r1, q1⟩ := h1
  refine (hb.plain S1 q1).imp fun y H2 h2 => ?_
  obtain ⟨F2, d, δ2, e2, S2, r2, q2⟩ := h2
  refine hr W F2 H2 σ δ2 x y c d _ _ S2 (Rp.mono e2 c x r1) r2 q2 fun v H' h => ?_
  obtain ⟨F3, b, δ3, e3, S3, r3, _, rfl, k, rfl, q3⟩ := h
  exact ⟨k, r3, F3, δ3, (e1.trans e2).trans e3, S3, q3⟩
theorem dt_val {he : ∀ whole, isTrue e X.env whole = (do let v ← whole; standAt e.pos; holding [v] (truthy v))} (h : DE X W e t) : DT X W e (dT t) := by
  refine ⟨fun F H σ δ Q S q => cT_of (pt_val (t := cE X e) cE_pe he) ?_⟩
  refine (h.run F H σ δ _ S q).imp fun x H1 h1 => ?_
  obtain ⟨F3, b, δ3, e3, S3, r3, _, k, rfl, q3⟩ := h1
  exact ⟨k, r3, F3, δ3, e3, S3, q3⟩
end

section
variable {X : Cx} {W : Fix} {a b c : Expr} {rest : List Expr} {t u : TDT} {ta tb : TD} {pos : Pos}
def dAnd (t u : TDT) : TDT := fun δ Q => t δ fun k δ1 => if k = true then u δ1 Q else Q false δ1
def dOr (t u : TDT) : TDT := fun δ Q => t δ fun k δ1 => if k = true then Q true δ1 else u δ1 Q
def dNot (t : TDT) : TDT := fun δ Q => t δ fun k δ1 => Q (!k) δ1
theorem dw_and1 (h : DT X W a t) : DW X W (.BoolOp .And [a] pos) t := ⟨fun F H σ δ Q S q wh pins s I => (pw_and1 (X := X) cT_pt).run wh pins s σ H _ I (h.run F H σ δ Q S q)⟩
theorem dw_or1 (h : DT X W a t) : DW X W (.BoolOp .Or [a] pos) t := ⟨fun F H σ δ Q S q wh pins s I => (pw_or1 (X := X) cT_pt).run wh pins s σ H _ I (h.run F H σ δ Q S q)⟩
theorem dw_and (h : DT X W a t) (g : DW X W (.BoolOp .And (b :: rest) pos) u) : DW X W (.BoolOp .And (a :: b :: rest) pos) (dAnd t u) := by
  refine ⟨fun F H σ δ Q S q wh pins s I => (pw_and (X := X) cT_pt cW_pw).run wh pins s σ H _ I ?_⟩
  refine (h.run F H σ δ _ S q).imp fun k H1 h1 => ?_
  obtain ⟨F1, δ1, e1, S1, q1⟩ := h1
  cases k with
  | true =>
    rw [if_pos rfl] at q1 ⊢
    exact (g.run F1 H1 σ δ1 Q S1 q1).imp fun k2 H2 h2 => h2.back e1
  | false =>
    rw [if_neg Bool.false_ne_true] at q1 ⊢
    exact ⟨F1, δ1, e1, S1, q1⟩
theorem dw_or (h : DT X W a t) (g : DW X W (.BoolOp .Or (b :: rest) pos) u) : DW X W (.BoolOp .Or (a :: b :: rest) pos) (dOr t u) := by
  refine ⟨fun F H σ δ Q S q wh pins s I => (pw_or (X := X) cT_pt cW_pw).run wh pins s σ H _ I ?_⟩
  refine (h.run F H σ δ _ S q).imp fun k H1 h1 => ?_
  obtain ⟨F1, δ1, e1, S1, q1⟩ := h1
  cases k with
  | false =>
    rw [if_neg Bool.false_ne_true] at q1 ⊢
    exact (g.run F1 H1 σ δ1 Q S1 q1).imp fun k2 H2 h2 => h2.back e1
  | true =>
    rw [if_pos rfl] at q1 ⊢
    exact ⟨F1, δ1, e1, S1, q1⟩
theorem dt_not (h : DT X W a t) : DT X W (.UnaryOp .Not a pos) (dNot t) := by
  refine ⟨fun F H σ δ Q S q => cT_of (pt_not (X := X) cT_pt) ?_⟩
  exact (h.run F H σ δ _ S q).imp fun k H1 h1 => h1
def dAndV (ta tb : TD) : TD := fun δ Q => ta δ fun x δ1 => ∃ k, x = .p (.bl k) ∧ if k = true then tb δ1 Q else Q (.p (.bl false)) δ1
def dOrV (ta tb : TD) : TD := fun δ Q => ta δ fun x δ1 => ∃ k, x = .p (.bl k) ∧ if k = true then Q (.p (.bl true)) δ1 else tb δ1 Q
def dNotV (ta : TD) : TD := fun δ Q => ta δ fun x δ1 => ∃ k, x = .p (.bl k) ∧ Q (.p (.bl (!k))) δ1
theorem de_one {op : BoolOp} (h : DE X W a ta) : DE X W (.BoolOp op [a] pos) ta := .of (pe_one (X := X) (t := cE X a) cE_pe) fun F H σ δ Q S q => h.run F H σ δ Q S q
theorem de_and (h : DE X W a ta) (g : DE X W (.BoolOp .And (b :: rest) pos) tb) : DE X W (.BoolOp .And (a :: b :: rest) pos) (dAndV ta tb) := .of (pe_and (X := X) cE_pe cE_pe) fun F H σ δ Q S q => by
  refine (h.run F H σ δ _ S q).imp fun x H1 h1 => ?_
  obtain ⟨F1, b1, δ1, e1, S1, r1, _, k, rfl, q1⟩ := h1
  refine ⟨k, r1, ?_⟩
  cases k with
  | true =>
    rw [if_pos rfl] at q1 ⊢
    exact (g.run F1 H1 σ δ1 Q S1 q1).imp fun k2 H2 h2 => h2.back e1
  | false =>
    rw [if_neg Bool.false_ne_true] at q1 ⊢
    exact (DQ.mk (Q := Q) S1 (by unfold Rp; rfl) q1).back e1
theorem de_or (h : DE X W a ta) (g : DE X W (.BoolOp .Or (b :: rest) pos) tb) : DE X W (.BoolOp .Or (a :: b :: rest) pos) (dOrV ta tb) := .of (pe_or (X := X) cE_pe cE_pe) fun F H σ δ Q S q => by
  refine (h.run F H σ δ _ S q).imp fun x H1 h1 => ?_
  obtain ⟨F1, b1, δ1, e1, S1, r1, _, k, rfl, q1⟩ := h1
  refine ⟨k, r1, ?_⟩
  cases k with
  | false =>
    rw [if_neg Bool.false_ne_true] at q1 ⊢
    exact (g.run F1 H1 σ δ1 Q S1 q1).imp fun k2 H2 h2 => h2.back e1
  | true =>
    rw [if_pos rfl] at q1 ⊢
    exact (DQ.mk (Q := Q) S1 (by unfold Rp; rfl) q1).back e1
theorem de_not (h : DE X W a ta) : DE X W (.UnaryOp .Not a pos) (dNotV ta) := .of (pe_not (X := X) cE_pe) fun F H σ δ Q S q => by
  refine (h.run F H σ δ _ S q).imp fun x H1 h1 => ?_
  obtain ⟨F1, b1, δ1, e1, S1, r1, _, k, rfl, q1⟩ := h1
  exact ⟨k, r1, (DQ.mk (Q := Q) S1 (d := .bl (!k)) (by unfold Rp; rfl) q1).back e1⟩
end

section
variable {X : Cx} {W : Fix} {e : Expr} {es : List Expr} {te : TD} {t : TDA} {pos : Pos}
def dNil : TDA := fun δ Q => Q [] δ
def dCons (te : TD) (t : TDA) : TDA := fun δ Q => dp te δ fun x δ1 => t δ1 fun xs δ2 => Q (x :: xs) δ2
theorem da_nil : DA X W [] dNil := ⟨fun F H σ δ Q S q pos pins s I => (pa_nil (X := X)).run pos pins s σ H _ I ⟨F, [], δ, Same.refl F, S, .nil, q⟩⟩
theorem da_cons (h : DE X W e te) (g : DA X W es t) (hs : starEach (e :: es) X.env = (false, eval e X.env) :: starEach es X.env := by rfl) : DA X W (e :: es) (dCons te t) := by
  refine ⟨fun F H σ δ Q S q pos pins s I => (pa_cons (X := X) cE_pe cA_pa hs).run pos pins s σ H _ I ?_⟩
  refine (h.plain S q).imp fun x H1 h1 => ?_
  obtain ⟨F1, d, δ1, e1, S1, r1, q1⟩ := h1
  refine (g.run F1 H1 σ δ1 _ S1 q1).imp fun xs H2 h2 => ?_
  obtain ⟨F2, ds, δ2, e2, S2, r2, q2⟩ := h2
  exact ⟨F2, d :: ds, δ2, e1.trans e2, S2, .cons (Rp.mono e2 d x r1) r2, q2⟩
def dTup (t : TDA) : TD := fun δ Q => t δ fun ds δ1 => ds.length ≤ sizeLine ∧ Q (.p (.tup ds)) δ1
def dLst (t : TDA) : TD := fun δ Q => t δ fun ds δ1 => ds.length ≤ sizeLine ∧ Q (.o (.lst ds)) δ1
theorem de_tup {x1 : Nat} (h : DA X W es t) : DE X W (.Tuple es x1 pos) (dTup t) := .of (pe_tup (X := X) cA_pa) fun F H σ δ Q S q => by
  refine (h.run F H σ δ _ S q).imp fun xs H1 h1 => ?_
  obtain ⟨F1, ds, δ1, e1, S1, r1, hz, q1⟩ := h1
  refine ⟨by rw [r1.length]; exact hz, fun p hp => ?_⟩
  refine (DQ.mkN S1 hp ?_ q1).back e1
  unfold Rp
  exact ⟨p, xs, rfl, upd_same, RpL.mono (same_upd (S1.freshF hp)) _ _ r1⟩
theorem de_lst (h : DA X W es t) : DE X W (.List es pos) (dLst t) := .of (pe_lst (X := X) cA_pa) fun F H σ δ Q S q => by
  refine (h.run F H σ δ _ S q).imp fun xs H1 h1 => ?_
  obtain ⟨F1, ds, δ1, e1, S1, r1, hz, q1⟩ := h1
  refine ⟨by rw [r1.length]; exact hz, fun p hp => ?_⟩
  exact (DQ.mkO (d := .lst ds) S1 hp ⟨xs, upd_same, r1⟩ q1).back e1
end
end DD

set_option Elab.async false
set_option linter.all false
set_option maxRecDepth 100000
set_option maxHeartbeats 4000000
namespace DD
open PySem PySem.Spec PyProof.Rows L2

structure EndsD where
  nx : Env' → Prop
  rt : B → Env' → Prop
  bk : Env' → Prop := fun _ => False
  ct : Env' → Prop := fun _ => False
abbrev TSD := EndsD → Env' → Prop
def NQ (K : PySem.W.Frag) (W : Fix) (F : Hp) (N : Env' → Prop) : L2.St → Hp → Prop := fun σ' H' => ∃ (F' : Hp) (δ' : Env'), Same F F' ∧ SD K W F' H' σ' δ' ∧ N δ'
def MQ (K : PySem.W.Frag) (W : Fix) (N : Env' → Prop) : L2.St → Hp → Prop := fun σ' H' => ∃ (F' : Hp) (δ' : Env'), SD K W F' H' σ' δ' ∧ N δ'
def UQ (K : PySem.W.Frag) (W : Fix) (R : B → Env' → Prop) : VK := fun v H' => (∃ F σ', DQ K W F σ' R v H') ∨ ∃ (F : Hp) (σ' : L2.St) (δ' : Env') (dss : List (List D)), SD K W F H' σ' δ' ∧ Fresh K W F H' dss v ∧ R (.t dss) δ'
def toE (K : PySem.W.Frag) (W : Fix) (D : EndsD) : Ends where
  nx := MQ K W D.nx
  rt := UQ K W D.rt
  bk := MQ K W D.bk
  ct := MQ K W D.ct
structure DS (X : Cx) (W : Fix) (st : Stmt) (t : TSD) : Prop where
  run : ∀ (F H : Hp) (σ : L2.St) (δ : Env') (D : EndsD), SD X.K W F H σ δ → t D δ → cS X st (toE X.K W D) σ H
structure DSs (X : Cx) (W : Fix) (st : List Stmt) (t : TSD) : Prop where
  run : ∀ (F H : Hp) (σ : L2.St) (δ : Env') (D : EndsD), SD X.K W F H σ δ → t D δ → cSs X st (toE X.K W D) σ H
theorem NQ.back {K : PySem.W.Frag} {W : Fix} {F F1 H : Hp} {σ : L2.St} {N : Env' → Prop} (e : Same F F1) (h : NQ K W F1 N σ H) : NQ K W F N σ H := by
  obtain ⟨F', δ', e1, h⟩ := h
  exact ⟨F', δ', e.trans e1, h⟩
theorem cS.imp {X : Cx} {st : Stmt} {D D' : Ends} {σ : L2.St} {H : Hp} (h : cS X st D σ H) (h1 : ∀ σ H, D.nx σ H → D'.nx σ H) (h2 : ∀ v H, D.rt v H → D'.rt v H) (h3 : ∀ σ H, D.bk σ H → D'.bk σ H) (h4 : ∀ σ H, D.ct σ H → D'.ct σ H) : cS X st D' σ H :=
  fun pins s I => thn (h pins s I) fun _ _ q => SP.imp q h1 h2 h3 h4
theorem cSs.imp {X : Cx} {st : List Stmt} {D D' : Ends} {σ : L2.St} {H : Hp} (h : cSs X st D σ H) (h1 : ∀ σ H, D.nx σ H → D'.nx σ H) (h2 : ∀ v H, D.rt v H → D'.rt v H) (h3 : ∀ σ H, D.bk σ H → D'.bk σ H) (h4 : ∀ σ H, D.ct σ H → D'.ct σ H) : cSs X st D' σ H :=
  fun pins s I => thn (h pins s I) fun _ _ q => SP.imp q h1 h2 h3 h4
section
variable {X : Cx} {W : Fix} {st : Stmt} {rest : List Stmt} {e c : Expr} {t u : TSD} {te : TD} {tc : TDT} {pos : Pos}
def dNext : TSD := fun D δ => D.nx δ
def dSeq (t u : TSD) : TSD := fun D δ => t { D with nx := u D } δ
theorem dss_nil : DSs X W [] dNext := ⟨fun F H σ δ D S q pins s I => (pss_nil (X := X)).run pins s σ H _ I ⟨F, δ, S, q⟩⟩
theorem dss_cons (h : DS X W st t) (g : DSs X W rest u) : DSs X W (st :: rest) (dSeq t u) := by
  refine ⟨fun F H σ δ D S q pins s I => (pss_cons (X := X) cS_ps cSs_pss).run pins s σ H _ I ?_⟩
  refine (h.run F H σ δ _ S q).imp (fun σ1 H1 h1 => ?_) (fun _ _ h => h) (fun _ _ h => h) (fun _ _ h => h)
  obtain ⟨F1, δ1, S1, q1⟩ := h1
  exact g.run F1 H1 σ1 δ1 D S1 q1
theorem dss_one (h : DS X W st t) : DSs X W [st] t := ⟨fun F H σ δ D S q pins s I => (pss_one (X := X) cS_ps).run pins s σ H _ I (h.run F H σ δ D S q)⟩
theorem cS_of {t : TS} {D : Ends} {σ : L2.St} {H : Hp} (h : PS X st t) (q : t D σ H) : cS X st D σ H := fun pins s I => h.run pins s σ H D I q
theorem DS.of {ts : TS} (h : PS X st ts) (hh : ∀ (F H : Hp) (σ : L2.St) (δ : Env') (D : EndsD), SD X.K W F H σ δ → t D δ → ts (toE X.K W D) σ H) : DS X W st t :=
  ⟨fun F H σ δ D S q => cS_of h (hh F H σ δ D S q)⟩
def dDrop (te : TD) : TSD := fun D δ => te δ fun _ δ1 => D.nx δ1
theorem ds_expr (h : DE X W e te) (hs : swapsWith e none pos.line X.env = pure false := by rfl) : DS X W (.Expr e pos) (dDrop te) := .of (ps_expr (X := X) cE_pe hs) fun F H σ δ D S q => by
  refine (h.run F H σ δ _ S q).imp fun v H1 h1 => ?_
  obtain ⟨F1, b, δ1, e1, S1, _, _, q1⟩ := h1
  exact ⟨F1, δ1, S1, q1⟩
def dRet (te : TD) : TSD := fun D δ => te δ D.rt
theorem ds_ret (h : DE X W e te) : DS X W (.Return (some e) pos) (dRet te) := .of (ps_ret (X := X) cE_pe) fun F H σ δ D S q =>
  (h.run F H σ δ _ S q).imp fun v H1 h1 => .inl ⟨F, σ, h1⟩
def dRetN : TSD := fun D δ => D.rt (.p .non) δ
def dIfS (tc : TDT) (t u : TSD) : TSD := fun D δ => tc δ fun k δ1 => if k = true then t D δ1 else u D δ1
theorem ds_if {a b : List Stmt} (hc : DT X W c tc) (ha : DSs X W a t) (hb : DSs X W b u) : DS X W (.If c a b pos) (dIfS tc t u) := .of (ps_if (X := X) cT_pt cSs_pss cSs_pss) fun F H σ δ D S q => by
  refine (hc.run F H σ δ _ S q).imp fun k H1 h1 => ?_
  obtain ⟨F1, δ1, e1, S1, q1⟩ := h1
  cases k with
  | true =>
    rw [if_pos rfl] at q1 ⊢
    exact ha.run F1 H1 σ δ1 D S1 q1
  | false =>
    rw [if_neg Bool.false_ne_true] at q1 ⊢
    exact hb.run F1 H1 σ δ1 D S1 q1
def dSet (i : Nat) (te : TD) : TSD := fun D δ => te δ fun b δ1 => D.nx (δ1.set i (some b))
theorem ds_set {i : Nat} {x : Str} {pos' : Pos} (hN : X.N.Nodup) (hi : X.N[i]? = some x) (hx : Loc X.env.scope x) (h : DE X W e te) (hs : swapsWith e (some (.Name x pos')) pos.line X.env = pure false := by rfl)
    (hf : X.fn x = true ∨ X.env.scope.names.lookup x = some .local := by first | exact .inl rfl | exact .inr rfl | assumption) : DS X W (.Assign [.Name x pos'] e pos) (dSet i te) := .of (ps_set (X := X) hN hi hx cE_pe hs hf) fun F H σ δ D S q => by
  refine (h.run F H σ δ _ S q).imp fun v H1 h1 => ?_
  obtain ⟨F1, b, δ1, e1, S1, r1, s1, q1⟩ := h1
  exact ⟨F1, δ1.set i (some b), S1.put r1 fun hb j c h1 h2 _ => s1 hb j c h1 h2, q1⟩

abbrev TGD := D → Env' → (Env' → Prop) → Prop
abbrev TGDs := List D → Env' → (Env' → Prop) → Prop
structure DG (X : Cx) (W : Fix) (tg : Expr) (g : TGD) : Prop where
  run : ∀ (F H : Hp) (σ : L2.St) (δ : Env') (d : D) (v : V) (Q : Env' → Prop), SD X.K W F H σ δ → Rp X.K F d v → g d δ Q →
    ∀ (pins : List (Addr × Obj)) (s : Shared) (u : Value), Inv X pins σ H s → RelV v u → wpAny (model X.prog X.w) X.A (assign tg X.env u) (fun _ s' => ∃ σ' H', Inv X pins σ' H' s' ∧ NQ X.K W F Q σ' H') X.xe s
structure DGs (X : Cx) (W : Fix) (tgs : List Expr) (g : TGDs) : Prop where
  run : ∀ (F H : Hp) (σ : L2.St) (δ : Env') (ds : List D) (vs : List V) (Q : Env' → Prop), SD X.K W F H σ δ → RpL X.K F ds vs → g ds δ Q →
    ∀ (pins : List (Addr × Obj)) (s : Shared) (us : List Value), Inv X pins σ H s → Vals vs us →
      wpAny (model X.prog X.w) X.A (assignInOrder ((assignEach tgs X.env).map (·.2)) us) (fun _ s' => ∃ σ' H', Inv X pins σ' H' s' ∧ NQ X.K W F Q σ' H') X.xe s
def cG (X : Cx) (tg : Expr) : TG := fun v σ H Q => ∀ (pins : List (Addr × Obj)) (s : Shared) (u : Value), Inv X pins σ H s → RelV v u → wpAny (model X.prog X.w) X.A (assign tg X.env u) (fun _ s' => ∃ σ' H', Inv X pins σ' H' s' ∧ Q σ' H') X.xe s
def cGs (X : Cx) (tgs : List Expr) : TGs := fun vs σ H Q => ∀ (pins : List (Addr × Obj)) (s : Shared) (us : List Value), Inv X pins σ H s → Vals vs us →
  wpAny (model X.prog X.w) X.A (assignInOrder ((assignEach tgs X.env).map (·.2)) us) (fun _ s' => ∃ σ' H', Inv X pins σ' H' s' ∧ Q σ' H') X.xe s
theorem cG_pg {tg : Expr} : PG X tg (cG X tg) := ⟨fun pins s _ _ _ u _ I r h => h pins s u I r⟩
theorem cGs_pgs {tgs : List Expr} : PGs X tgs (cGs X tgs) := ⟨fun pins s _ _ _ u _ I r h => h pins s u I r⟩
def gN (i : Nat) : TGD := fun d δ Q => Q (δ.set i (some (.p d)))
theorem dg_name {i : Nat} {x : Str} (hN : X.N.Nodup) (hi : X.N[i]? = some x) (hx : Loc X.env.scope x) (hf : X.fn x = true ∨ X.env.scope.names.lookup x = some .local := by first | exact .inl rfl | exact .inr rfl | assumption) : DG X W (.Name x pos) (gN i) :=
  ⟨fun F H σ δ d v Q S r q pins s u I ru => (pg_name (X := X) hN hi hx hf).run pins s σ H v u _ I ru ⟨F, δ.set i (some (.p d)), Same.refl F, S.put (b := .p d) r (fun z => by cases z), q⟩⟩
def gsNil : TGDs := fun ds δ Q => ds = [] ∧ Q δ
def gsCons (g : TGD) (gs : TGDs) : TGDs := fun ds δ Q => ∃ d r, ds = d :: r ∧ g d δ fun δ1 => gs r δ1 Q
theorem dgs_nil : DGs X W [] gsNil := ⟨fun F H σ δ ds vs Q S r q pins s us I ru => by
  obtain ⟨rfl, q⟩ := q
  unfold RpL at r
  exact (pgs_nil (X := X)).run pins s σ H vs us _ I ru ⟨r, F, δ, Same.refl F, S, q⟩⟩
theorem dgs_cons {tg : Expr} {tgs : List Expr} {g : TGD} {gs : TGDs} (h : DG X W tg g) (k : DGs X W tgs gs) (hs : (assignEach (tg :: tgs) X.env).map (·.2) = assign tg X.env :: (assignEach tgs X.env).map (·.2) := by rfl) : DGs X W (tg :: tgs) (gsCons g gs) :=
  ⟨fun F H σ δ ds vs Q S r q pins s us I ru => by
    obtain ⟨d, dr, rfl, q⟩ := q
    unfold RpL at r
    obtain ⟨x, xr, rfl, r1, r2⟩ := r
    refine (pgs_cons (X := X) cG_pg cGs_pgs hs).run pins s σ H _ us _ I ru ⟨x, xr, rfl, fun pins s u I ru => ?_⟩
    refine thn (h.run F H σ δ d x _ S r1 q pins s u I ru) fun _ s' h1 => ?_
    obtain ⟨σ', H', I', F1, δ1, e1, S1, q1⟩ := h1
    exact ⟨σ', H', I', fun pins s us I ru => thn (k.run F1 H' σ' δ1 dr xr Q S1 (RpL.mono e1 _ _ r2) q1 pins s us I ru) fun _ s2 ⟨σ2, H2, I2, h2⟩ => ⟨σ2, H2, I2, h2.back e1⟩⟩⟩
def gT (n : Nat) (gs : TGDs) : TGD := fun d δ Q => ∃ ds, d = .tup ds ∧ ds.length = n ∧ gs ds δ Q
theorem dg_tup {es : List Expr} {k n : Nat} {gs : TGDs} (hc : X.calm = true) (h : DGs X W es gs) (hn : (assignEach es X.env).length = n := by rfl) (hst : (assignEach es X.env).findIdx? (·.1) = none := by rfl) : DG X W (.Tuple es k pos) (gT n gs) :=
  ⟨fun F H σ δ d v Q S r q pins s u I ru => by
    obtain ⟨ds, rfl, hl, q⟩ := q
    unfold Rp at r
    obtain ⟨a, xs, rfl, h1, h2⟩ := r
    refine (pg_tup (X := X) hc cGs_pgs hn hst).run pins s σ H _ u _ I ru ⟨a, xs, rfl, SqT.of (S.fh _ _ h1), by rw [h2.length, hl], ?_⟩
    exact fun pins s us I ru => h.run F H σ δ ds xs Q S h2 q pins s us I ru⟩
def dAsg (te : TD) (g : TGD) : TSD := fun D δ => dp te δ fun d δ1 => g d δ1 D.nx
theorem ds_asg {tg : Expr} {g : TGD} (h : DE X W e te) (hg : DG X W tg g) (hs : swapsWithSole [tg] e pos.line X.env = pure false := by rfl) (hw : swappedStores [tg] e X.env = pure none := by rfl)
    (h1 : (assignEach [tg] X.env).map (·.2) = [assign tg X.env] := by rfl) : DS X W (.Assign [tg] e pos) (dAsg te g) := .of (ps_asg (X := X) cE_pe cG_pg hs hw h1) fun F H σ δ D S q => by
  refine (h.plain S q).imp fun v H1 h1 => ?_
  obtain ⟨F1, d, δ1, e1, S1, r1, q1⟩ := h1
  exact fun pins s u I ru => thn (hg.run F1 H1 σ δ1 d v _ S1 r1 q1 pins s u I ru) fun _ s2 ⟨σ2, H2, I2, F2, δ2, _, S2, q2⟩ => ⟨σ2, H2, I2, F2, δ2, S2, q2⟩
end

def Yields (K : PySem.W.Frag) (F1 : Hp) (J : It) (ds : List D) : Prop :=
  ∀ (W : Fix) (F' H' : Hp) (σ : L2.St) (δ : Env') (i : Nat), SD K W F' H' σ δ → Same F1 F' →
    (∀ d, ds[i]? = some d → J.go i H' ∧ ∀ x H'', J.yld i H' x H'' → ∃ F'', Same F' F'' ∧ SD K W F'' H'' σ δ ∧ Rp K F'' d x ∧ ∀ b o, H' b = some o → H'' b = some o) ∧ (ds[i]? = none → J.stop i H')
abbrev TDI := Env' → (List D → Env' → Prop) → Prop
def cI (X : Cx) (tg iter : Expr) : TI := fun σ H R => ∀ (pins : List (Addr × Obj)) (s : Shared), Inv X pins σ H s →
  wpAny (model X.prog X.w) X.A (eval iter X.env) (fun v s1 => wpAny (model X.prog X.w) X.A (pyIter v) (PIE X pins σ tg R) X.xe s1) X.xe s
theorem cI_pi {X : Cx} {tg iter : Expr} : PI X tg iter (cI X tg iter) := ⟨fun pins s _ _ _ I h => h pins s I⟩
def IQ (K : PySem.W.Frag) (W : Fix) (F : Hp) (σ : L2.St) (Q : List D → Env' → Prop) : It → Hp → Prop := fun J H1 =>
  ∃ (F1 : Hp) (ds : List D) (δ1 : Env'), Same F F1 ∧ SD K W F1 H1 σ δ1 ∧ Yields K F1 J ds ∧ Q ds δ1
structure DI (X : Cx) (W : Fix) (tg iter : Expr) (wi : TDI) : Prop where
  run : ∀ (F H : Hp) (σ : L2.St) (δ : Env') (Q : List D → Env' → Prop), SD X.K W F H σ δ → wi δ Q → cI X tg iter σ H (IQ X.K W F σ Q)
def IQ0 (K : PySem.W.Frag) (W : Fix) (F : Hp) (σ : L2.St) (Q : List D → Env' → Prop) : It → Hp → Prop := fun J H1 =>
  ∃ (F1 : Hp) (ds : List D) (δ1 : Env'), Same F F1 ∧ SD K W F1 H1 σ δ1 ∧ Yields K (fun _ => none) J ds ∧ Q ds δ1
structure DI0 (X : Cx) (W : Fix) (tg iter : Expr) (wi : TDI) : Prop where
  run : ∀ (F H : Hp) (σ : L2.St) (δ : Env') (Q : List D → Env' → Prop), SD X.K W F H σ δ → wi δ Q → cI X tg iter σ H (IQ0 X.K W F σ Q)
theorem DI0.di {X : Cx} {W : Fix} {tg iter : Expr} {wi : TDI} (h : DI0 X W tg iter wi) : DI X W tg iter wi := by
  refine ⟨fun F H σ δ Q S q pins s I => thn (h.run F H σ δ Q S q pins s I) fun v s1 h1 => thn h1 fun itv s2 h2 => ?_⟩
  obtain ⟨it, fp, tn, J, H1, e1, I1, T1, n1, f1, F1, ds, δ1, eF, S1, Y, q1⟩ := h2
  exact ⟨it, fp, tn, J, H1, e1, I1, T1, n1, f1, F1, ds, δ1, eF, S1, fun W' F' H' σ' δ' i S' _ => Y W' F' H' σ' δ' i S' (fun _ _ z => by cases z), q1⟩
theorem PI.or {X : Cx} {tg iter : Expr} {w1 w2 : TI} (h1 : PI X tg iter w1) (h2 : PI X tg iter w2) : PI X tg iter (fun σ H R => w1 σ H R ∨ w2 σ H R) :=
  ⟨fun pins s σ H R I h => h.elim (h1.run pins s σ H R I) (h2.run pins s σ H R I)⟩
def signs (x : Str) : List D := x.cps.toList.map fun c => .str ⟨#[c]⟩
def walked : D → Option (List D)
  | .lst ds => some ds
  | .tup ds => some ds
  | .str x => some (signs x)
  | _ => none
def iAny (te : TD) : TDI := fun δ Q => dp te δ fun d δ1 => ∃ ds, walked d = some ds ∧ Q ds δ1
theorem yields_lst {K : PySem.W.Frag} {F : Hp} {a : Addr} {xs : List V} {ds : List D} (h : F a = some (.lst xs)) (r : RpL K F ds xs) : Yields K F (Itl K a) ds := by
  intro W F' H' σ δ i S e
  have h1 : SqL K H' a xs := SqL.of (S.fh _ _ (e _ _ h))
  refine ⟨fun d hd => ?_, fun hn => ?_⟩
  · obtain ⟨x, hx, rx⟩ := r.get hd
    refine ⟨⟨xs, x, h1, hx⟩, fun y H'' hy => ?_⟩
    obtain ⟨rfl, hy⟩ := hy
    have := hy xs h1
    rw [hx] at this
    cases this
    exact ⟨F', Same.refl F', S, Rp.mono e d x rx, fun _ _ h => h⟩
  · refine ⟨xs, h1, ?_⟩
    rw [r.length]
    exact List.getElem?_eq_none_iff.mp hn
theorem yields_tup {K : PySem.W.Frag} {F : Hp} {a : Addr} {xs : List V} {ds : List D} (h : SqT K F a xs) (r : RpL K F ds xs) : Yields K F (Itt K a) ds := by
  intro W F' H' σ δ i S e
  have h1 : SqT K H' a xs := sqT_mono (e.trans S.fh) h
  refine ⟨fun d hd => ?_, fun hn => ?_⟩
  · obtain ⟨x, hx, rx⟩ := r.get hd
    refine ⟨⟨xs, x, h1, hx⟩, fun y H'' hy => ?_⟩
    obtain ⟨rfl, hy⟩ := hy
    have := hy xs h1
    rw [hx] at this
    cases this
    exact ⟨F', Same.refl F', S, Rp.mono e d x rx, fun _ _ h => h⟩
  · refine ⟨xs, h1, ?_⟩
    rw [r.length]
    exact List.getElem?_eq_none_iff.mp hn
theorem yields_str {K : PySem.W.Frag} {F : Hp} {x : Str} : Yields K F (Its x) (signs x) := by
  intro W F' H' σ δ i S e
  refine ⟨fun d hd => ?_, fun hn => ?_⟩
  · unfold signs at hd
    rw [List.getElem?_map] at hd
    cases hc : x.cps.toList[i]? with
    | none =>
      rw [hc] at hd
      cases hd
    | some c =>
      rw [hc] at hd
      cases hd
      have hi : i < x.cps.size := by
        have := (List.getElem?_eq_some_iff.mp hc).1
        rw [Array.length_toList] at this
        exact this
      refine ⟨hi, fun y H'' hy => ?_⟩
      obtain ⟨rfl, c', hc', rfl⟩ := hy
      rw [← Array.getElem?_toList, hc] at hc'
      cases hc'
      exact ⟨F', Same.refl F', S, by unfold Rp; rfl, fun _ _ h => h⟩
  · unfold signs at hn
    have := List.getElem?_eq_none_iff.mp hn
    rw [List.length_map, Array.length_toList] at this
    exact this
theorem fpNew {X : Cx} {pins : List (Addr × Obj)} {σ : L2.St} {H : Hp} {s : Shared} (I : Inv X pins σ H s) : ∀ b ∈ [s.heap.objs.size], FpOk X pins H b := fun b hb => by
  have e : b = s.heap.objs.size := by simpa using hb
  rw [e]
  exact I.fpOk (Nat.le_refl _) (I.hok.fresh (Nat.le_refl _))
theorem di_any {X : Cx} {W : Fix} {tg iter : Expr} {te : TD} (h : DE X W iter te) : DI X W tg iter (iAny te) := by
  refine ⟨fun F H σ δ Q S q pins s I => ?_⟩
  refine thn (h.plain S q pins s I) fun v s1 h1 => ?_
  obtain ⟨x, H1, I1, r1, F1, d, δ1, e1, S1, rp, ds, hw, q1⟩ := h1
  cases d <;> first | (cases hw; done) | skip
  all_goals cases hw
  · rename_i z
    unfold Rp at rp
    subst rp
    obtain ⟨t, rfl⟩ := r1
    have fin : IQ X.K W F σ Q (Its z) H1 := ⟨F1, _, δ1, e1, S1, yields_str, q1⟩
    by_cases ha : z.cps.all (· < 128) = true
    · exact wpAny_pyIter_ascii ha (pi_one (tk := s1.toks) I1 _ (turn_str _ z t "str_ascii_iterator" (.inl rfl)) ⟨_, Heap.get?_push_size _ rfl, rfl, rfl⟩ fin)
    · exact wpAny_pyIter_wide (Bool.eq_false_iff.mpr ha) (pi_one (tk := s1.toks) I1 _ (turn_str _ z t "str_iterator" (.inr rfl)) ⟨_, Heap.get?_push_size _ rfl, rfl, rfl⟩ fin)
  · unfold Rp at rp
    obtain ⟨a, xs, rfl, h2, h3⟩ := rp
    cases r1
    obtain ⟨its, rv, p, hz⟩ := I1.list (SqL.of (S1.fh _ _ h2))
    refine wpAny_pyIter_list p.isList ?_
    exact ⟨s1.heap.objs.size, [s1.heap.objs.size], _, _, H1, rfl, I1.kept (t' := s1.toks) (fun b o e => Heap.get?_push_of_some _ e), turn_list a _,
      ⟨_, Heap.get?_push_size _ rfl, rfl, rfl⟩, fpNew I1, F1, _, δ1, e1, S1, yields_lst h2 h3, q1⟩
  · unfold Rp at rp
    obtain ⟨a, xs, rfl, h2, h3⟩ := rp
    cases r1
    obtain ⟨its, rv, p, hz⟩ := I1.tuple (SqT.of (S1.fh _ _ h2))
    refine wpAny_pyIter_tuple (show s1.heap.IsTuple a its.toArray from p) ?_
    exact ⟨s1.heap.objs.size, [s1.heap.objs.size], _, _, H1, rfl, I1.kept (t' := s1.toks) (fun b o e => Heap.get?_push_of_some _ e), turn_tuple a _,
      ⟨_, Heap.get?_push_size _ rfl, rfl, rfl⟩, fpNew I1, F1, _, δ1, e1, S1, yields_tup (SqT.of h2) h3, q1⟩
def upto (lo : Int) (n : Nat) : List D := (List.range n).map fun i => .int (lo + (i : Nat))
theorem yields_rng {K : PySem.W.Frag} {F : Hp} {lo : Int} {n : Nat} : Yields K F (Itr lo n) (upto lo n) := by
  intro W F' H' σ δ i S e
  refine ⟨fun d hd => ?_, fun hn => ?_⟩
  · unfold upto at hd
    rw [List.getElem?_map] at hd
    by_cases hi : i < n
    · rw [List.getElem?_range hi] at hd
      cases hd
      refine ⟨hi, fun y H'' hy => ?_⟩
      obtain ⟨rfl, rfl⟩ := hy
      exact ⟨F', Same.refl F', S, by unfold Rp; rfl, fun _ _ h => h⟩
    · rw [List.getElem?_eq_none (by rw [List.length_range]; omega)] at hd
      cases hd
  · unfold upto at hn
    have := List.getElem?_eq_none_iff.mp hn
    rw [List.length_map, List.length_range] at this
    exact this
def iR1 (t : TDA) : TDI := fun δ Q => t δ fun ds δ1 => ∃ j : Int, ds = [.int j] ∧ -(2 ^ 62) ≤ j ∧ j < 2 ^ 62 ∧ Q (upto 0 j.toNat) δ1
def iR2 (t : TDA) : TDI := fun δ Q => t δ fun ds δ1 => ∃ i j : Int, ds = [.int i, .int j] ∧ (-(2 ^ 62) ≤ i ∧ i < 2 ^ 62 ∧ -(2 ^ 62) ≤ j ∧ j < 2 ^ 62) ∧ Q (upto i (j - i).toNat) δ1
theorem rpInt {K : PySem.W.Frag} {F : Hp} {i : Int} {v : V} (h : Rp K F (.int i) v) : v = .int i := by
  unfold Rp at h
  exact h
theorem rpL1 {K : PySem.W.Frag} {F : Hp} {d : D} {vs : List V} (h : RpL K F [d] vs) : ∃ v, vs = [v] ∧ Rp K F d v := by
  unfold RpL at h
  obtain ⟨x, r, rfl, h1, h2⟩ := h
  unfold RpL at h2
  rw [h2]
  exact ⟨x, rfl, h1⟩
theorem rpL2 {K : PySem.W.Frag} {F : Hp} {d e : D} {vs : List V} (h : RpL K F [d, e] vs) : ∃ v u, vs = [v, u] ∧ Rp K F d v ∧ Rp K F e u := by
  unfold RpL at h
  obtain ⟨x, r, rfl, h1, h2⟩ := h
  obtain ⟨u, rfl, h3⟩ := rpL1 h2
  exact ⟨x, u, rfl, h1, h3⟩
theorem di_range1 {X : Cx} {W : Fix} {tg a : Expr} {t : TDA} {p pos : Pos} (hg : Gl X "range") (hm : X.mg "range" = none) (h : DA X W [a] t) (hs : starEach [a] X.env = [(false, eval a X.env)] := by rfl) : DI0 X W tg (.Call (.Name "range" p) [a] [] pos) (iR1 t) := by
  refine ⟨fun F H σ δ Q S q pins s I => (pi_range1 (X := X) (ta := cA X [a]) hg hm cA_pa hs).run pins s σ H _ I ?_⟩
  refine (h.run F H σ δ _ S q).imp fun vs H1 h1 => ?_
  obtain ⟨F1, ds, δ1, e1, S1, r1, j, rfl, h2, h3, q1⟩ := h1
  obtain ⟨v, rfl, rv⟩ := rpL1 r1
  exact ⟨j, by rw [rpInt rv], h2, h3, F1, _, δ1, e1, S1, yields_rng, q1⟩
section
variable {K : PySem.W.Frag} {W : Fix} {F F' H H' : Hp} {σ σ' : L2.St} {δ δ' : Env'}
theorem SD.clear (S : SD K W F H σ δ) {a : Addr} {o : HO} (h1 : W.F0 a = none) (h2 : W.H0 a = some o) : F a = none := by
  cases e : F a with
  | none => rfl
  | some u =>
    rcases S.fr a u e with z | z
    · rw [h1] at z
      cases z
    · rw [h2] at z
      cases z
theorem RB.re {W' : Fix} {b : B} {v : V} (h : RB K W F H b v) (e1 : W'.H0 = W.H0) (e2 : W'.P = W.P) (e3 : ∀ a o, W.F0 a = none → W.H0 a = some o → W'.F0 a = none) (e4 : W'.T = W.T) : RB K W' F H b v := by
  cases b with
  | t dss => exact h
  | m dss =>
    obtain ⟨t, as, h0, h1, h2, h3, h4⟩ := h
    refine ⟨t, as, h0, h1, h2, h3, fun k a ds q1 q2 => ?_⟩
    obtain ⟨z0, z1, z2, ys, z3, z4⟩ := h4 k a ds q1 q2
    exact ⟨by rw [e4]; exact z0, e3 a _ z1 z3, by rw [e2]; exact z2, ys, by rw [e1]; exact z3, z4⟩
  | p d => exact h
  | n ds =>
    obtain ⟨t, xs, h1, h2, h3, h4⟩ := h
    exact ⟨t, xs, h1, h2, h3, fun a ha => ⟨(h4 a ha).1, by rw [e1]; exact (h4 a ha).2⟩⟩
  | o d =>
    obtain ⟨a, h1, h2, h3, h4⟩ := h
    exact ⟨a, h1, h2, by rw [e1]; exact h3, h4⟩
  | u w n =>
    obtain ⟨p, x, y, z, h1, h2, h3, h4⟩ := h
    refine ⟨p, x, y, z, h1, h2, ?_, h4⟩
    rw [e1, e2]
    exact h3
  | s d =>
    obtain ⟨a, h1, h2, h3, h4⟩ := h
    exact ⟨a, h1, h2, by rw [e2]; exact h3, h4⟩
def Fix.at (W : Fix) (F : Hp) (E : Addr → List D → Env' → Prop) : Fix := { F0 := F, H0 := W.H0, P := W.P, E := E, T := W.T, tm := W.tm }
theorem SD.into (S : SD K W F H σ δ) (E : Addr → List D → Env' → Prop) : SD K (W.at F E) F H σ δ where
  f0 := Same.refl F
  h0 := S.h0
  fh := S.fh
  fr := fun _ _ h => .inl h
  fp := S.fp
  len := S.len
  get := fun i b h => by
    obtain ⟨v, h1, h2⟩ := S.get i b h
    exact ⟨v, h1, h2.re rfl rfl (fun a o z1 z2 => S.clear z1 z2) rfl⟩
  sep := S.sep
theorem SD.outof {E : Addr → List D → Env' → Prop} (S : SD K W F H σ δ) (T : SD K (W.at F E) F' H' σ' δ') : SD K W F' H' σ' δ' where
  f0 := S.f0.trans T.f0
  h0 := T.h0
  fh := T.fh
  fr := fun a o h => by
    rcases T.fr a o h with z | z
    · exact S.fr a o z
    · exact .inr z
  fp := T.fp
  len := T.len
  get := fun i b h => by
    obtain ⟨v, h1, h2⟩ := T.get i b h
    exact ⟨v, h1, h2.re rfl rfl (fun a o z1 _ => S.f0.free z1) rfl⟩
  sep := T.sep
theorem MQ.outof {E : Addr → List D → Env' → Prop} {N : Env' → Prop} (S : SD K W F H σ δ) (h : MQ K (W.at F E) N σ' H') : MQ K W N σ' H' := by
  obtain ⟨F', δ', T, q⟩ := h
  exact ⟨F', δ', S.outof T, q⟩
theorem UQ.outof {E : Addr → List D → Env' → Prop} {R : B → Env' → Prop} {v : V} (S : SD K W F H σ δ) (h : UQ K (W.at F E) R v H') : UQ K W R v H' := by
  rcases h with ⟨F0, σ', F', b, δ', e, T, r, sp, q⟩ | ⟨F', σ', δ', dss, T, r, q⟩
  · exact .inl ⟨F0, σ', F', b, δ', e, S.outof T, r.re rfl rfl (fun a o z1 _ => S.f0.free z1) rfl, sp, q⟩
  · exact .inr ⟨F', σ', δ', dss, S.outof T, r, q⟩
end

def ExcRep (K : PySem.W.Frag) (F : Hp) (C : Addr) (ds : List D) (cls : Value) (d : Option Addr) : Prop :=
  cls = .ref C ∧ ((ds = [] ∧ d = none) ∨ ∃ dd x dv, ds = [dv] ∧ d = some dd ∧ F dd = some (.xd [("value", x)]) ∧ Rp K F dv x)
theorem ExcRep.mono {K : PySem.W.Frag} {F F' : Hp} {C : Addr} {ds : List D} {cls : Value} {d : Option Addr} (e : Same F F') (h : ExcRep K F C ds cls d) : ExcRep K F' C ds cls d := by
  obtain ⟨h1, h⟩ := h
  refine ⟨h1, ?_⟩
  rcases h with h | ⟨dd, x, dv, h2, h3, h4, h5⟩
  · exact .inl h
  · exact .inr ⟨dd, x, dv, h2, h3, e _ _ h4, Rp.mono e _ _ h5⟩
def WXd (K : PySem.W.Frag) (W : Fix) : WX := fun cls d σ H => ∃ (F : Hp) (δ : Env') (C : Addr) (ds : List D), SD K W F H σ δ ∧ ExcRep K F C ds cls d ∧ W.E C ds δ

structure TkE (X : Cx) (W : Fix) (E : Addr → List D → Env' → Prop) : Prop where
  eq : W.E = E
  tk : L2N.Takes X (WXd X.K W)
theorem TkE.at {X : Cx} {W : Fix} {E : Addr → List D → Env' → Prop} {F H : Hp} {σ : L2.St} {δ : Env'} (h : TkE X W E) (S : SD X.K W F H σ δ) : TkE X (W.at F W.E) E :=
  ⟨h.eq, h.tk.imp fun _ _ _ _ z => by
    obtain ⟨F', δ', C, ds, T, er, q⟩ := z
    exact ⟨F', δ', C, ds, S.outof T, er, q⟩⟩

section
variable {X : Cx} {W : Fix} {E0 : Addr → List D → Env' → Prop} {tg iter c : Expr} {body : List Stmt} {wi : TDI} {g : TGD} {tb : TSD} {tc : TDT} {pos : Pos}
def forL (g : TGD) (tb : TSD) (Z : EndsD) : List D → Env' → Prop
  | [], δ => Z.nx δ
  | d :: ds, δ => g d δ fun δ1 => tb { Z with nx := forL g tb Z ds, ct := forL g tb Z ds, bk := Z.nx } δ1
def dFor (wi : TDI) (g : TGD) (tb : TSD) : TSD := fun Z δ => wi δ fun ds δ1 => forL g tb Z ds δ1
theorem ds_for (te : TkE X W E0) (hp : PassesOwn (model X.prog X.w) X.A X.env X.xe) (hc : X.calm = true) (hi : DI X W tg iter wi) (hg : ∀ W', DG X W' tg g) (hb : ∀ W', TkE X W' E0 → DSs X W' body tb)
    (hs : ∀ x, foldedSetIterable iter X.env x = pure x := by intro _; rfl) : DS X W (.For tg iter body [] pos) (dFor wi g tb) := by
  refine .of (ps_for (X := X) hp hc cI_pi cG_pg cSs_pss hs) fun F H σ δ D S q pins s I => ?_
  refine thn (hi.run F H σ δ _ S q pins s I) fun v s1 h1 => thn h1 fun itv s2 h2 => ?_
  obtain ⟨it, fp, tn, J, H1, e1, I1, T1, n1, f1, F1, ds, δ1, eF, S1, Y, q1⟩ := h2
  have te1 := te.at S1
  have St := S1.into W.E
  generalize hW : W.at F1 W.E = W1 at te1 St
  have hF : W1.F0 = F1 := by rw [← hW] <;> rfl
  have out : ∀ {F2 H2 : Hp} {σ2 : L2.St} {δ2 : Env'}, SD X.K W1 F2 H2 σ2 δ2 → SD X.K W F2 H2 σ2 δ2 := fun {F2 H2 σ2 δ2} T => S1.outof (E := W.E) (by rw [hW]; exact T)
  refine ⟨it, fp, tn, J, H1, e1, I1, T1, n1, f1, ?_⟩
  refine ⟨fun i m σ' H' => m = ds.length - i ∧ i ≤ ds.length ∧ ∃ F' δ', SD X.K W1 F' H' σ' δ' ∧ forL g tb D (ds.drop i) δ', ⟨_, rfl, Nat.zero_le _, F1, δ1, St, q1⟩, ?_⟩
  rintro i m σ' H' ⟨rfl, hi, F', δ', S', q'⟩
  have e' : Same F1 F' := by
    have := S'.f0
    rw [hF] at this
    exact this
  obtain ⟨y1, y2⟩ := Y W1 F' H' σ' δ' i S' e'
  by_cases hl : i < ds.length
  · have hd : ds[i]? = some ds[i] := List.getElem?_eq_getElem hl
    rw [List.drop_eq_getElem_cons hl] at q'
    obtain ⟨hgo, hy⟩ := y1 _ hd
    refine .inr ⟨hgo, MQ X.K W1 (forL g tb D (ds.drop (i + 1))), fun σ2 H2 h2 => ?_, fun x H2 hyl => ?_⟩
    · obtain ⟨F2, δ2, S2, q2⟩ := h2
      exact ⟨ds.length - (i + 1), by omega, rfl, hl, F2, δ2, S2, q2⟩
    · obtain ⟨F2, e2, S2, rx, _⟩ := hy x H2 hyl
      intro pins s u I ru
      refine thn ((hg W1).run F2 H2 σ' δ' _ x _ S2 rx q' pins s u I ru) fun _ s' h3 => ?_
      obtain ⟨σ3, H3, I3, F3, δ3, e3, S3, q3⟩ := h3
      refine ⟨σ3, H3, I3, ((hb W1 te1).run F3 H3 σ3 δ3 _ S3 q3).imp (fun _ _ h => h) (fun _ _ h => ?_) (fun _ _ h => ?_) fun _ _ h => h⟩
      · exact UQ.outof (E := W.E) S1 (by rw [hW]; exact h)
      · exact MQ.outof (E := W.E) S1 (by rw [hW]; exact h)
  · have e0 : i = ds.length := by omega
    subst e0
    rw [List.drop_length] at q'
    exact .inl ⟨y2 (List.getElem?_eq_none (Nat.le_refl _)), F', δ', out S', q'⟩
theorem ds_forR (hp : PassesOwn (model X.prog X.w) X.A X.env X.xe) (hc : X.calm = true) (hi : DI0 X W tg iter wi) (hg : DG X W tg g) (hb : DSs X W body tb)
    (hs : ∀ x, foldedSetIterable iter X.env x = pure x := by intro _; rfl) : DS X W (.For tg iter body [] pos) (dFor wi g tb) := by
  refine .of (ps_for (X := X) hp hc cI_pi cG_pg cSs_pss hs) fun F H σ δ D S q pins s I => ?_
  refine thn (hi.run F H σ δ _ S q pins s I) fun v s1 h1 => thn h1 fun itv s2 h2 => ?_
  obtain ⟨it, fp, tn, J, H1, e1, I1, T1, n1, f1, F1, ds, δ1, eF, S1, Y, q1⟩ := h2
  refine ⟨it, fp, tn, J, H1, e1, I1, T1, n1, f1, ?_⟩
  refine ⟨fun i m σ' H' => m = ds.length - i ∧ i ≤ ds.length ∧ ∃ F' δ', SD X.K W F' H' σ' δ' ∧ forL g tb D (ds.drop i) δ', ⟨_, rfl, Nat.zero_le _, F1, δ1, S1, q1⟩, ?_⟩
  rintro i m σ' H' ⟨rfl, hi, F', δ', S', q'⟩
  obtain ⟨y1, y2⟩ := Y W F' H' σ' δ' i S' (fun _ _ z => by cases z)
  by_cases hl : i < ds.length
  · have hd : ds[i]? = some ds[i] := List.getElem?_eq_getElem hl
    rw [List.drop_eq_getElem_cons hl] at q'
    obtain ⟨hgo, hy⟩ := y1 _ hd
    refine .inr ⟨hgo, MQ X.K W (forL g tb D (ds.drop (i + 1))), fun σ2 H2 h2 => ?_, fun x H2 hyl => ?_⟩
    · obtain ⟨F2, δ2, S2, q2⟩ := h2
      exact ⟨ds.length - (i + 1), by omega, rfl, hl, F2, δ2, S2, q2⟩
    · obtain ⟨F2, e2, S2, rx, _⟩ := hy x H2 hyl
      intro pins s u I ru
      refine thn (hg.run F2 H2 σ' δ' _ x _ S2 rx q' pins s u I ru) fun _ s' h3 => ?_
      obtain ⟨σ3, H3, I3, F3, δ3, e3, S3, q3⟩ := h3
      exact ⟨σ3, H3, I3, hb.run F3 H3 σ3 δ3 _ S3 q3⟩
  · have e0 : i = ds.length := by omega
    subst e0
    rw [List.drop_length] at q'
    exact .inl ⟨y2 (List.getElem?_eq_none (Nat.le_refl _)), F', δ', S', q'⟩
def whileN (tc : TDT) (tb : TSD) (Z : EndsD) : Nat → Env' → Prop
  | 0, _ => False
  | n + 1, δ => tc δ fun k δ1 => if k = true then tb { Z with nx := whileN tc tb Z n, ct := whileN tc tb Z n, bk := Z.nx } δ1 else Z.nx δ1
def dWhile (tc : TDT) (tb : TSD) : TSD := fun Z δ => ∃ n, whileN tc tb Z n δ
theorem ds_while (hp : PassesOwn (model X.prog X.w) X.A X.env X.xe) (hc : DT X W c tc) (hb : DSs X W body tb) : DS X W (.While c body [] pos) (dWhile tc tb) := by
  refine .of (ps_while (X := X) hp cT_pt cSs_pss) fun F H σ δ D S q => ?_
  obtain ⟨n, q⟩ := q
  refine ⟨fun m σ' H' => ∃ F' δ', SD X.K W F' H' σ' δ' ∧ whileN tc tb D m δ', ⟨n, F, δ, S, q⟩, ?_⟩
  rintro m σ' H' ⟨F', δ', S', q'⟩
  cases m with
  | zero => exact q'.elim
  | succ m =>
    refine (hc.run F' H' σ' δ' _ S' q').imp fun k H1 h1 => ?_
    obtain ⟨F1, δ1, e1, S1, q1⟩ := h1
    cases k with
    | true =>
      rw [if_pos rfl] at q1 ⊢
      refine ⟨MQ X.K W (whileN tc tb D m), fun σ2 H2 h2 => ?_, ?_⟩
      · obtain ⟨F2, δ2, S2, q2⟩ := h2
        exact ⟨m, Nat.lt_succ_self m, F2, δ2, S2, q2⟩
      · exact hb.run F1 H1 σ' δ1 _ S1 q1
    | false =>
      rw [if_neg Bool.false_ne_true] at q1 ⊢
      exact ⟨F1, δ1, S1, q1⟩
end
end DD

set_option Elab.async false
set_option linter.all false
set_option maxRecDepth 100000
set_option maxHeartbeats 4000000
namespace DD
open PySem PySem.Spec PyProof.Rows L2

def wipeE (δ : Env') : List Nat → Env'
  | [] => δ
  | v :: vs => (wipeE δ vs).set v none
theorem wipeE_some {δ : Env'} {i : Nat} {b : B} : ∀ {vs : List Nat}, (wipeE δ vs)[i]? = some (some b) → δ[i]? = some (some b) ∧ i ∉ vs
  | [], h => ⟨h, by simp⟩
  | v :: vs, h => by
    unfold wipeE at h
    by_cases hi : v = i
    · subst hi
      by_cases hv : v < (wipeE δ vs).length
      · rw [List.getElem?_set_self hv] at h
        cases h
      · rw [List.getElem?_eq_none (by simpa using hv)] at h
        cases h
    · rw [List.getElem?_set_ne hi] at h
      obtain ⟨h1, h2⟩ := wipeE_some h
      refine ⟨h1, fun z => ?_⟩
      rcases List.mem_cons.mp z with z | z
      · exact hi z.symm
      · exact h2 z
theorem wipe_off {σ : L2.St} {i : Nat} : ∀ {vs : List Nat}, i ∉ vs → (wipe σ vs)[i]? = σ[i]?
  | [], _ => rfl
  | v :: vs, h => by
    unfold wipe
    have h1 : v ≠ i := fun z => h (by rw [z]; exact List.mem_cons_self)
    rw [List.getElem?_set_ne h1]
    exact wipe_off fun z => h (List.mem_cons_of_mem _ z)
theorem wipe_set {x : V} {i : Nat} : ∀ {vs : List Nat} {σ : L2.St}, i ∈ vs → wipe (σ.set i (some x)) vs = wipe σ vs
  | v :: vs, σ, h => by
    unfold wipe
    by_cases e : i ∈ vs
    · rw [wipe_set e]
    · rcases List.mem_cons.mp h with rfl | h
      · apply List.ext_getElem?
        intro j
        by_cases ej : j = i
        · subst ej
          by_cases hl : j < σ.length
          · rw [List.getElem?_set_self (by rw [wipe_length, List.length_set]; exact hl), List.getElem?_set_self (by rw [wipe_length]; exact hl)]
          · rw [List.getElem?_eq_none (by rw [List.length_set, wipe_length, List.length_set]; omega), List.getElem?_eq_none (by rw [List.length_set, wipe_length]; omega)]
        · rw [List.getElem?_set_ne (Ne.symm ej), List.getElem?_set_ne (Ne.symm ej)]
          by_cases em : j ∈ vs
          · -- both none or out of range
            have aux : ∀ τ : L2.St, τ.length = σ.length → (wipe τ vs)[j]? = (wipe σ vs)[j]? := fun τ ht => by
              have n1 : ∀ (ρ : L2.St) (x : V), (wipe ρ vs)[j]? ≠ some (some x) := fun ρ x z => (wipe_some z).2 em
              by_cases hl : j < σ.length
              · have h1 : j < (wipe τ vs).length := by rw [wipe_length, ht]; exact hl
                have h2 : j < (wipe σ vs).length := by rw [wipe_length]; exact hl
                rw [List.getElem?_eq_getElem h1, List.getElem?_eq_getElem h2]
                cases q1 : (wipe τ vs)[j] with
                | some x => exact absurd (by rw [List.getElem?_eq_getElem h1, q1]) (n1 τ x)
                | none =>
                  cases q2 : (wipe σ vs)[j] with
                  | some x => exact absurd (by rw [List.getElem?_eq_getElem h2, q2]) (n1 σ x)
                  | none => rfl
              · rw [List.getElem?_eq_none (by rw [wipe_length, ht]; omega), List.getElem?_eq_none (by rw [wipe_length]; omega)]
            exact aux _ (List.length_set)
          · rw [wipe_off em, wipe_off em, List.getElem?_set_ne (Ne.symm ej)]
      · exact absurd h e
section
variable {K : PySem.W.Frag} {W : Fix} {F H : Hp} {σ τ : L2.St} {δ : Env'} {vs : List Nat}
theorem SD.slots (S : SD K W F H σ δ) (hl : τ.length = σ.length) (h : ∀ (i : Nat) (b : B), δ[i]? = some (some b) → τ[i]? = σ[i]?) : SD K W F H τ δ where
  f0 := S.f0
  h0 := S.h0
  fh := S.fh
  fr := S.fr
  fp := S.fp
  len := by rw [hl, S.len]
  get := fun i b e => by
    rw [h i b e]
    exact S.get i b e
  sep := fun i j b c v ne h1 h2 h3 h4 h5 => by
    rw [h i b h1] at h5
    rw [h j c h3]
    exact S.sep i j b c v ne h1 h2 h3 h4 h5
theorem SD.wipeE (S : SD K W F H σ δ) : ∀ vs : List Nat, SD K W F H σ (wipeE δ vs)
  | [] => S
  | v :: vs => by
    unfold DD.wipeE
    exact (SD.wipeE S vs).drop
theorem SD.wiped (S : SD K W F H σ δ) : SD K W F H (wipe σ vs) (DD.wipeE δ vs) :=
  (S.wipeE vs).slots (wipe_length σ vs) fun i b e => wipe_off (wipeE_some e).2
theorem hold_tm {W : Fix} {a : Addr} {o : HO} : ∀ b, W.T b = true → ∃ u, upd W.H0 a o b = some u := fun b h => by
  by_cases q : b = a
  · rw [q]
    exact ⟨o, upd_same⟩
  · rw [upd_ne q]
    exact W.tm b h
def Fix.hold (W : Fix) (a : Addr) (o : HO) : Fix := { W with H0 := upd W.H0 a o, tm := hold_tm }
theorem Fix.apart {W : Fix} {a b : Addr} (h : W.T b = true) (h0 : W.H0 a = none) : b ≠ a := fun z => by
  obtain ⟨o, e⟩ := W.tm b h
  rw [z, h0] at e
  cases e
theorem SD.held {a : Addr} {o : HO} (S : SD K W F H σ δ) (ha : H a = some o) (h0 : W.H0 a = none) (hF : F a = none) (hP : W.P ≠ some a) (hn : ∀ (j : Nat) (c : B), δ[j]? = some (some c) → c.own = true → σ[j]? ≠ some (some (.ref a))) : SD K (W.hold a o) F H σ δ where
  f0 := S.f0
  h0 := fun b u e n => by
    by_cases q : b = a
    · subst q
      have e : upd W.H0 b o b = some u := e
      rw [upd_same] at e
      cases e
      exact ha
    · have e : upd W.H0 a o b = some u := e
      rw [upd_ne q] at e
      exact S.h0 b u e n
  fh := S.fh
  fr := fun b u e => by
    rcases S.fr b u e with h | h
    · exact .inl h
    · refine .inr ?_
      have q : b ≠ a := fun z => by
        rw [z, hF] at e
        cases e
      show upd W.H0 a o b = none
      rw [upd_ne q]
      exact h
  fp := fun b h => by
    obtain ⟨h1, h2, u, h3⟩ := S.fp b h
    refine ⟨h1, h2, u, ?_⟩
    have q : b ≠ a := fun z => by
      rw [z, h0] at h3
      cases h3
    show upd W.H0 a o b = some u
    rw [upd_ne q]
    exact h3
  len := S.len
  get := fun i b e => by
    obtain ⟨v, h1, h2⟩ := S.get i b e
    refine ⟨v, h1, ?_⟩
    cases b with
    | t dss => exact h2
    | m dss =>
      obtain ⟨t, as, e0, g1, g2, g3, g4⟩ := h2
      refine ⟨t, as, e0, g1, g2, g3, fun k c ds q1 q2 => ?_⟩
      obtain ⟨z0, z1, z2, ys, z3, z4⟩ := g4 k c ds q1 q2
      have q : c ≠ a := W.apart z0 h0
      exact ⟨z0, z1, z2, ys, by show upd W.H0 a o c = _; rw [upd_ne q]; exact z3, z4⟩
    | p d => exact h2
    | n ds =>
      obtain ⟨t, xs, rfl, h3, h4, h5⟩ := h2
      refine ⟨t, xs, rfl, h3, h4, fun c hc => ?_⟩
      obtain ⟨⟨ys, h6⟩, h7⟩ := h5 c hc
      have q : c ≠ a := fun z => by
        rw [z, hF] at h6
        cases h6
      exact ⟨⟨ys, h6⟩, by show upd W.H0 a o c = none; rw [upd_ne q]; exact h7⟩
    | o d =>
      obtain ⟨c, rfl, h3, h4, h5⟩ := h2
      have q : c ≠ a := fun z => hn i _ e rfl (by rw [h1, z])
      exact ⟨c, rfl, h3, by show upd W.H0 a o c = none; rw [upd_ne q]; exact h4, h5⟩
    | u w n =>
      obtain ⟨c, x, y, z, rfl, h3, h4, h5⟩ := h2
      have q : c ≠ a := fun z => hn i _ e rfl (by rw [h1, z])
      exact ⟨c, x, y, z, rfl, h3, by show if w = true then _ else upd W.H0 a o c = none; rw [upd_ne q]; exact h4, h5⟩
    | s d => exact h2
  sep := S.sep
theorem SD.unheld {a : Addr} {o : HO} (S : SD K (W.hold a o) F H σ δ) (h0 : W.H0 a = none) (hF : W.F0 a = none) (hP : W.P ≠ some a) :
    SD K W F H σ δ ∧ H a = some o ∧ F a = none ∧ ∀ (j : Nat) (c : B), δ[j]? = some (some c) → c.own = true → σ[j]? ≠ some (some (.ref a)) := by
  have e0 : (W.hold a o).H0 a = some o := upd_same
  have ge : ∀ b, b ≠ a → (W.hold a o).H0 b = W.H0 b := fun b q => upd_ne q
  have back : ∀ b, (W.hold a o).H0 b = none → b ≠ a ∧ W.H0 b = none := fun b h => by
    have q : b ≠ a := fun z => by
      rw [z, e0] at h
      cases h
    rw [ge b q] at h
    exact ⟨q, h⟩
  have hFa : F a = none := by
    cases q : F a with
    | none => rfl
    | some u =>
      rcases S.fr a u q with h | h
      · have h : W.F0 a = some u := h
        rw [hF] at h
        cases h
      · exact absurd rfl (back a h).1
  refine ⟨⟨S.f0, fun b u e n => ?_, S.fh, fun b u e => ?_, fun b h => ?_, S.len, fun i b e => ?_, S.sep⟩, S.h0 a o e0 hP, hFa, fun j c e1 e2 e3 => ?_⟩
  · have q : b ≠ a := fun z => by
      rw [z, h0] at e
      cases e
    exact S.h0 b u (by rw [ge b q]; exact e) n
  · rcases S.fr b u e with h | h
    · exact .inl h
    · exact .inr (back b h).2
  · obtain ⟨h1, h2, u, h3⟩ := S.fp b h
    have q : b ≠ a := fun z => by
      subst z
      exact hP h
    rw [ge b q] at h3
    exact ⟨h1, h2, u, h3⟩
  · obtain ⟨v, h1, h2⟩ := S.get i b e
    refine ⟨v, h1, ?_⟩
    cases b with
    | t dss => exact h2
    | m dss =>
      obtain ⟨t, as, e3, g1, g2, g3, g4⟩ := h2
      refine ⟨t, as, e3, g1, g2, g3, fun k c ds q1 q2 => ?_⟩
      obtain ⟨z0, z1, z2, ys, z3, z4⟩ := g4 k c ds q1 q2
      have q : c ≠ a := W.apart z0 h0
      exact ⟨z0, z1, z2, ys, by rw [← ge c q]; exact z3, z4⟩
    | p d => exact h2
    | n ds =>
      obtain ⟨t, xs, rfl, h3, h4, h5⟩ := h2
      exact ⟨t, xs, rfl, h3, h4, fun c hc => ⟨(h5 c hc).1, (back c (h5 c hc).2).2⟩⟩
    | o d =>
      obtain ⟨c, rfl, h3, h4, h5⟩ := h2
      exact ⟨c, rfl, h3, (back c h4).2, h5⟩
    | u w n =>
      obtain ⟨c, x, y, z, rfl, h3, h4, h5⟩ := h2
      refine ⟨c, x, y, z, rfl, h3, ?_, h5⟩
      cases w with
      | true => exact h4
      | false =>
        simp only [Bool.false_eq_true, if_false] at h4 ⊢
        exact (back c h4).2
    | s d => exact h2
  · obtain ⟨v, h1, h2⟩ := S.get j c e1
    rw [e3] at h1
    cases h1
    cases c with
    | t dss => cases e2
    | m dss => cases e2
    | p d => cases e2
    | n ds => cases e2
    | o d =>
      obtain ⟨c, e, h3, h4, h5⟩ := h2
      cases e
      exact (back a h4).1 rfl
    | u w n =>
      obtain ⟨c, x, y, z, e, h3, h4, h5⟩ := h2
      cases e
      cases w with
      | true => exact hP h4
      | false =>
        simp only [Bool.false_eq_true, if_false] at h4
        exact (back a h4).1 rfl
    | s d =>
      obtain ⟨c, e, h3, h4, h5⟩ := h2
      cases e
      exact hP h4
end

section
theorem SD.turn {K : PySem.W.Frag} {W : Fix} {F H : Hp} {σ : L2.St} {δ : Env'} {a : Addr} {o : HO} (S : SD K W F H σ δ) (h0 : W.H0 a = none) (hF : F a = none) (hn : ∀ (j : Nat) (c : B), δ[j]? = some (some c) → c.own = true → σ[j]? ≠ some (some (.ref a))) :
    SD K W F (upd H a o) σ δ where
  f0 := S.f0
  h0 := fun b u e n => by
    have q : b ≠ a := fun z => by
      rw [z, h0] at e
      cases e
    rw [upd_ne q]
    exact S.h0 b u e n
  fh := fun b u e => by
    have q : b ≠ a := fun z => by
      rw [z, hF] at e
      cases e
    rw [upd_ne q]
    exact S.fh b u e
  fr := S.fr
  fp := fun b h => by
    obtain ⟨h1, ⟨u, h2⟩, v, h3⟩ := S.fp b h
    have q : b ≠ a := fun z => by
      rw [z, h0] at h3
      cases h3
    rw [upd_ne q]
    exact ⟨h1, ⟨u, h2⟩, v, h3⟩
  len := S.len
  get := fun i b e => by
    obtain ⟨v, h1, h2⟩ := S.get i b e
    refine ⟨v, h1, h2.keep (Same.refl F) (fun c u hv hb h3 => ?_) (fun _ _ _ h => h)⟩
    have q : c ≠ a := fun z => hn i b e hb (by rw [h1, hv, z])
    rw [upd_ne q]
    exact h3
  sep := S.sep
end
structure DGc (X : Cx) (W : Fix) (tg : Expr) (vs : List Nat) (g : TGD) : Prop where
  run : ∀ (F H : Hp) (σ : L2.St) (δ : Env') (d : D) (v : V) (Q : Env' → Prop), SD X.K W F H σ δ → Rp X.K F d v → g d δ Q →
    ∀ (pins : List (Addr × Obj)) (s : Shared) (u : Value), Inv X pins σ H s → RelV v u → wpAny (model X.prog X.w) X.A (assign tg X.env u) (fun _ s' => ∃ σ' H', Inv X pins σ' H' s' ∧ wipe σ' vs = wipe σ vs ∧ NQ X.K W F Q σ' H') X.xe s
structure DGcs (X : Cx) (W : Fix) (tgs : List Expr) (vs : List Nat) (g : TGDs) : Prop where
  run : ∀ (F H : Hp) (σ : L2.St) (δ : Env') (ds : List D) (xs : List V) (Q : Env' → Prop), SD X.K W F H σ δ → RpL X.K F ds xs → g ds δ Q →
    ∀ (pins : List (Addr × Obj)) (s : Shared) (us : List Value), Inv X pins σ H s → Vals xs us →
      wpAny (model X.prog X.w) X.A (assignInOrder ((assignEach tgs X.env).map (·.2)) us) (fun _ s' => ∃ σ' H', Inv X pins σ' H' s' ∧ wipe σ' vs = wipe σ vs ∧ NQ X.K W F Q σ' H') X.xe s
section
variable {X : Cx} {W : Fix} {vs : List Nat} {pos : Pos}
theorem dgc_name {i : Nat} {x : Str} (hv : i ∈ vs) (hN : X.N.Nodup) (hi : X.N[i]? = some x) (hx : Loc X.env.scope x) (hf : X.fn x = true ∨ X.env.scope.names.lookup x = some .local := by first | exact .inl rfl | exact .inr rfl | assumption) : DGc X W (.Name x pos) vs (gN i) :=
  ⟨fun F H σ δ d v Q S r q pins s u I ru => (pg_name (X := X) hN hi hx hf).run pins s σ H v u (fun σ' H' => wipe σ' vs = wipe σ vs ∧ NQ X.K W F Q σ' H') I ru ⟨wipe_set hv, F, δ.set i (some (.p d)), Same.refl F, S.put (b := .p d) r (fun z => by cases z), q⟩⟩
theorem dgcs_nil : DGcs X W [] vs gsNil := ⟨fun F H σ δ ds xs Q S r q pins s us I ru => by
  obtain ⟨rfl, q⟩ := q
  unfold RpL at r
  exact (pgs_nil (X := X)).run pins s σ H xs us (fun σ' H' => wipe σ' vs = wipe σ vs ∧ NQ X.K W F Q σ' H') I ru ⟨r, rfl, F, δ, Same.refl F, S, q⟩⟩
theorem dgcs_cons {tg : Expr} {tgs : List Expr} {g : TGD} {gs : TGDs} (h : DGc X W tg vs g) (k : DGcs X W tgs vs gs) (hs : (assignEach (tg :: tgs) X.env).map (·.2) = assign tg X.env :: (assignEach tgs X.env).map (·.2) := by rfl) : DGcs X W (tg :: tgs) vs (gsCons g gs) :=
  ⟨fun F H σ δ ds xs Q S r q pins s us I ru => by
    obtain ⟨d, dr, rfl, q⟩ := q
    unfold RpL at r
    obtain ⟨x, xr, rfl, r1, r2⟩ := r
    refine (pgs_cons (X := X) cG_pg cGs_pgs hs).run pins s σ H _ us (fun σ' H' => wipe σ' vs = wipe σ vs ∧ NQ X.K W F Q σ' H') I ru ⟨x, xr, rfl, fun pins s u I ru => ?_⟩
    refine thn (h.run F H σ δ d x _ S r1 q pins s u I ru) fun _ s' h1 => ?_
    obtain ⟨σ', H', I', w1, F1, δ1, e1, S1, q1⟩ := h1
    exact ⟨σ', H', I', fun pins s us I ru => thn (k.run F1 H' σ' δ1 dr xr Q S1 (RpL.mono e1 _ _ r2) q1 pins s us I ru) fun _ s2 ⟨σ2, H2, I2, w2, h2⟩ => ⟨σ2, H2, I2, w2.trans w1, h2.back e1⟩⟩⟩
theorem dgc_tup {es : List Expr} {k n : Nat} {gs : TGDs} (hc : X.calm = true) (h : DGcs X W es vs gs) (hn : (assignEach es X.env).length = n := by rfl) (hst : (assignEach es X.env).findIdx? (·.1) = none := by rfl) : DGc X W (.Tuple es k pos) vs (gT n gs) :=
  ⟨fun F H σ δ d v Q S r q pins s u I ru => by
    obtain ⟨ds, rfl, hl, q⟩ := q
    unfold Rp at r
    obtain ⟨a, xs, rfl, h1, h2⟩ := r
    refine (pg_tup (X := X) hc cGs_pgs hn hst).run pins s σ H _ u (fun σ' H' => wipe σ' vs = wipe σ vs ∧ NQ X.K W F Q σ' H') I ru ⟨a, xs, rfl, SqT.of (S.fh _ _ h1), by rw [h2.length, hl], ?_⟩
    exact fun pins s us I ru => h.run F H σ δ ds xs Q S h2 q pins s us I ru⟩

structure DTs (X : Cx) (W : Fix) (ifs : List Expr) (t : TDT) : Prop where
  run : ∀ (F H : Hp) (σ : L2.St) (δ : Env') (Q : Bool → Env' → Prop), SD X.K W F H σ δ → t δ Q → ∀ (pins : List (Addr × Obj)) (s : Shared), Inv X pins σ H s →
    wpAny (model X.prog X.w) X.A (forIn ifs true fun c r => if r = true then do let ok ← isTrue c X.env (eval c X.env); pure (ForInStep.yield ok) else pure (ForInStep.yield r)) (TP X pins σ (TQ X.K W F σ Q)) X.xe s
def dYes : TDT := fun δ Q => Q true δ
theorem dts_nil : DTs X W [] dYes := ⟨fun F H σ δ Q S q pins s I => (pts_nil (X := X)).run pins s σ H _ I ⟨F, δ, Same.refl F, S, q⟩⟩
theorem dts_one {c : Expr} {t : TDT} (h : DT X W c t) : DTs X W [c] t := ⟨fun F H σ δ Q S q pins s I => (pts_one (X := X) cT_pt).run pins s σ H _ I (h.run F H σ δ Q S q)⟩
end

def lcL (g : TGD) (tt : TDT) (te : TD) (vs : List Nat) (Q : List D → Env' → Prop) : List D → List D → Env' → Prop
  | [], acc, δ => Q acc δ
  | d :: ds, acc, δ => g d δ fun δ1 => tt δ1 fun k δ2 => if k = true then dp te δ2 fun y δ3 => acc.length < sizeLine ∧ lcL g tt te vs Q ds (acc ++ [y]) (wipeE δ3 vs) else lcL g tt te vs Q ds acc (wipeE δ2 vs)
def dLc (wi : TDI) (g : TGD) (tt : TDT) (te : TD) (vs : List Nat) : TD := fun δ Q => wi δ fun ds δ1 => lcL g tt te vs (fun acc δ2 => Q (.o (.lst acc)) δ2) ds [] (wipeE δ1 vs)

section
variable {X : Cx} {W : Fix} {elt tg iter : Expr} {ifs : List Expr} {scope : Scope} {own : List (Str × Nat)} {pos : Pos} {wi : TDI} {g : TGD} {tt : TDT} {te : TD} {σ : L2.St} {F H : Hp} {δ : Env'} {Q : B → Env' → Prop}
abbrev blkX (X : Cx) (scope : Scope) (s : Shared) (H : Hp) (C : Addr) (cl : List (Str × Addr)) (fp : List Addr) : Cx := X.blk s H scope (compEnvC scope cl C X.env) fp
def bE (X : Cx) (scope : Scope) (e : Expr) : TE := fun σ H Q => ∀ (s0 : Shared) (H0 : Hp) (C : Addr) (cl : List (Str × Addr)) (fp : List Addr), cE (blkX X scope s0 H0 C cl fp) e σ H Q
def bG (X : Cx) (scope : Scope) (tg : Expr) : TG := fun v σ H Q => ∀ (s0 : Shared) (H0 : Hp) (C : Addr) (cl : List (Str × Addr)) (fp : List Addr), cG (blkX X scope s0 H0 C cl fp) tg v σ H Q
def bTs (X : Cx) (scope : Scope) (ifs : List Expr) : TT := fun σ H Q => ∀ (s0 : Shared) (H0 : Hp) (C : Addr) (cl : List (Str × Addr)) (fp : List Addr) (pins : List (Addr × Obj)) (s : Shared), Inv (blkX X scope s0 H0 C cl fp) pins σ H s →
  wpAny (model X.prog X.w) X.A (forIn ifs true fun c r => if r = true then do let ok ← isTrue c (blkX X scope s0 H0 C cl fp).env (eval c (blkX X scope s0 H0 C cl fp).env); pure (ForInStep.yield ok) else pure (ForInStep.yield r)) (TP (blkX X scope s0 H0 C cl fp) pins σ Q) (blkX X scope s0 H0 C cl fp).xe s
theorem lc_run (hg : ∀ (s : Shared) (H : Hp) (C : Addr) (cl : List (Str × Addr)) (fp : List Addr) (W' : Fix), DGc (blkX X scope s H C cl fp) W' tg (own.map (·.2)) g)
    (ht : ∀ (s : Shared) (H : Hp) (C : Addr) (cl : List (Str × Addr)) (fp : List Addr) (W' : Fix), DTs (blkX X scope s H C cl fp) W' ifs tt)
    (he : ∀ (s : Shared) (H : Hp) (C : Addr) (cl : List (Str × Addr)) (fp : List Addr) (W' : Fix), DE (blkX X scope s H C cl fp) W' elt te)
    (hi : DI X W tg iter wi) (S : SD X.K W F H σ δ) (q : dLc wi g tt te (own.map (·.2)) δ Q) {Z : VK} (hZ : ∀ v H', DQ X.K W F σ Q v H' → Z v H') :
    tLc (cI X tg iter) (bG X scope tg) (bTs X scope ifs) (bE X scope elt) (own.map (·.2)) σ H Z := by
  intro pins s I
  refine thn (hi.run F H σ δ _ S q pins s I) fun v s1 h1 => thn h1 fun itv s2 h2 => ?_
  obtain ⟨it, fp, tn, J, H1, e1, I1, T1, n1, f1, F1, ds, δ1, eF, S1, Y, q1⟩ := h2
  refine ⟨it, fp, tn, J, H1, e1, I1, T1, n1, f1, fun Dl hD => ?_⟩
  have hF1 : F1 Dl = none := S1.freshF hD
  have h0D : W.H0 Dl = none := S1.fresh0 hD
  have hF0 : W.F0 Dl = none := S1.f0.free hF1
  have hPD : W.P ≠ some Dl := fun z => by
    obtain ⟨_, ⟨o, ho⟩, _⟩ := S1.fp Dl z
    rw [hD] at ho
    cases ho
  refine ⟨fun i m H' => m = ds.length - i ∧ i ≤ ds.length ∧ ∃ F' δ' acc xs, Same F1 F' ∧ SD X.K (W.hold Dl (.lst xs)) F' H' (wipe σ (own.map (·.2))) δ' ∧ RpL X.K F' acc xs ∧ (∀ (j : Nat) (b : B), δ'[j]? = some (some b) → j ∉ own.map (·.2)) ∧
      lcL g tt te (own.map (·.2)) (fun acc δ2 => Q (.o (.lst acc)) δ2) (ds.drop i) acc δ', ⟨_, rfl, Nat.zero_le _, F1, wipeE δ1 (own.map (·.2)), [], [], Same.refl F1, ?_, .nil, fun j b h => (wipeE_some h).2, q1⟩, ?_⟩
  · refine (SD.newO (S1.wiped (vs := own.map (·.2))) hD).held upd_same h0D hF1 hPD fun j c e1 e2 e3 => ?_
    obtain ⟨v, h1, h2⟩ := (S1.wiped (vs := own.map (·.2))).get j c e1
    rw [e3] at h1
    cases h1
    obtain ⟨a, o, e, h4, _⟩ := h2.there e2
    cases e
    rw [hD] at h4
    cases h4
  rintro i m H' ⟨rfl, hil, F', δ', acc, xs, e', S', ra, hv, q'⟩
  obtain ⟨y1, y2⟩ := Y _ F' H' _ δ' i S' e'
  by_cases hl : i < ds.length
  · have hd : ds[i]? = some ds[i] := List.getElem?_eq_getElem hl
    rw [List.drop_eq_getElem_cons hl] at q'
    obtain ⟨hgo, hy⟩ := y1 _ hd
    refine .inr ⟨hgo, fun H2 => ∃ F' δ' acc xs, Same F1 F' ∧ SD X.K (W.hold Dl (.lst xs)) F' H2 (wipe σ (own.map (·.2))) δ' ∧ RpL X.K F' acc xs ∧ (∀ (j : Nat) (b : B), δ'[j]? = some (some b) → j ∉ own.map (·.2)) ∧
      lcL g tt te (own.map (·.2)) (fun acc δ2 => Q (.o (.lst acc)) δ2) (ds.drop (i + 1)) acc δ', fun H2 h2 => ⟨_, by omega, rfl, hl, h2⟩, fun x H2 hyl => ?_⟩
    obtain ⟨F2, e2, S2, rx, _⟩ := hy x H2 hyl
    intro s0 H0 C cl fp pins s u I ru
    refine thn ((hg s0 H0 C cl fp _).run F2 H2 _ δ' _ x _ S2 rx q' pins s u I ru) fun _ s' h3 => ?_
    obtain ⟨σ3, H3, I3, w3, F3, δ3, e3, S3, q3⟩ := h3
    refine ⟨σ3, H3, I3, ?_, fun s0 H0 C cl fp pins s I => ?_⟩
    · rw [w3]
      apply List.ext_getElem?
      intro j
      by_cases em : j ∈ own.map (·.2)
      · have n1 : ∀ (ρ : L2.St) (x : V), (wipe ρ (own.map (·.2)))[j]? ≠ some (some x) := fun ρ x z => (wipe_some z).2 em
        have l1 : (wipe (wipe σ (own.map (·.2))) (own.map (·.2))).length = (wipe σ (own.map (·.2))).length := wipe_length _ _
        by_cases hj : j < (wipe σ (own.map (·.2))).length
        · rw [List.getElem?_eq_getElem hj, List.getElem?_eq_getElem (by rw [l1]; exact hj)]
          cases z1 : (wipe (wipe σ (own.map (·.2))) (own.map (·.2)))[j]'(by rw [l1]; exact hj) with
          | some x => exact absurd (by rw [List.getElem?_eq_getElem (by rw [l1]; exact hj), z1]) (n1 _ x)
          | none =>
            cases z2 : (wipe σ (own.map (·.2)))[j]'hj with
            | some x => exact absurd (by rw [List.getElem?_eq_getElem hj, z2]) (n1 _ x)
            | none => rfl
        · rw [List.getElem?_eq_none (by omega), List.getElem?_eq_none (by omega)]
      · rw [wipe_off em]
    refine thn ((ht s0 H0 C cl fp _).run F3 H3 σ3 δ3 _ S3 q3 pins s I) fun b s4 h4 => ?_
    obtain ⟨H4, I4, F4, δ4, e4, S4, q4⟩ := h4
    refine ⟨H4, I4, ?_⟩
    have back : ∀ {F5 H5 : Hp} {δ5 : Env'} {o : HO}, SD X.K (W.hold Dl o) F5 H5 σ3 δ5 → SD X.K (W.hold Dl o) F5 H5 (wipe σ (own.map (·.2))) (wipeE δ5 (own.map (·.2))) := fun {F5 H5 δ5 o} S5 => by
      have z := S5.wiped (vs := own.map (·.2))
      rw [w3] at z
      refine z.slots ?_ fun j b h => ?_
      · rw [wipe_length, wipe_length, wipe_length]
      · rw [wipe_off (wipeE_some h).2, wipe_off (wipeE_some h).2, wipe_off (wipeE_some h).2]
    cases b with
    | false =>
      simp only [Bool.false_eq_true, if_false] at q4 ⊢
      exact ⟨F4, _, acc, xs, ((e'.trans e2).trans e3).trans e4, back S4, RpL.mono ((e2.trans e3).trans e4) _ _ ra, fun j b h => (wipeE_some h).2, q4⟩
    | true =>
      simp only [if_true] at q4 ⊢
      intro s0 H0 C cl fp pins s I
      refine thn ((he s0 H0 C cl fp _).plain S4 q4 pins s I) fun u s5 h5 => ?_
      obtain ⟨y, H5, I5, ry, F5, d5, δ5, e5, S5, r5, hz, q5⟩ := h5
      obtain ⟨S6, hD5, hF5, hn5⟩ := S5.unheld h0D hF0 hPD
      have S7 : SD X.K (W.hold Dl (.lst (xs ++ [y]))) F5 (upd H5 Dl (.lst (xs ++ [y]))) σ3 δ5 := (S6.turn h0D hF5 hn5).held upd_same h0D hF5 hPD hn5
      exact ⟨y, H5, I5, ry, xs, hD5, by rw [ra.length]; exact hz, F5, _, acc ++ [d5], xs ++ [y], (((e'.trans e2).trans e3).trans e4).trans e5, back S7, .append (RpL.mono (((e2.trans e3).trans e4).trans e5) _ _ ra) (.cons r5 .nil), fun j b h => (wipeE_some h).2, q5⟩
  · have e0 : i = ds.length := by omega
    subst e0
    rw [List.drop_length] at q'
    refine .inl ⟨y2 (List.getElem?_eq_none (Nat.le_refl _)), hZ _ _ ?_⟩
    obtain ⟨S6, hD6, hF6, hn6⟩ := S'.unheld h0D hF0 hPD
    have S7 : SD X.K W F' H' σ δ' := S6.slots (wipe_length σ _).symm fun j b h => (wipe_off (hv j b h)).symm
    refine ⟨F', .o (.lst acc), δ', eF.trans e', S7, ⟨Dl, rfl, hF6, h0D, xs, hD6, ra⟩, fun _ j c h1 h2 => ?_, q'⟩
    rw [← wipe_off (σ := σ) (hv j c h1)]
    exact hn6 j c h1 h2
theorem de_lc (hc : X.calm = true) (hN : X.N.Nodup) (hi : DI X W tg iter wi) (ok : BlkOk X.N X.env.scope scope own)
    (hg : ∀ (s : Shared) (H : Hp) (C : Addr) (cl : List (Str × Addr)) (fp : List Addr) (W' : Fix), DGc (blkX X scope s H C cl fp) W' tg (own.map (·.2)) g)
    (ht : ∀ (s : Shared) (H : Hp) (C : Addr) (cl : List (Str × Addr)) (fp : List Addr) (W' : Fix), DTs (blkX X scope s H C cl fp) W' ifs tt)
    (he : ∀ (s : Shared) (H : Hp) (C : Addr) (cl : List (Str × Addr)) (fp : List Addr) (W' : Fix), DE (blkX X scope s H C cl fp) W' elt te) (hs : ∀ x, foldedSetIterable iter X.env x = pure x := by intro _; rfl) :
    DE X W (.ListComp elt [⟨tg, iter, ifs, 0⟩] scope pos) (dLc wi g tt te (own.map (·.2))) :=
  .of (pe_lc (X := X) hc hN cI_pi ok (fun s H C cl fp => ⟨fun pins s' _ _ _ u _ I r h => h s H C cl fp pins s' u I r⟩) (fun s H C cl fp => ⟨fun pins s' _ _ _ I h => h s H C cl fp pins s' I⟩) (fun s H C cl fp => ⟨fun pins s' _ _ _ I h => h s H C cl fp pins s' I⟩) hs)
    fun F H σ δ Q S q => lc_run hg ht he hi S q fun _ _ h => h
theorem ds_setLc {i : Nat} {y : Str} {py spos : Pos} (hc : X.calm = true) (hN : X.N.Nodup) (hy : X.N[i]? = some y) (hyl : X.env.scope.names.lookup y = some .local)
    (hsw : swapsWith (.ListComp elt [⟨tg, iter, ifs, 0⟩] scope pos) (some (.Name y py)) spos.line X.env = pure true) (hi : DI X W tg iter wi) (ok : BlkOk X.N X.env.scope scope own)
    (hg : ∀ (s : Shared) (H : Hp) (C : Addr) (cl : List (Str × Addr)) (fp : List Addr) (W' : Fix), DGc (blkX X scope s H C cl fp) W' tg (own.map (·.2)) g)
    (ht : ∀ (s : Shared) (H : Hp) (C : Addr) (cl : List (Str × Addr)) (fp : List Addr) (W' : Fix), DTs (blkX X scope s H C cl fp) W' ifs tt)
    (he : ∀ (s : Shared) (H : Hp) (C : Addr) (cl : List (Str × Addr)) (fp : List Addr) (W' : Fix), DE (blkX X scope s H C cl fp) W' elt te) (hs : ∀ x, foldedSetIterable iter X.env x = pure x := by intro _; rfl) :
    DS X W (.Assign [.Name y py] (.ListComp elt [⟨tg, iter, ifs, 0⟩] scope pos) spos) (dSet i (dLc wi g tt te (own.map (·.2)))) :=
  .of (ps_setLc (X := X) hc hN hy hyl hsw cI_pi ok (fun s H C cl fp => ⟨fun pins s' _ _ _ u _ I r h => h s H C cl fp pins s' u I r⟩) (fun s H C cl fp => ⟨fun pins s' _ _ _ I h => h s H C cl fp pins s' I⟩) (fun s H C cl fp => ⟨fun pins s' _ _ _ I h => h s H C cl fp pins s' I⟩) hs)
    fun F H σ δ D S q => lc_run (Q := fun b δ1 => D.nx (δ1.set i (some b))) hg ht he hi S q fun v H' h => by
      obtain ⟨F1, b, δ1, e1, S1, r1, s1, q1⟩ := h
      exact ⟨F1, δ1.set i (some b), S1.put r1 (fun hb j c h1 h2 _ => s1 hb j c h1 h2), q1⟩
end
end DD

set_option Elab.async false
set_option linter.all false
set_option maxRecDepth 100000
set_option maxHeartbeats 4000000
namespace DD
open PySem PySem.Spec PyProof.Rows L2

abbrev Spd := List B → (B → Nat → Prop) → (Addr → List D → Nat → Prop) → Prop
structure Aft (F H : Hp) (P : Option Addr) (m : Nat) (F' H' : Hp) : Prop where
  ff : Same F F'
  fh : Same F' H'
  keep : ∀ a o, H a = some o → P ≠ some a → H' a = some o
  new : ∀ a o, F' a = some o → F a = some o ∨ H a = none
  pur : ∀ p, P = some p → F' p = none ∧ ∃ x y z, H' p = some (.lst [.int x, .int y, .int z]) ∧ PWF m x y z
def Res (K : PySem.W.Frag) (H F' H' : Hp) : B → V → Prop
  | .p d, v => Rp K F' d v
  | .o d, v => ∃ a, v = .ref a ∧ F' a = none ∧ H a = none ∧ Own K F' H' d a
  | .u _ _, _ => False
  | .s _, _ => False
  | .n ds, v => ∃ t xs, v = .ref t ∧ F' t = some (.tup xs) ∧ RpL K F' ds xs ∧ ∀ a, V.ref a ∈ xs → (∃ ys, F' a = some (.lst ys)) ∧ H a = none
  | .t dss, v => ∃ (t : Addr) (as : List Addr), v = .ref t ∧ F' t = some (.tup (as.map V.ref)) ∧ as.Nodup ∧ as.length = dss.length ∧ ∀ (k : Nat) (a : Addr) (ds : List D), as[k]? = some a → dss[k]? = some ds → F' a = none ∧ H a = none ∧ ∃ ys, H' a = some (.lst ys) ∧ RpL K F' ds ys
  | .m _, _ => False
def Arg (K : PySem.W.Frag) (F H : Hp) (P : Option Addr) : B → V → Prop
  | .p d, v => Rp K F d v
  | .o _, _ => False
  | .u w n, v => w = true ∧ ∃ p x y z, v = .ref p ∧ P = some p ∧ F p = none ∧ H p = some (.lst [.int x, .int y, .int z]) ∧ PWF n x y z
  | .n _, _ => False
  | .s d, v => ∃ a, v = .ref a ∧ F a = none ∧ P = some a ∧ Own K F H d a
  | .t _, _ => False
  | .m _, _ => False
def PurK (i : Option Nat) (bs : List B) : Prop := ∀ (j : Nat) (b : B), bs[j]? = some b → b.own = true → i = some j
def toSp (K : PySem.W.Frag) (spd : Spd) : Sp := fun vs H Q E => ∃ (F : Hp) (P : Option Addr) (bs : List B) (R : B → Nat → Prop) (ED : Addr → List D → Nat → Prop),
  Same F H ∧ Paired (Arg K F H P) bs vs ∧ (∀ p, P = some p → (F p = none ∧ ∃ o, H p = some o) ∧ ∃ b ∈ bs, b.own = true) ∧ spd bs R ED ∧
  (∀ v H' F' b m, Aft F H P m F' H' → Res K H F' H' b v → R b m → Q v H') ∧
  (∀ cls d H' F' C ds m, Aft F H P m F' H' → ExcRep K F' C ds cls d → ED C ds m → E cls d H')

def startD (N : List Str) (bs : List B) : Env' := bs.map some ++ List.replicate (N.length - bs.length) none
def PC (i : Option Nat) (δ : Env') (m : Nat) : Prop := match i with
  | none => True
  | some j => δ[j]? = some (some (.u true m))
section
variable {K : PySem.W.Frag} {F H : Hp} {P : Option Addr}
theorem paired_get {α β : Type} {G : α → β → Prop} : ∀ {l : List α} {m : List β} {i : Nat} {a : α}, Paired G l m → l[i]? = some a → ∃ b, m[i]? = some b ∧ G a b
  | _, _, _, _, .nil, e => by simp at e
  | _, _, 0, _, .cons r _, e => by
    simp at e
    subst e
    exact ⟨_, rfl, r⟩
  | _, _, i + 1, a, .cons _ t, e => by
    obtain ⟨b, h1, h2⟩ := paired_get (i := i) t (by simpa using e)
    exact ⟨b, by simpa using h1, h2⟩
theorem startD_get {N : List Str} {bs : List B} {i : Nat} {b : B} (h : (startD N bs)[i]? = some (some b)) : bs[i]? = some b := by
  unfold startD at h
  by_cases hi : i < bs.length
  · rw [List.getElem?_append_left (by simpa using hi), List.getElem?_map] at h
    cases e : bs[i]? with
    | none =>
      rw [e] at h
      cases h
    | some c =>
      rw [e] at h
      cases h
      rfl
  · rw [List.getElem?_append_right (by simpa using hi), List.getElem?_replicate] at h
    split at h <;> cases h
theorem start_get {N : List Str} {vs : List V} {i : Nat} {v : V} (h : vs[i]? = some v) : (L2.start N vs)[i]? = some (some v) := by
  have hi : i < vs.length := (List.getElem?_eq_some_iff.mp h).1
  unfold L2.start
  rw [List.getElem?_append_left (by simpa using hi), List.getElem?_map, h]
  rfl
theorem SD.start {N : List Str} {bs : List B} {vs : List V} {E : Addr → List D → Env' → Prop} {pi : Option Nat} (fh : Same F H) (ra : Paired (Arg K F H P) bs vs) (hP : ∀ p, P = some p → F p = none ∧ ∃ o, H p = some o) (hk : PurK pi bs) :
    SD K (Fix.of F H P E) F H (L2.start N vs) (startD N bs) where
  f0 := Same.refl F
  h0 := fun _ _ h _ => h
  fh := fh
  fr := fun _ _ h => .inl h
  fp := fun p h => ⟨(hP p h).1, (hP p h).2, (hP p h).2⟩
  len := by
    have := Paired.length ra
    unfold L2.start startD
    rw [List.length_append, List.length_append, List.length_map, List.length_map, List.length_replicate, List.length_replicate, this]
  get := fun i b h => by
    obtain ⟨v, h1, h2⟩ := paired_get ra (startD_get h)
    refine ⟨v, start_get h1, ?_⟩
    cases b with
    | p d => exact h2
    | t dss => exact h2.elim
    | m dss => exact h2.elim
    | n ds => exact h2.elim
    | o d => exact h2.elim
    | u w n =>
      obtain ⟨rfl, p, x, y, z, rfl, h3, h4, h5, h6⟩ := h2
      exact ⟨p, x, y, z, rfl, h4, by rw [if_pos rfl]; exact h3, h5, h6⟩
    | s d => exact h2
  sep := fun i j b c v ne h1 h2 h3 h4 _ => by
    have e1 := hk i b (startD_get h1) h2
    have e2 := hk j c (startD_get h3) h4
    rw [e1] at e2
    exact absurd (Option.some.inj e2) ne
theorem SD.aft {E : Addr → List D → Env' → Prop} {F' H' : Hp} {σ : L2.St} {δ : Env'} {pi : Option Nat} {m : Nat} (S : SD K (Fix.of F H P E) F' H' σ δ) (hp : P = none ∨ pi ≠ none) (hm : PC pi δ m) : Aft F H P m F' H' where
  ff := S.f0
  fh := S.fh
  keep := S.h0
  new := S.fr
  pur := fun p e => by
    refine ⟨(S.fp p e).1, ?_⟩
    cases pi with
    | none =>
      rcases hp with h | h
      · rw [h] at e
        cases e
      · exact absurd rfl h
    | some j =>
      obtain ⟨v, h1, q, x, y, z, rfl, h2, h3, h4, h5⟩ := S.get j _ hm
      have h3 : P = some q := by
        rw [if_pos rfl] at h3
        exact h3
      rw [e] at h3
      cases h3
      exact ⟨x, y, z, h4, h5⟩
end

theorem gd_of {P : Program} {w : World} {K : PySem.W.Frag} {mg : Str → Option Value} {base : Heap} {x qual : Str} {st : Stmt} {f : Addr} {fd : FuncData} {N ps : List Str} {k : Nat} {spd : Spd} (pi : Option Nat)
    (F : Fun K x qual st f fd) (S : FnScope N ps (defScope st)) (len : ∀ bs R E, spd bs R E → bs.length = ps.length) (hpk : ∀ bs R E, spd bs R E → PurK pi bs ∧ (pi = none → ∀ b ∈ bs, b.own = false))
    (hbody : ∀ (cdv : Value) (A : Around) (outer : List Env) (s : Shared) (H : Hp) (E : XK) (W : Fix) (bs : List B) (R : B → Nat → Prop) (ED : Addr → List D → Nat → Prop), A.guards = some [] →
      Room k (A.deeper (envOfC qual (defScope st) s.heap.objs.size f cdv)) → TkE (cxOf (L2N.CX P w) P w K mg base N qual (defScope st) f cdv A outer s H E) W (fun C ds δ => ∃ m, PC pi δ m ∧ ED C ds m) → spd bs R ED → Same W.F0 W.H0 →
      ∃ t, DSs (cxOf (L2N.CX P w) P w K mg base N qual (defScope st) f cdv A outer s H E) W (defBody st) t ∧
        t { nx := fun δ => ∃ m, PC pi δ m ∧ R (.p .non) m, rt := fun b δ => b.isR = false ∧ ∃ m, PC pi δ m ∧ R b m } (startD N bs)) :
    GnOk P w K mg base (k + 1) f fd ps (toSp K spd) := by
  refine gn_of F S (fun vs H Q E h => ?_) fun cdv A outer s H vs Q E hg hr h => ?_
  · obtain ⟨F0, P0, bs, R, ED, _, ra, _, h, _⟩ := h
    rw [← Paired.length ra, len bs R ED h]
  · obtain ⟨F0, P0, bs, R, ED, fh, ra, hP, h, hQ, hE⟩ := h
    obtain ⟨h1, h2⟩ := hpk bs R ED h
    have hnp : P0 = none ∨ pi ≠ none := by
      cases e : P0 with
      | none => exact .inl rfl
      | some p =>
        refine .inr fun z => ?_
        obtain ⟨_, b, hb, ho⟩ := hP p e
        rw [h2 z b hb] at ho
        cases ho
    have S0 : SD K (Fix.of F0 H P0 fun C ds δ => ∃ m, PC pi δ m ∧ ED C ds m) F0 H (L2.start N vs) (startD N bs) := .start fh ra (fun p e => (hP p e).1) h1
    have tk : L2N.Takes (cxOf (L2N.CX P w) P w K mg base N qual (defScope st) f cdv A outer s H E) (WXd K (Fix.of F0 H P0 fun C ds δ => ∃ m, PC pi δ m ∧ ED C ds m)) := by
      refine (L2N.takes_of rfl rfl rfl rfl).imp fun cls d σ H' z => ?_
      obtain ⟨F', δ', C, ds, S', er, m, hm, he⟩ := z
      exact hE cls d H' F' C ds m (S'.aft hnp hm) er he
    obtain ⟨t, ht, q⟩ := hbody cdv A outer s H E _ bs R ED hg hr ⟨rfl, tk⟩ h fh
    refine ⟨_, cSs_pss, (fun pins s I => thn (ht.run F0 H _ _ _ S0 q pins s I) fun fl s' q => SP.imp q (fun σ' H' z => ?_) (fun v H' z => ?_) (fun σ' H' z => ?_) fun σ' H' z => ?_)⟩
    · obtain ⟨F', δ', S', m, hm, r⟩ := z
      exact hQ .non H' F' (.p .non) m (S'.aft hnp hm) (by unfold Res Rp; rfl) r
    · rcases z with ⟨_, σ', F', b, δ', e', S', rb, _, hu, m, hm, r⟩ | ⟨F', σ', δ', dss, S', fr, hu, m, hm, r⟩
      · refine hQ v H' F' b m (S'.aft hnp hm) ?_ r
        cases b with
        | p d => exact rb
        | n ds => exact rb
        | o d => exact rb
        | u w n => cases hu
        | s d => cases hu
        | t dss => exact rb.elim
        | m dss => cases hu
      · exact hQ v H' F' (.t dss) m (S'.aft hnp hm) fr r
    · obtain ⟨F', δ', S', z⟩ := z
      exact z.elim
    · obtain ⟨F', δ', S', z⟩ := z
      exact z.elim

section
variable {X : Cx} {W : Fix} {k : Nat} {f : Addr} {fd : FuncData} {ps : List Str} {spd : Spd} {sp : Sp} {dvs : List V} {dfs : List Value} {dds : List D} {E : XK} {x : Str} {p pos : Pos} {e : Expr} {es : List Expr} {t : TDA}
theorem run_g {pins : List (Addr × Obj)} {σ : L2.St} {H : Hp} {s : Shared} {Q : VK} {us : List Value} {vs : List V} (G : GnOk X.prog X.w X.K X.mg X.base k f fd ps sp) (gu : X.A.guards = some []) (hr : Room k X.A)
    (hb : Binds X.K fd ps dfs) (hd : Vals dvs dfs) (hx : ∀ (e : Value) (s' : Shared), L2N.CX X.prog X.w X.stack H s E e s' → X.xe e s') (I : Inv X pins σ H s) (r : Vals vs us) (h : sp (vs ++ dvs) H Q E) :
    wpAny (model X.prog X.w) X.A (call (.ref f) us) (EP X pins σ Q) X.xe s := by
  have r2 : Vals (vs ++ dvs) (us ++ dfs) := r.append hd
  have hl : (us ++ dfs).length = ps.length := by
    rw [← r2.length]
    exact G.len _ _ _ _ h
  refine wpAny_call (codeAny_mono (G.run X.A X.stack s H ⟨us, []⟩ _ _ Q E gu hr I.env0 (hb s us I.kIn hl) r2 h) ?_)
  intro r s' hq
  cases r with
  | error e => exact hx e s' hq
  | ok fl =>
    cases fl with
    | ret u => exact I.after hq
    | next => exact hq.elim
    | brk => exact hq.elim
    | cont => exact hq.elim
def tCallG (sp : Sp) (dvs : List V) (E : L2.St → XK) (t : TA) : TE := fun σ H Q => t σ H fun vs H1 => sp (vs ++ dvs) H1 Q (E σ)
theorem pe_callG {ta : TA} {Es : L2.St → XK} (G : GnOk X.prog X.w X.K X.mg X.base k f fd ps sp) (gu : X.A.guards = some []) (hr : Room k X.A) (hg : Gl X x) (hm : X.mg x = some (.ref f)) (hk : PySem.W.keepIn X.K (.ref f) = true)
    (hb : Binds X.K fd ps dfs) (hd : Vals dvs dfs) (hx : ∀ σ, PassesAt (L2N.CX X.prog X.w) X σ (Es σ)) (ha : PA X (e :: es) ta) (hdb : (x == ("__debug__" : Str)) = false := by decide)
    (he : starEach (e :: es) X.env = (false, eval e X.env) :: starEach es X.env := by rfl) (hpl : (backTo pos (starEach es X.env)).any (·.1) = false := by rfl) :
    PE X (.Call (.Name x p) (e :: es) [] pos) (tCallG sp dvs Es ta) := by
  refine ⟨fun pins s σ H Q I h => wpAny_Call_Name_kw (ld_glob I hg hm ?_ hdb)⟩
  refine PySem.W.callWith_K (h₀ := X.base) I.ok.mod.kin hk (thn (ha.run pos pins s σ H _ I h) ?_) he hpl
  rintro us s1 ⟨vs, H1, I1, r, q⟩
  exact ⟨I1.kIn, run_g G gu hr hb hd (fun e s' c => hx σ pins H1 s1 e s' I1 c) I1 r q⟩
theorem pass_none {X : Cx} {σ : L2.St} : PassesAt (L2N.CX X.prog X.w) X σ (fun _ _ _ => False) := fun _ _ _ _ _ _ c => by
  obtain ⟨_, _, _, _, _, _, _, _, _, _, _, _, z⟩ := c
  exact z.elim

theorem SD.after {K : PySem.W.Frag} {F H F' H' : Hp} {σ : L2.St} {δ : Env'} {m : Nat} (S : SD K W F H σ δ) (a : Aft F H none m F' H') : SD K W F' H' σ δ where
  f0 := S.f0.trans a.ff
  h0 := fun b o h n => a.keep b o (S.h0 b o h n) (fun z => by cases z)
  fh := a.fh
  fr := fun b o h => by
    rcases a.new b o h with h1 | h1
    · exact S.fr b o h1
    · exact .inr (S.fresh0 h1)
  fp := fun b h => by
    obtain ⟨h1, ⟨o, h2⟩, h3⟩ := S.fp b h
    refine ⟨?_, ⟨o, a.keep b o h2 (fun z => by cases z)⟩, h3⟩
    cases q : F' b with
    | none => rfl
    | some u =>
      rcases a.new b u q with h4 | h4
      · rw [h1] at h4
        cases h4
      · rw [h2] at h4
        cases h4
  len := S.len
  get := fun i b h => by
    obtain ⟨v, h1, h2⟩ := S.get i b h
    refine ⟨v, h1, h2.keep a.ff (fun c o _ _ h3 => a.keep c o h3 (fun z => by cases z)) fun c hv hb h3 => ?_⟩
    obtain ⟨c', o, e1, h4, _⟩ := h2.there hb
    rw [hv] at e1
    cases e1
    cases q : F' c with
    | none => rfl
    | some u =>
      rcases a.new c u q with h5 | h5
      · rw [h3] at h5
        cases h5
      · rw [h4] at h5
        cases h5
  sep := S.sep
theorem SD.afterP {K : PySem.W.Frag} {F H F' H' : Hp} {σ : L2.St} {δ : Env'} {i : Nat} {w : Bool} {n m : Nat} {q : Addr} (S : SD K W F H σ δ) (hi : δ[i]? = some (some (.u w n))) (hq : σ[i]? = some (some (.ref q))) (a : Aft F H (some q) m F' H') :
    SD K W F' H' σ (δ.set i (some (.u w m))) := by
  obtain ⟨v, e1, q', x, y, z, rfl, hF, hw, hH, hp⟩ := S.get i _ hi
  rw [hq] at e1
  cases e1
  have hli : i < δ.length := (List.getElem?_eq_some_iff.mp hi).1
  have nF : ∀ b o, H b = some o → F b = none → F' b = none := fun b o h1 h2 => by
    cases z : F' b with
    | none => rfl
    | some u =>
      rcases a.new b u z with h5 | h5
      · rw [h2] at h5
        cases h5
      · rw [h1] at h5
        cases h5
  have hneP : ∀ b o, W.H0 b = some o → W.P ≠ some b → b ≠ q := fun b o h1 h2 z => by
    subst z
    cases w with
    | true =>
      rw [if_pos rfl] at hw
      exact h2 hw
    | false =>
      rw [if_neg Bool.false_ne_true] at hw
      rw [h1] at hw
      cases hw
  have aux : ∀ (j : Nat) (c : B), (δ.set i (some (.u w m)))[j]? = some (some c) → (j = i ∧ c = .u w m) ∨ (j ≠ i ∧ δ[j]? = some (some c)) := fun j c h => by
    by_cases e : j = i
    · subst e
      rw [List.getElem?_set_self hli] at h
      cases h
      exact .inl ⟨rfl, rfl⟩
    · rw [List.getElem?_set_ne (Ne.symm e)] at h
      exact .inr ⟨e, h⟩
  refine ⟨S.f0.trans a.ff, fun b o h n => a.keep b o (S.h0 b o h n) fun z => hneP b o h n (Option.some.inj z).symm, a.fh, fun b o h => ?_, fun b h => ?_, by rw [List.length_set]; exact S.len, fun j c h => ?_, fun j k c d v ne h1 h2 h3 h4 h5 => ?_⟩
  · rcases a.new b o h with h1 | h1
    · exact S.fr b o h1
    · exact .inr (S.fresh0 h1)
  · obtain ⟨h1, ⟨o, h2⟩, h3⟩ := S.fp b h
    refine ⟨nF b o h2 h1, ?_, h3⟩
    by_cases e : b = q
    · subst e
      obtain ⟨_, x', y', z', h5, _⟩ := a.pur b rfl
      exact ⟨_, h5⟩
    · exact ⟨o, a.keep b o h2 fun z => e (Option.some.inj z).symm⟩
  · rcases aux j c h with ⟨rfl, rfl⟩ | ⟨hj, h⟩
    · obtain ⟨h4, x', y', z', h5, h6⟩ := a.pur q rfl
      exact ⟨.ref q, hq, q, x', y', z', rfl, h4, hw, h5, h6⟩
    · obtain ⟨v, h1, h2⟩ := S.get j c h
      refine ⟨v, h1, h2.keep a.ff (fun b o hv hb h3 => a.keep b o h3 fun z => ?_) fun b hv hb h3 => ?_⟩
      · have e := Option.some.inj z
        subst e
        rw [hv] at h1
        exact S.sep i j _ c (.ref q) (Ne.symm hj) hi rfl h hb hq h1
      · obtain ⟨b', o, e1, h4, _⟩ := h2.there hb
        rw [hv] at e1
        cases e1
        exact nF b o h4 h3
  · have g1 : ∃ c', δ[j]? = some (some c') ∧ c'.own = true := by
      rcases aux j c h1 with ⟨rfl, rfl⟩ | ⟨_, h⟩
      · exact ⟨_, hi, rfl⟩
      · exact ⟨c, h, h2⟩
    have g2 : ∃ c', δ[k]? = some (some c') ∧ c'.own = true := by
      rcases aux k d h3 with ⟨rfl, rfl⟩ | ⟨_, h⟩
      · exact ⟨_, hi, rfl⟩
      · exact ⟨d, h, h4⟩
    obtain ⟨c', g1, g1'⟩ := g1
    obtain ⟨d', g2, g2'⟩ := g2
    exact S.sep j k c' d' v ne g1 g1' g2 g2' h5

def dCall (spd : Spd) (dds : List D) (Ew : Addr → List D → Env' → Prop) (t : TDA) : TD := fun δ Q => t δ fun ds δ1 => spd ((ds ++ dds).map .p) (fun b _ => b.isU = false ∧ Q b δ1) fun C es _ => Ew C es δ1
def dCallP (i : Nat) (spd : Spd) (dds : List D) (Ew : Addr → List D → Env' → Prop) (t : TDA) : TD := fun δ Q => (∃ w n, δ[i]? = some (some (.u w n))) ∧ t δ fun ds δ1 => ∃ w n, δ1[i]? = some (some (.u w n)) ∧
  spd (.u true n :: (ds ++ dds).map .p) (fun b m => b.isU = false ∧ Q b (δ1.set i (some (.u w m)))) fun C es m => Ew C es (δ1.set i (some (.u w m)))
theorem paired_p {K : PySem.W.Frag} {F H : Hp} {P : Option Addr} : ∀ {ds : List D} {vs : List V}, RpL K F ds vs → Paired (Arg K F H P) (ds.map B.p) vs
  | [], _, h => by
    unfold RpL at h
    rw [h]
    exact .nil
  | d :: ds, vs, h => by
    unfold RpL at h
    obtain ⟨x, r, rfl, h1, h2⟩ := h
    exact .cons h1 (paired_p h2)
theorem RB.of_res {K : PySem.W.Frag} {F H F' H' : Hp} {σ : L2.St} {δ : Env'} {b : B} {v : V} (S : SD K W F H σ δ) (hu : b.isU = false) (r : Res K H F' H' b v) : RB K W F' H' b v ∧ (b.own = true → ∀ (j : Nat) (c : B), δ[j]? = some (some c) → c.own = true → σ[j]? ≠ some (some v)) := by
  cases b with
  | p d => exact ⟨r, fun h => by cases h⟩
  | n ds =>
    obtain ⟨t, xs, e, h1, h2, h3⟩ := r
    exact ⟨⟨t, xs, e, h1, h2, fun c hc => ⟨(h3 c hc).1, S.fresh0 (h3 c hc).2⟩⟩, fun h => by cases h⟩
  | u w n => exact r.elim
  | s d => exact r.elim
  | t dss => cases hu
  | m dss => exact r.elim
  | o d =>
    obtain ⟨a, rfl, h1, h2, h3⟩ := r
    refine ⟨⟨a, rfl, h1, S.fresh0 h2, h3⟩, fun _ j c e1 e2 e3 => ?_⟩
    obtain ⟨u, h4, h5⟩ := S.get j c e1
    rw [e3] at h4
    cases h4
    obtain ⟨a', o, e, h6, _⟩ := h5.there e2
    cases e
    rw [h2] at h6
    cases h6
theorem de_call (G : GnOk X.prog X.w X.K X.mg X.base k f fd ps (toSp X.K spd)) (gu : X.A.guards = some []) (hr : Room k X.A) (hg : Gl X x) (hm : X.mg x = some (.ref f)) (hk : PySem.W.keepIn X.K (.ref f) = true)
    (hb : Binds X.K fd ps dfs) (hd : Vals dvs dfs) (hdd : ∀ F, RpL X.K F dds dvs) (h : DA X W (e :: es) t) (hdb : (x == ("__debug__" : Str)) = false := by decide)
    (he : starEach (e :: es) X.env = (false, eval e X.env) :: starEach es X.env := by rfl) (hpl : (backTo pos (starEach es X.env)).any (·.1) = false := by rfl) :
    DE X W (.Call (.Name x p) (e :: es) [] pos) (dCall spd dds (fun _ _ _ => False) t) :=
  .of (pe_callG (Es := fun _ _ _ _ => False) G gu hr hg hm hk hb hd (fun σ => pass_none) cA_pa hdb he hpl) fun F H σ δ Q S q => by
    refine (h.run F H σ δ _ S q).imp fun vs H1 h1 => ?_
    obtain ⟨F1, ds, δ1, e1, S1, r1, q1⟩ := h1
    refine ⟨F1, none, _, _, _, S1.fh, paired_p (r1.append (hdd F1)), (fun p e => by cases e), q1, fun v H' F' b m a r z => ?_, fun cls d H' F' C ds m a er z => z.elim⟩
    obtain ⟨r2, r3⟩ := RB.of_res S1 z.1 r
    exact ⟨F', b, δ1, e1.trans a.ff, S1.after a, r2, r3, z.2⟩
theorem de_callX {E0 : Addr → List D → Env' → Prop} (te : TkE X W E0) (G : GnOk X.prog X.w X.K X.mg X.base k f fd ps (toSp X.K spd)) (gu : X.A.guards = some []) (hr : Room k X.A) (hg : Gl X x) (hm : X.mg x = some (.ref f)) (hk : PySem.W.keepIn X.K (.ref f) = true)
    (hb : Binds X.K fd ps dfs) (hd : Vals dvs dfs) (hdd : ∀ F, RpL X.K F dds dvs) (h : DA X W (e :: es) t) (hdb : (x == ("__debug__" : Str)) = false := by decide)
    (he : starEach (e :: es) X.env = (false, eval e X.env) :: starEach es X.env := by rfl) (hpl : (backTo pos (starEach es X.env)).any (·.1) = false := by rfl) :
    DE X W (.Call (.Name x p) (e :: es) [] pos) (dCall spd dds E0 t) :=
  .of (pe_callG (Es := WE (WXd X.K W)) G gu hr hg hm hk hb hd (fun σ => L2N.passAt te.tk σ) cA_pa hdb he hpl) fun F H σ δ Q S q => by
    refine (h.run F H σ δ _ S q).imp fun vs H1 h1 => ?_
    obtain ⟨F1, ds, δ1, e1, S1, r1, q1⟩ := h1
    refine ⟨F1, none, _, _, _, S1.fh, paired_p (r1.append (hdd F1)), (fun p e => by cases e), q1, fun v H' F' b m a r z => ?_, fun cls d H' F' C ds m a er z => ?_⟩
    · obtain ⟨r2, r3⟩ := RB.of_res S1 z.1 r
      exact ⟨F', b, δ1, e1.trans a.ff, S1.after a, r2, r3, z.2⟩
    · exact ⟨F', δ1, C, ds, S1.after a, er, by rw [te.eq]; exact z⟩
theorem de_callP {i : Nat} {xp : Str} {pp : Pos} (G : GnOk X.prog X.w X.K X.mg X.base k f fd ps (toSp X.K spd)) (gu : X.A.guards = some []) (hr : Room k X.A) (hg : Gl X x) (hm : X.mg x = some (.ref f)) (hk : PySem.W.keepIn X.K (.ref f) = true)
    (hN : X.N[i]? = some xp) (hv : Vis X.env.scope xp)
    (hb : Binds X.K fd ps dfs) (hd : Vals dvs dfs) (hdd : ∀ F, RpL X.K F dds dvs) (h : DA X W es t) (hdb : (x == ("__debug__" : Str)) = false := by decide) (hd1 : (xp == ("__debug__" : Str)) = false := by decide) (hcd : (xp == ("__classdict__" : Str)) = false := by decide)
    (he : starEach (.Name xp pp :: es) X.env = (false, eval (.Name xp pp) X.env) :: starEach es X.env := by rfl) (hpl : (backTo pos (starEach es X.env)).any (·.1) = false := by rfl) :
    DE X W (.Call (.Name x p) (.Name xp pp :: es) [] pos) (dCallP i spd dds (fun _ _ _ => False) t) :=
  .of (pe_callG (Es := fun _ _ _ _ => False) (e := .Name xp pp) G gu hr hg hm hk hb hd (fun σ => pass_none) (pa_cons (pe_var (X := X) hN hv hd1 hcd) cA_pa he) hdb he hpl) fun F H σ δ Q S q => by
    obtain ⟨⟨w0, n0, h0⟩, q⟩ := q
    obtain ⟨v0, hv0, q0, _, _, _, rfl, _⟩ := S.get i _ h0
    refine ⟨.ref q0, hv0, ?_⟩
    refine (h.run F H σ δ _ S q).imp fun vs H1 h1 => ?_
    obtain ⟨F1, ds, δ1, e1, S1, r1, w, n, hi, q1⟩ := h1
    obtain ⟨v1, hv1, q2, x, y, z, rfl, hF, hw, hH, hp⟩ := S1.get i _ hi
    rw [hv0] at hv1
    cases hv1
    refine ⟨F1, some q0, _, _, _, S1.fh, .cons (show Arg X.K F1 H1 (some q0) (.u true n) (.ref q0) from ⟨rfl, q0, x, y, z, rfl, rfl, hF, hH, hp⟩) (paired_p (r1.append (hdd F1))), (fun p e => by cases e; exact ⟨⟨hF, _, hH⟩, _, List.mem_cons_self, rfl⟩), q1, fun v H' F' b m a r z => ?_, fun cls d H' F' C ds m a er z => z.elim⟩
    have S2 := S1.afterP hi hv0 a
    refine ⟨F', b, _, e1.trans a.ff, S2, ?_⟩
    cases b with
    | p d => exact ⟨r, (fun h => by cases h), z.2⟩
    | n ds =>
      obtain ⟨t, xs, e, h1, h2, h3⟩ := r
      exact ⟨⟨t, xs, e, h1, h2, fun c hc => ⟨(h3 c hc).1, S1.fresh0 (h3 c hc).2⟩⟩, (fun h => by cases h), z.2⟩
    | u w n => exact r.elim
    | s d => exact r.elim
    | t dss => cases z.1
    | m dss => exact r.elim
    | o d =>
      obtain ⟨c, rfl, h1, h2, h3⟩ := r
      refine ⟨⟨c, rfl, h1, S1.fresh0 h2, h3⟩, fun _ j b' e1 e2 e3 => ?_, z.2⟩
      have hb' : ∃ b'', δ1[j]? = some (some b'') ∧ b''.own = true := by
        by_cases ej : j = i
        · subst ej
          exact ⟨_, hi, rfl⟩
        · rw [List.getElem?_set_ne (Ne.symm ej)] at e1
          exact ⟨b', e1, e2⟩
      obtain ⟨b'', e1, e2⟩ := hb'
      obtain ⟨u, h4, h5⟩ := S1.get j b'' e1
      rw [e3] at h4
      cases h4
      obtain ⟨a', o, e, h6, _⟩ := h5.there e2
      cases e
      rw [h2] at h6
      cases h6
end
end DD

set_option Elab.async false
set_option linter.all false
set_option maxRecDepth 100000
set_option maxHeartbeats 4000000
namespace DD
open PySem PySem.Spec PyProof.Rows L2

mutual
def toPy : D → Option PyData
  | .non => some .none
  | .bl b => some (.bool b)
  | .int i => some (.int i)
  | .str s => some (.str s)
  | .lst ds => (toPyL ds).map .list
  | .tup ds => (toPyL ds).map .tuple
  | _ => none
def toPyL : List D → Option (List PyData)
  | [] => some []
  | d :: ds => (toPy d).bind fun x => (toPyL ds).map fun xs => x :: xs
end
section
variable {K : PySem.W.Frag} {F H : Hp}
theorem rpNon {v : V} (h : Rp K F .non v) : v = .non := by
  unfold Rp at h
  exact h
theorem rpBl {b : Bool} {v : V} (h : Rp K F (.bl b) v) : v = .bl b := by
  unfold Rp at h
  exact h
theorem rpStr {x : Str} {v : V} (h : Rp K F (.str x) v) : v = .str x := by
  unfold Rp at h
  exact h
theorem rpTy {x : String} {v : V} (h : Rp K F (.ty x) v) : v = .ty x := by
  unfold Rp at h
  exact h
theorem rpLst {ds : List D} {v : V} (h : Rp K F (.lst ds) v) : ∃ a xs, v = .ref a ∧ F a = some (.lst xs) ∧ RpL K F ds xs := by
  unfold Rp at h
  exact h
theorem rpTup {ds : List D} {v : V} (h : Rp K F (.tup ds) v) : ∃ a xs, v = .ref a ∧ SqT K F a xs ∧ RpL K F ds xs := by
  unfold Rp at h
  obtain ⟨a, xs, e, h1, h2⟩ := h
  exact ⟨a, xs, e, SqT.of h1, h2⟩
theorem rpTupS {ds : List D} {v : V} (h : Rp K F (.tup ds) v) : ∃ a xs, v = .ref a ∧ F a = some (.tup xs) ∧ RpL K F ds xs := by
  unfold Rp at h
  exact h
theorem rpCst {ds : List D} {v : V} (h : Rp K F (.cst ds) v) : ∃ a xs, v = .ref a ∧ SqT K F a xs ∧ RpL K F ds xs := by
  unfold Rp at h
  exact h
mutual
theorem Rp.dp (e : Same F H) : ∀ (d : D) (v : V) (c : PyData), Rp K F d v → toPy d = some c → Dp K H v c
  | .non, v, c, h, t => by
    rw [rpNon h]
    cases t
    exact .non
  | .bl b, v, c, h, t => by
    rw [rpBl h]
    cases t
    exact .bl b
  | .int i, v, c, h, t => by
    rw [rpInt h]
    cases t
    exact .int i
  | .str x, v, c, h, t => by
    rw [rpStr h]
    cases t
    exact .str x
  | .lst ds, v, c, h, t => by
    obtain ⟨a, xs, rfl, h1, h2⟩ := rpLst h
    unfold toPy at t
    cases q : toPyL ds with
    | none =>
      rw [q] at t
      cases t
    | some cs =>
      rw [q] at t
      cases t
      exact .lst (SqL.of (e _ _ h1)) (RpL.dp e ds xs cs h2 q)
  | .tup ds, v, c, h, t => by
    obtain ⟨a, xs, rfl, h1, h2⟩ := rpTup h
    unfold toPy at t
    cases q : toPyL ds with
    | none =>
      rw [q] at t
      cases t
    | some cs =>
      rw [q] at t
      cases t
      exact .tup (sqT_mono e h1) (RpL.dp e ds xs cs h2 q)
  | .ty _, _, _, _, t => by cases t
  | .ref _, _, _, _, t => by cases t
  | .dct _ _, _, _, _, t => by cases t
  | .ins _ _ _, _, _, _, t => by cases t
  | .iset _ _, _, _, _, t => by cases t
  | .exc _ _, _, _, _, t => by cases t
  | .scr _, _, _, _, t => by cases t
  | .cst _, _, _, _, t => by cases t
  | .dcT _ _, _, _, _, t => by cases t
theorem RpL.dp (e : Same F H) : ∀ (ds : List D) (vs : List V) (cs : List PyData), RpL K F ds vs → toPyL ds = some cs → DpAll K H vs cs
  | [], vs, cs, h, t => by
    unfold RpL at h
    rw [h]
    cases t
    exact .nil
  | d :: ds, vs, cs, h, t => by
    unfold RpL at h
    obtain ⟨x, r, rfl, h1, h2⟩ := h
    unfold toPyL at t
    cases q1 : toPy d with
    | none =>
      rw [q1] at t
      cases t
    | some c =>
      cases q2 : toPyL ds with
      | none =>
        rw [q1, q2] at t
        cases t
      | some cs' =>
        rw [q1, q2] at t
        cases t
        exact .cons (Rp.dp e d x c h1 q1) (RpL.dp e ds r cs' h2 q2)
end
end

def rAddI : R2 := rI0 fun i j => .int (i + j)
def rAddS' : R2 := fun x y H Q => ∃ i j, x = .str i ∧ y = .str j ∧ i.length + j.length ≤ sizeLine ∧ Q (.str (i ++ j)) H
def rAddAll (K : PySem.W.Frag) : R2 := fun x y H Q => rAddI x y H Q ∨ rAddS' x y H Q ∨ rCat x y H Q ∨ rCatT K x y H Q
theorem op_addAll {X : Cx} : OpR X (binaryOp .Add) (rAddAll X.K) := by
  intro pins s σ H x y v u Q I rx ry h
  rcases h with h | h | h | h
  · exact op_add pins s σ H x y v u Q I rx ry h
  · exact op_add_str pins s σ H x y v u Q I rx ry h
  · exact op_cat pins s σ H x y v u Q I rx ry h
  · exact op_catT pins s σ H x y v u Q I rx ry h
def addG : D → D → (B → Prop) → Prop
  | .int i, .int j, Q => Q (.p (.int (i + j)))
  | .str a, .str b, Q => a.length + b.length ≤ sizeLine ∧ Q (.p (.str (a ++ b)))
  | .lst a, .lst b, Q => a.length + b.length ≤ sizeLine ∧ Q (.o (.lst (a ++ b)))
  | .cst a, .cst b, Q => a ≠ [] ∧ b ≠ [] ∧ a.length + b.length ≤ sizeLine ∧ Q (.p (.tup (a ++ b)))
  | .tup a, .cst b, Q => a ≠ [] ∧ b ≠ [] ∧ a.length + b.length ≤ sizeLine ∧ Q (.p (.tup (a ++ b)))
  | .tup a, .tup b, Q => a ≠ [] ∧ a.length + b.length ≤ sizeLine ∧ Q (.p (.tup (a ++ b)))
  | _, _, _ => False
theorem mkP {K : PySem.W.Frag} {W : Fix} {F H : Hp} {σ : L2.St} {δ : Env'} {Q : B → Prop} {d : D} {v : V} (S : SD K W F H σ δ) (r : Rp K F d v) (q : Q (.p d)) : DQ K W F σ (fun b δ' => δ' = δ ∧ Q b) v H := .mk S r ⟨rfl, q⟩
theorem rp_int {K : PySem.W.Frag} {F : Hp} {i : Int} : Rp K F (.int i) (.int i) := by
  unfold Rp
  rfl
theorem rp_bl {K : PySem.W.Frag} {F : Hp} {i : Bool} : Rp K F (.bl i) (.bl i) := by
  unfold Rp
  rfl
theorem rp_str {K : PySem.W.Frag} {F : Hp} {i : Str} : Rp K F (.str i) (.str i) := by
  unfold Rp
  rfl
theorem rp_tupN {K : PySem.W.Frag} {F : Hp} {p : Addr} {xs : List V} {ds : List D} (r : RpL K F ds xs) (hp : F p = none) : Rp K (upd F p (.tup xs)) (.tup ds) (.ref p) := by
  unfold Rp
  exact ⟨p, xs, rfl, upd_same, RpL.mono (same_upd hp) _ _ r⟩
theorem rd_add {K : PySem.W.Frag} : RD K (rAddAll K) addG := by
  intro W F H σ δ x y c d Q Z S rc rd g hZ
  cases c with
  | int i =>
    cases d <;> first | exact g.elim | skip
    rename_i j
    exact .inl ⟨i, j, rpInt rc, rpInt rd, hZ _ _ (mkP S rp_int g)⟩
  | str a =>
    cases d <;> first | exact g.elim | skip
    rename_i b
    exact .inr (.inl ⟨a, b, rpStr rc, rpStr rd, g.1, hZ _ _ (mkP S rp_str g.2)⟩)
  | lst a =>
    cases d <;> first | exact g.elim | skip
    rename_i b
    obtain ⟨p, xs, rfl, h1, h2⟩ := rpLst rc
    obtain ⟨q, ys, rfl, h3, h4⟩ := rpLst rd
    refine .inr (.inr (.inl ⟨p, q, xs, ys, rfl, rfl, S.fh _ _ h1, S.fh _ _ h3, by rw [h2.length, h4.length]; exact g.1, fun r hr => hZ _ _ ?_⟩))
    exact DQ.mkO (Q := fun b δ' => δ' = δ ∧ Q b) (d := .lst (a ++ b)) S hr ⟨_, upd_same, h2.append h4⟩ ⟨rfl, g.2⟩
  | tup a =>
    cases d <;> first | exact g.elim | skip
    · rename_i b
      obtain ⟨p, xs, rfl, h1, h2⟩ := rpTup rc
      obtain ⟨q, ys, rfl, h3, h4⟩ := rpTup rd
      obtain ⟨g1, g2, g3⟩ := g
      have n1 : xs ≠ [] := fun z => g1 (List.length_eq_zero_iff.mp (by rw [← h2.length, z]; rfl))
      refine .inr (.inr (.inr ⟨p, q, xs, ys, rfl, rfl, sqT_mono S.fh h1, sqT_mono S.fh h3, n1, by rw [h2.length, h4.length]; exact g2, fun z => hZ _ _ ?_, fun z r hr => hZ _ _ ?_⟩))
      · have e : b = [] := List.length_eq_zero_iff.mp (by rw [← h4.length, z]; rfl)
        subst e
        rw [List.append_nil] at g3
        exact mkP S rc g3
      · exact DQ.mkN (Q := fun b δ' => δ' = δ ∧ Q b) S hr (rp_tupN (h2.append h4) (S.freshF hr)) ⟨rfl, g3⟩
    · rename_i b
      obtain ⟨p, xs, rfl, h1, h2⟩ := rpTup rc
      obtain ⟨q, ys, rfl, h3, h4⟩ := rpCst rd
      obtain ⟨g1, g0, g2, g3⟩ := g
      have n1 : xs ≠ [] := fun z => g1 (List.length_eq_zero_iff.mp (by rw [← h2.length, z]; rfl))
      have n2 : ys ≠ [] := fun z => g0 (List.length_eq_zero_iff.mp (by rw [← h4.length, z]; rfl))
      exact .inr (.inr (.inr ⟨p, q, xs, ys, rfl, rfl, sqT_mono S.fh h1, sqT_mono S.fh h3, n1, by rw [h2.length, h4.length]; exact g2, fun z => absurd z n2, fun z r hr => hZ _ _ (DQ.mkN (Q := fun b δ' => δ' = δ ∧ Q b) S hr (rp_tupN (h2.append h4) (S.freshF hr)) ⟨rfl, g3⟩)⟩))
  | cst a =>
    cases d <;> first | exact g.elim | skip
    rename_i b
    obtain ⟨p, xs, rfl, h1, h2⟩ := rpCst rc
    obtain ⟨q, ys, rfl, h3, h4⟩ := rpCst rd
    obtain ⟨g1, g0, g2, g3⟩ := g
    have n1 : xs ≠ [] := fun z => g1 (List.length_eq_zero_iff.mp (by rw [← h2.length, z]; rfl))
    have n2 : ys ≠ [] := fun z => g0 (List.length_eq_zero_iff.mp (by rw [← h4.length, z]; rfl))
    exact .inr (.inr (.inr ⟨p, q, xs, ys, rfl, rfl, sqT_mono S.fh h1, sqT_mono S.fh h3, n1, by rw [h2.length, h4.length]; exact g2, fun z => absurd z n2, fun z r hr => hZ _ _ (DQ.mkN (Q := fun b δ' => δ' = δ ∧ Q b) S hr (rp_tupN (h2.append h4) (S.freshF hr)) ⟨rfl, g3⟩)⟩))
  | _ => exact g.elim

def intG (C : Int → Int → Prop) (f : Int → Int → D) : D → D → (B → Prop) → Prop
  | .int i, .int j, Q => C i j ∧ Q (.p (f i j))
  | _, _, _ => False
theorem rd_intI {K : PySem.W.Frag} {C : Int → Int → Prop} {f : Int → Int → Int} : RD K (rI C fun i j => .int (f i j)) (intG C fun i j => .int (f i j)) := by
  intro W F H σ δ x y c d Q Z S rc rd g hZ
  cases c <;> first | exact g.elim | skip
  cases d <;> first | exact g.elim | skip
  rename_i i j
  exact ⟨i, j, rpInt rc, rpInt rd, g.1, hZ _ _ (mkP S rp_int g.2)⟩
def intG0 (f : Int → Int → D) : D → D → (B → Prop) → Prop
  | .int i, .int j, Q => Q (.p (f i j))
  | _, _, _ => False
theorem rd_intI0 {K : PySem.W.Frag} {f : Int → Int → Int} : RD K (rI0 fun i j => .int (f i j)) (intG0 fun i j => .int (f i j)) := by
  intro W F H σ δ x y c d Q Z S rc rd g hZ
  cases c <;> first | exact g.elim | skip
  cases d <;> first | exact g.elim | skip
  rename_i i j
  exact ⟨i, j, rpInt rc, rpInt rd, hZ _ _ (mkP S rp_int g)⟩
theorem rd_intB0 {K : PySem.W.Frag} {f : Int → Int → Bool} : RD K (rI0 fun i j => .bl (f i j)) (intG0 fun i j => .bl (f i j)) := by
  intro W F H σ δ x y c d Q Z S rc rd g hZ
  cases c <;> first | exact g.elim | skip
  cases d <;> first | exact g.elim | skip
  rename_i i j
  exact ⟨i, j, rpInt rc, rpInt rd, hZ _ _ (mkP S rp_bl g)⟩
def CPowW (i j : Int) : Prop := 0 ≤ j ∧ (Builtin.Int.intBits i : Int) * j ≤ 2 ^ 27
theorem op_powW {X : Cx} : OpR X (binaryOp .Pow) (rI CPowW fun i j => .int (i ^ j.toNat)) := opI fun i j t u s Q E hc q => PyProof.Rows.pow_int hc.1 hc.2 q
def rMulS : R2 := fun x y H Q => ∃ (a : Str) (n : Int), x = .str a ∧ y = .int n ∧ MulOk a n ∧ Q (.str (Txt.mul a n)) H
theorem op_mulS {X : Cx} : OpR X (binaryOp .Mult) rMulS := by
  intro pins s σ H x y v u Q I rx ry h
  obtain ⟨a, n, rfl, rfl, hok, q⟩ := h
  obtain ⟨t, rfl⟩ := rx
  obtain ⟨t', rfl⟩ := ry
  exact SB.mul hok fun t2 k => ⟨.str _, H, I.tok k, ⟨t2, rfl⟩, q⟩
def rMulAll : R2 := fun x y H Q => rI CMulW (fun i j => .int (i * j)) x y H Q ∨ rMulS x y H Q ∨ rRep x y H Q
theorem op_mulAll {X : Cx} : OpR X (binaryOp .Mult) rMulAll := by
  intro pins s σ H x y v u Q I rx ry h
  rcases h with h | h | h
  · exact op_mulW pins s σ H x y v u Q I rx ry h
  · exact op_mulS pins s σ H x y v u Q I rx ry h
  · exact op_rep pins s σ H x y v u Q I rx ry h
def repeatL (k : Nat) (ds : List D) : List D := (List.replicate k ds).flatten
def mulG : D → D → (B → Prop) → Prop
  | .int i, .int j, Q => CMulW i j ∧ Q (.p (.int (i * j)))
  | .str a, .int n, Q => MulOk a n ∧ Q (.p (.str (Txt.mul a n)))
  | .lst a, .int n, Q => (-(2 ^ 63) ≤ n ∧ n < 2 ^ 63 ∧ a.length * n.toNat ≤ sizeLine) ∧ Q (.o (.lst (repeatL n.toNat a)))
  | _, _, _ => False
theorem RpL.rep {K : PySem.W.Frag} {F : Hp} {ds : List D} {xs : List V} (h : RpL K F ds xs) : ∀ n : Nat, RpL K F (repeatL n ds) (List.replicate n xs).flatten
  | 0 => by
    unfold repeatL
    exact .nil
  | n + 1 => by
    unfold repeatL
    rw [List.replicate_succ, List.replicate_succ, List.flatten_cons, List.flatten_cons]
    exact h.append (RpL.rep h n)
theorem rd_mul {K : PySem.W.Frag} : RD K rMulAll mulG := by
  intro W F H σ δ x y c d Q Z S rc rd g hZ
  cases c with
  | int i =>
    cases d <;> first | exact g.elim | skip
    rename_i j
    exact .inl ⟨i, j, rpInt rc, rpInt rd, g.1, hZ _ _ (mkP S rp_int g.2)⟩
  | str a =>
    cases d <;> first | exact g.elim | skip
    rename_i n
    exact .inr (.inl ⟨a, n, rpStr rc, rpInt rd, g.1, hZ _ _ (mkP S rp_str g.2)⟩)
  | lst a =>
    cases d <;> first | exact g.elim | skip
    rename_i n
    obtain ⟨p, xs, rfl, h1, h2⟩ := rpLst rc
    obtain ⟨⟨g1, g2, g3⟩, g4⟩ := g
    refine .inr (.inr ⟨p, n, xs, rfl, rpInt rd, S.fh _ _ h1, g1, g2, by rw [h2.length]; exact g3, fun r hr => hZ _ _ ?_⟩)
    exact DQ.mkO (Q := fun b δ' => δ' = δ ∧ Q b) (d := .lst (repeatL n.toNat a)) S hr ⟨_, upd_same, h2.rep _⟩ ⟨rfl, g4⟩
  | _ => exact g.elim

def flatD : D → Bool
  | .non => true
  | .bl _ => true
  | .int _ => true
  | .str _ => true
  | _ => false
def flatV' : D → V
  | .non => .non
  | .bl b => .bl b
  | .int i => .int i
  | .str s => .str s
  | _ => .non
theorem rpFlat {K : PySem.W.Frag} {F : Hp} {d : D} {v : V} (h : Rp K F d v) (f : flatD d = true) : v = flatV' d ∧ flatV v = true := by
  cases d <;> first | cases f | skip
  · rw [rpNon h]
    exact ⟨rfl, rfl⟩
  · rw [rpBl h]
    exact ⟨rfl, rfl⟩
  · rw [rpInt h]
    exact ⟨rfl, rfl⟩
  · rw [rpStr h]
    exact ⟨rfl, rfl⟩
def eqD (x y : D) : Option Bool := if (flatD x && flatD y && scal (flatV' x) (flatV' y)) = true then some (decide (flatV' x = flatV' y)) else
  (toPy x).bind fun c => (toPy y).bind fun d => if (SeqAt.shaped c && SeqAt.shaped d) = true then some (PyData.eqv c d) else none
def rEqAll (K : PySem.W.Frag) : R2 := fun x y H Q => rEq x y H Q ∨ rEqD K x y H Q
def rNeAll (K : PySem.W.Frag) : R2 := fun x y H Q => rNe x y H Q ∨ rNeD K x y H Q
theorem op_eqAll {X : Cx} (hu : X.A.units + 64 < cLine) : OpR X (compareOp .Eq) (rEqAll X.K) := by
  intro pins s σ H x y v u Q I rx ry h
  rcases h with h | h
  · exact op_eq pins s σ H x y v u Q I rx ry h
  · exact op_eqD hu pins s σ H x y v u Q I rx ry h
theorem op_neAll {X : Cx} (hu : X.A.units + 64 < cLine) : OpR X (compareOp .NotEq) (rNeAll X.K) := by
  intro pins s σ H x y v u Q I rx ry h
  rcases h with h | h
  · exact op_ne pins s σ H x y v u Q I rx ry h
  · exact op_neD hu pins s σ H x y v u Q I rx ry h
def eqG : D → D → (B → Prop) → Prop := fun x y Q => ∃ b, eqD x y = some b ∧ Q (.p (.bl b))
def neG : D → D → (B → Prop) → Prop := fun x y Q => ∃ b, eqD x y = some b ∧ Q (.p (.bl (!b)))
theorem eqD_cases {x y : D} {b : Bool} (h : eqD x y = some b) : (flatD x = true ∧ flatD y = true ∧ scal (flatV' x) (flatV' y) = true ∧ b = decide (flatV' x = flatV' y)) ∨
    ∃ c d, toPy x = some c ∧ toPy y = some d ∧ SeqAt.shaped c = true ∧ SeqAt.shaped d = true ∧ b = PyData.eqv c d := by
  unfold eqD at h
  split at h
  · rename_i z
    rw [Bool.and_eq_true, Bool.and_eq_true] at z
    exact .inl ⟨z.1.1, z.1.2, z.2, (Option.some.inj h).symm⟩
  · cases q1 : toPy x with
    | none =>
      rw [q1] at h
      cases h
    | some c =>
      cases q2 : toPy y with
      | none =>
        rw [q1, q2] at h
        cases h
      | some d =>
        rw [q1, q2] at h
        simp only [Option.bind_some] at h
        split at h
        · rename_i z
          rw [Bool.and_eq_true] at z
          exact .inr ⟨c, d, rfl, rfl, z.1, z.2, (Option.some.inj h).symm⟩
        · cases h
theorem rd_eq {K : PySem.W.Frag} : RD K (rEqAll K) eqG := by
  intro W F H σ δ x y c d Q Z S rc rd g hZ
  obtain ⟨b, hb, q⟩ := g
  rcases eqD_cases hb with ⟨f1, f2, sc, rfl⟩ | ⟨c', d', t1, t2, s1, s2, rfl⟩
  · obtain ⟨e1, _⟩ := rpFlat rc f1
    obtain ⟨e2, _⟩ := rpFlat rd f2
    rw [e1, e2]
    exact .inl ⟨sc, hZ _ _ (mkP S rp_bl q)⟩
  · exact .inr ⟨c', d', Rp.dp S.fh c x c' rc t1, Rp.dp S.fh d y d' rd t2, s1, s2, hZ _ _ (mkP S rp_bl q)⟩
theorem rd_ne {K : PySem.W.Frag} : RD K (rNeAll K) neG := by
  intro W F H σ δ x y c d Q Z S rc rd g hZ
  obtain ⟨b, hb, q⟩ := g
  rcases eqD_cases hb with ⟨f1, f2, sc, rfl⟩ | ⟨c', d', t1, t2, s1, s2, rfl⟩
  · obtain ⟨e1, _⟩ := rpFlat rc f1
    obtain ⟨e2, _⟩ := rpFlat rd f2
    rw [e1, e2]
    exact .inl ⟨sc, hZ _ _ (mkP S rp_bl q)⟩
  · exact .inr ⟨c', d', Rp.dp S.fh c x c' rc t1, Rp.dp S.fh d y d' rd t2, s1, s2, hZ _ _ (mkP S rp_bl q)⟩

def isNon : D → Bool
  | .non => true
  | _ => false
def isNG : D → D → (B → Prop) → Prop
  | x, .non, Q => Q (.p (.bl (isNon x)))
  | _, _, _ => False
def notNG : D → D → (B → Prop) → Prop
  | x, .non, Q => Q (.p (.bl (!isNon x)))
  | _, _, _ => False
def inD (x : D) (ds : List D) : Bool := inV (flatV' x) (ds.map flatV')
def signOf : D → Option Nat
  | .str s => if s.cps.size = 1 then s.cps[0]? else none
  | _ => none
def isIn (x : D) : D → Option Bool
  | .lst ds => if (flatD x && ds.all flatD) = true then some (inD x ds) else none
  | .tup ds => if (flatD x && ds.all flatD) = true then some (inD x ds) else none
  | .cst ds => if (flatD x && ds.all flatD) = true then some (inD x ds) else none
  | .str z => (signOf x).map fun c => decide (c ∈ z.cps.toList)
  | .iset S _ => match x with
    | .int i => some (S i)
    | _ => none
  | _ => none
def rInSg (neg : Bool) : R2 := fun x y H Q => ∃ (c : Nat) (z : Str), x = .str ⟨#[c]⟩ ∧ y = .str z ∧ Q (.bl (if neg then !decide (c ∈ z.cps.toList) else decide (c ∈ z.cps.toList))) H
def rInSet (neg : Bool) : R2 := fun x y H Q => ∃ (i : Int) (a : Addr) (S : Int → Bool) (n : Nat), x = .int i ∧ y = .ref a ∧ H a = some (.set S n) ∧ Q (.bl (if neg then !S i else S i)) H
def rInAll (K : PySem.W.Frag) (neg : Bool) : R2 := fun x y H Q => rIn K neg x y H Q ∨ rInSg neg x y H Q ∨ rInSet neg x y H Q
def inG (neg : Bool) : D → D → (B → Prop) → Prop := fun x y Q => ∃ b, isIn x y = some b ∧ Q (.p (.bl (if neg then !b else b)))
theorem rpL_flat {K : PySem.W.Frag} {F : Hp} : ∀ {ds : List D} {xs : List V}, RpL K F ds xs → ds.all flatD = true → xs = ds.map flatV' ∧ xs.all flatV = true
  | [], xs, h, _ => by
    unfold RpL at h
    rw [h]
    exact ⟨rfl, rfl⟩
  | d :: ds, xs, h, f => by
    unfold RpL at h
    obtain ⟨x, r, rfl, h1, h2⟩ := h
    rw [List.all_cons, Bool.and_eq_true] at f
    obtain ⟨e1, e2⟩ := rpFlat h1 f.1
    obtain ⟨e3, e4⟩ := rpL_flat h2 f.2
    rw [List.map_cons, ← e1, ← e3, List.all_cons, e2, e4]
    exact ⟨rfl, rfl⟩
theorem sign_of {d : D} {c : Nat} (h : signOf d = some c) : d = .str ⟨#[c]⟩ := by
  cases d <;> first | (cases h; done) | skip
  rename_i s
  change (if s.cps.size = 1 then s.cps[0]? else none) = some c at h
  by_cases h1 : s.cps.size = 1
  · rw [if_pos h1] at h
    cases s with
    | mk cps =>
      have h1 : cps.size = 1 := h1
      have h : cps[0]? = some c := h
      have e : cps = #[c] := by
        apply Array.ext
        · rw [h1]; rfl
        · intro i i1 i2
          have : i = 0 := by omega
          subst this
          rw [Array.getElem?_eq_getElem i1] at h
          exact Option.some.inj h
      rw [e]
  · rw [if_neg h1] at h
    cases h
theorem rd_in {K : PySem.W.Frag} {neg : Bool} : RD K (rInAll K neg) (inG neg) := by
  intro W F H σ δ x y c d Q Z S rc rd g hZ
  obtain ⟨b, hb, q⟩ := g
  cases d <;> first | (cases hb; done) | skip
  · rename_i z
    change (signOf c).map (fun c => decide (c ∈ z.cps.toList)) = some b at hb
    cases hs : signOf c with
    | none =>
      rw [hs] at hb
      cases hb
    | some n =>
      rw [hs] at hb
      cases hb
      have rc' := rpStr (sign_of hs ▸ rc)
      exact .inr (.inl ⟨n, z, rc', rpStr rd, hZ _ _ (mkP S rp_bl q)⟩)
  · rename_i ds
    change (if (flatD c && ds.all flatD) = true then some (inD c ds) else none) = some b at hb
    by_cases h1 : (flatD c && ds.all flatD) = true
    · rw [if_pos h1] at hb
      cases hb
      rw [Bool.and_eq_true] at h1
      obtain ⟨p, xs, rfl, h2, h3⟩ := rpLst rd
      obtain ⟨e1, e2⟩ := rpFlat rc h1.1
      obtain ⟨e3, e4⟩ := rpL_flat h3 h1.2
      refine .inl ⟨p, xs, rfl, .inl (SqL.of (S.fh _ _ h2)), e2, e4, hZ _ _ (mkP (d := .bl _) S rp_bl ?_)⟩
      rw [e1, e3]
      exact q
    · rw [if_neg h1] at hb
      cases hb
  · rename_i ds
    change (if (flatD c && ds.all flatD) = true then some (inD c ds) else none) = some b at hb
    by_cases h1 : (flatD c && ds.all flatD) = true
    · rw [if_pos h1] at hb
      cases hb
      rw [Bool.and_eq_true] at h1
      obtain ⟨p, xs, rfl, h2, h3⟩ := rpTup rd
      obtain ⟨e1, e2⟩ := rpFlat rc h1.1
      obtain ⟨e3, e4⟩ := rpL_flat h3 h1.2
      refine .inl ⟨p, xs, rfl, .inr (sqT_mono S.fh h2), e2, e4, hZ _ _ (mkP (d := .bl _) S rp_bl ?_)⟩
      rw [e1, e3]
      exact q
    · rw [if_neg h1] at hb
      cases hb
  · rename_i Sx n
    cases c <;> first | (cases hb; done) | skip
    cases hb
    unfold Rp at rd
    obtain ⟨a, rfl, h1⟩ := rd
    exact .inr (.inr ⟨_, a, _, _, rpInt rc, rfl, S.fh _ _ h1, hZ _ _ (mkP S rp_bl q)⟩)
  · rename_i ds
    change (if (flatD c && ds.all flatD) = true then some (inD c ds) else none) = some b at hb
    by_cases h1 : (flatD c && ds.all flatD) = true
    · rw [if_pos h1] at hb
      cases hb
      rw [Bool.and_eq_true] at h1
      obtain ⟨p, xs, rfl, h2, h3⟩ := rpCst rd
      obtain ⟨e1, e2⟩ := rpFlat rc h1.1
      obtain ⟨e3, e4⟩ := rpL_flat h3 h1.2
      refine .inl ⟨p, xs, rfl, .inr (sqT_mono S.fh h2), e2, e4, hZ _ _ (mkP (d := .bl _) S rp_bl ?_)⟩
      rw [e1, e3]
      exact q
    · rw [if_neg h1] at hb
      cases hb
theorem op_inAll {X : Cx} : OpR X (compareOp .In) (rInAll X.K false) := by
  intro pins s σ H x y v u Q I rx ry h
  rcases h with h | h | h
  · exact op_in_seq pins s σ H x y v u Q I rx ry h
  · exact op_in_sign pins s σ H x y v u Q I rx ry h
  · obtain ⟨i, a, S, n, rfl, rfl, h1, q⟩ := h
    obtain ⟨t, rfl⟩ := rx
    cases ry
    exact wpAny_inSet_of (intKind_is _ _ _ _) rfl (show s.heap.SetOf (intKind X.prog X.w) a S n from I.hok a _ h1) ⟨.bl (S i), H, I.tok _, rfl, q⟩
theorem op_notInAll {X : Cx} : OpR X (compareOp .NotIn) (rInAll X.K true) := by
  intro pins s σ H x y v u Q I rx ry h
  rcases h with h | h | h
  · exact op_notIn_seq pins s σ H x y v u Q I rx ry h
  · exact op_notIn_sign pins s σ H x y v u Q I rx ry h
  · obtain ⟨i, a, S, n, rfl, rfl, h1, q⟩ := h
    obtain ⟨t, rfl⟩ := rx
    cases ry
    exact wpAny_notInSet_of (intKind_is _ _ _ _) rfl (show s.heap.SetOf (intKind X.prog X.w) a S n from I.hok a _ h1) ⟨.bl (!S i), H, I.tok _, rfl, q⟩
end DD

set_option Elab.async false
set_option linter.all false
set_option maxRecDepth 100000
set_option maxHeartbeats 4000000
namespace DD
open PySem PySem.Spec PyProof.Rows L2

def RC (K : PySem.W.Frag) (r : List V → Hp → VK → Prop) (g : List D → (B → Prop) → Prop) : Prop :=
  ∀ (W : Fix) (F H : Hp) (σ : L2.St) (δ : Env') (xs : List V) (ds : List D) (Q : B → Prop) (Z : VK), SD K W F H σ δ → RpL K F ds xs → g ds Q →
    (∀ v H', DQ K W F σ (fun b δ' => δ' = δ ∧ Q b) v H' → Z v H') → r xs H Z
def dCB (g : List D → (B → Prop) → Prop) (t : TDA) : TD := fun δ Q => t δ fun ds δ1 => g ds fun b => Q b δ1
section
variable {X : Cx} {W : Fix} {x : Str} {p pos : Pos} {e : Expr} {es : List Expr} {t : TDA} {id T : String} {r : List V → Hp → VK → Prop} {g : List D → (B → Prop) → Prop}
theorem de_callB (hc : CallR X (.builtin id) r) (hr : RC X.K r g) (hg : Gl X x) (hm : X.mg x = none) (hv : bootBuiltins x = some (.builtin id)) (h : DA X W (e :: es) t) (hn : x ≠ "__name__" := by decide) (hdb : (x == ("__debug__" : Str)) = false := by decide)
    (he : starEach (e :: es) X.env = (false, eval e X.env) :: starEach es X.env := by rfl) (hpl : (backTo pos (starEach es X.env)).any (·.1) = false := by rfl) : DE X W (.Call (.Name x p) (e :: es) [] pos) (dCB g t) :=
  .of (pe_callB (X := X) hc hg hm hv cA_pa hn hdb he hpl) fun F H σ δ Q S q => by
    refine (h.run F H σ δ _ S q).imp fun vs H1 h1 => ?_
    obtain ⟨F1, ds, δ1, e1, S1, r1, q1⟩ := h1
    exact hr W F1 H1 σ δ1 vs ds _ _ S1 r1 q1 fun v H' h => h.fix e1
theorem de_callTy (hc : CallR X (.type T) r) (hr : RC X.K r g) (hg : Gl X x) (hm : X.mg x = none) (hv : bootBuiltins x = some (.type T)) (h : DA X W (e :: es) t) (hn : x ≠ "__name__" := by decide) (hdb : (x == ("__debug__" : Str)) = false := by decide)
    (he : starEach (e :: es) X.env = (false, eval e X.env) :: starEach es X.env := by rfl) (hpl : (backTo pos (starEach es X.env)).any (·.1) = false := by rfl) : DE X W (.Call (.Name x p) (e :: es) [] pos) (dCB g t) :=
  .of (pe_callTy (X := X) hc hg hm hv cA_pa hn hdb he hpl) fun F H σ δ Q S q => by
    refine (h.run F H σ δ _ S q).imp fun vs H1 h1 => ?_
    obtain ⟨F1, ds, δ1, e1, S1, r1, q1⟩ := h1
    exact hr W F1 H1 σ δ1 vs ds _ _ S1 r1 q1 fun v H' h => h.fix e1
end

def lenD : D → Option Nat
  | .lst ds => some ds.length
  | .tup ds => some ds.length
  | .str s => if s.length ≤ sizeLine then some s.length else none
  | .scr ns => some ns.length
  | .cst ds => some ds.length
  | _ => none
def rLenAll (K : PySem.W.Frag) : List V → Hp → VK → Prop := fun xs H Q => (∃ p ys, xs = [.ref p] ∧ (SqL K H p ys ∨ SqT K H p ys) ∧ Q (.int ys.length) H) ∨ ∃ z, xs = [.str z] ∧ z.length ≤ sizeLine ∧ Q (.int z.length) H
theorem cr_lenAll {X : Cx} : CallR X (.builtin "len") (rLenAll X.K) := by
  intro pins s σ H xs us Q I r h
  rcases h with h | h
  · exact call_len_seq pins s σ H xs us Q I r h
  · exact call_len_str pins s σ H xs us Q I r h
def lenG : List D → (B → Prop) → Prop := fun ds Q => ∃ d n, ds = [d] ∧ lenD d = some n ∧ Q (.p (.int (n : Nat)))
theorem rc_len {K : PySem.W.Frag} : RC K (rLenAll K) lenG := by
  intro W F H σ δ xs ds Q Z S r g hZ
  obtain ⟨d, n, rfl, hn, q⟩ := g
  obtain ⟨v, rfl, rv⟩ := rpL1 r
  cases d <;> first | (cases hn; done) | skip
  · rename_i s
    change (if s.length ≤ sizeLine then some s.length else none) = some n at hn
    by_cases hz : s.length ≤ sizeLine
    · rw [if_pos hz] at hn
      cases hn
      exact .inr ⟨s, by rw [rpStr rv], hz, hZ _ _ (mkP S rp_int q)⟩
    · rw [if_neg hz] at hn
      cases hn
  · cases hn
    obtain ⟨a, ys, rfl, h1, h2⟩ := rpLst rv
    refine .inl ⟨a, ys, rfl, .inl (SqL.of (S.fh _ _ h1)), hZ _ _ (mkP (d := .int _) S rp_int ?_)⟩
    rw [h2.length]
    exact q
  · cases hn
    obtain ⟨a, ys, rfl, h1, h2⟩ := rpTup rv
    refine .inl ⟨a, ys, rfl, .inr (sqT_mono S.fh h1), hZ _ _ (mkP (d := .int _) S rp_int ?_)⟩
    rw [h2.length]
    exact q
  · cases hn
    unfold Rp at rv
    obtain ⟨a, rfl, h1⟩ := rv
    refine .inl ⟨a, _, rfl, .inl (S.fh.seq h1.seq), hZ _ _ (mkP (d := .int _) S rp_int ?_)⟩
    rw [List.length_map]
    exact q
  · cases hn
    obtain ⟨a, ys, rfl, h1, h2⟩ := rpCst rv
    refine .inl ⟨a, ys, rfl, .inr (sqT_mono S.fh h1), hZ _ _ (mkP (d := .int _) S rp_int ?_)⟩
    rw [h2.length]
    exact q

def tyD : D → Option String
  | .non => some "NoneType"
  | .bl _ => some "bool"
  | .int _ => some "int"
  | .str _ => some "str"
  | .lst _ => some "list"
  | .tup _ => some "tuple"
  | .dct _ _ => some "dict"
  | .iset _ _ => some "set"
  | .cst _ => some "tuple"
  | _ => none
def clsD : D → Option Value
  | .ty n => some (.type n)
  | .ref a => some (.ref a)
  | _ => none
def isiG (K : PySem.W.Frag) : List D → (B → Prop) → Prop := fun ds Q => ∃ x c t u b, ds = [x, c] ∧ tyD x = some t ∧ clsD c = some u ∧ PySem.W.kitOne K (.type t) u = some b ∧ Q (.p (.bl b))
theorem rp_tyX {K : PySem.W.Frag} {F H : Hp} (e : Same F H) {d : D} {v : V} {t : String} (r : Rp K F d v) (h : tyD d = some t) : TyX K H v (.type t) := by
  cases d <;> first | (cases h; done) | skip
  · cases h
    rw [rpNon r]
    exact .base .non
  · cases h
    rw [rpBl r]
    exact .base (.bl _)
  · cases h
    rw [rpInt r]
    exact .base (.int _)
  · cases h
    rw [rpStr r]
    exact .base (.str _)
  · cases h
    obtain ⟨a, xs, rfl, h1, _⟩ := rpLst r
    exact .base (.lst (e _ _ h1))
  · cases h
    obtain ⟨a, xs, rfl, h1, _⟩ := rpTup r
    rcases sqT_mono e h1 with (h2 | ⟨o, h2⟩) | ⟨o, its, n, h2, h3, _⟩
    · exact .base (.tup h2)
    · exact .fTuple h2
    · exact .kTuple h2 h3
  · cases h
    unfold Rp at r
    obtain ⟨a, xs, rfl, h1, _⟩ := r
    exact .base (.dK (e _ _ h1))
  · cases h
    unfold Rp at r
    obtain ⟨a, rfl, h1⟩ := r
    exact .set (e _ _ h1)
  · cases h
    obtain ⟨a, xs, rfl, h1, _⟩ := rpCst r
    rcases sqT_mono e h1 with (h2 | ⟨o, h2⟩) | ⟨o, its, n, h2, h3, _⟩
    · exact .base (.tup h2)
    · exact .fTuple h2
    · exact .kTuple h2 h3
theorem rc_isi {K : PySem.W.Frag} : RC K (rIsi K) (isiG K) := by
  intro W F H σ δ xs ds Q Z S r g hZ
  obtain ⟨x, c, t, u, b, rfl, h1, h2, h3, q⟩ := g
  obtain ⟨v, w, rfl, rv, rw'⟩ := rpL2 r
  have hc : ClsV w u := by
    cases c <;> first | (cases h2; done) | skip
    · cases h2
      rw [rpTy rw']
      exact .ty _
    · cases h2
      unfold Rp at rw'
      rw [rw']
      exact .own _
  exact ⟨v, w, _, u, b, rfl, hc, rp_tyX S.fh rv h1, h3, hZ _ _ (mkP S rp_bl q)⟩

def intOf : D → Option Int
  | .int i => some i
  | .bl k => some (if k then 1 else 0)
  | _ => none
def intCG : List D → (B → Prop) → Prop := fun ds Q => ∃ d i, ds = [d] ∧ intOf d = some i ∧ Q (.p (.int i))
theorem rc_int {K : PySem.W.Frag} : RC K (fun xs H Q => (∃ i, xs = [.int i] ∧ Q (.int i) H) ∨ ∃ k, xs = [.bl k] ∧ Q (.int (if k then 1 else 0)) H) intCG := by
  intro W F H σ δ xs ds Q Z S r g hZ
  obtain ⟨d, i, rfl, h1, q⟩ := g
  obtain ⟨v, rfl, rv⟩ := rpL1 r
  cases d <;> first | (cases h1; done) | skip
  · cases h1
    exact .inr ⟨_, by rw [rpBl rv], hZ _ _ (mkP S rp_int q)⟩
  · cases h1
    exact .inl ⟨_, by rw [rpInt rv], hZ _ _ (mkP S rp_int q)⟩
def maxG : List D → (B → Prop) → Prop := fun ds Q => ∃ i j : Int, ds = [.int i, .int j] ∧ Q (.p (.int (if j > i then j else i)))
theorem rc_max {K : PySem.W.Frag} : RC K (fun xs H Q => ∃ i j, xs = [.int i, .int j] ∧ Q (.int (if j > i then j else i)) H) maxG := by
  intro W F H σ δ xs ds Q Z S r g hZ
  obtain ⟨i, j, rfl, q⟩ := g
  obtain ⟨v, w, rfl, rv, rw'⟩ := rpL2 r
  exact ⟨i, j, by rw [rpInt rv, rpInt rw'], hZ _ _ (mkP S rp_int q)⟩
def seqD : D → Option (List D)
  | .lst ds => some ds
  | .tup ds => some ds
  | _ => none
theorem rp_seq {K : PySem.W.Frag} {F H : Hp} (e : Same F H) {d : D} {ds : List D} {v : V} (r : Rp K F d v) (h : seqD d = some ds) : ∃ a xs, v = .ref a ∧ (SqL K H a xs ∨ SqT K H a xs) ∧ RpL K F ds xs := by
  cases d <;> first | (cases h; done) | skip
  · cases h
    obtain ⟨a, xs, rfl, h1, h2⟩ := rpLst r
    exact ⟨a, xs, rfl, .inl (SqL.of (e _ _ h1)), h2⟩
  · cases h
    obtain ⟨a, xs, rfl, h1, h2⟩ := rpTup r
    exact ⟨a, xs, rfl, .inr (sqT_mono e h1), h2⟩
def listG : List D → (B → Prop) → Prop := fun ds Q => ∃ d es, ds = [d] ∧ seqD d = some es ∧ Q (.o (.lst es))
theorem rc_list {K : PySem.W.Frag} : RC K (fun xs H Q => ∃ p ys, xs = [.ref p] ∧ (SqL K H p ys ∨ SqT K H p ys) ∧ ∀ l, H l = none → Q (.ref l) (upd H l (.lst ys))) listG := by
  intro W F H σ δ xs ds Q Z S r g hZ
  obtain ⟨d, es, rfl, h1, q⟩ := g
  obtain ⟨v, rfl, rv⟩ := rpL1 r
  obtain ⟨a, ys, rfl, h2, h3⟩ := rp_seq S.fh rv h1
  exact ⟨a, ys, rfl, h2, fun l hl => hZ _ _ (DQ.mkO (Q := fun b δ' => δ' = δ ∧ Q b) (d := .lst es) S hl ⟨ys, upd_same, h3⟩ ⟨rfl, q⟩)⟩
def tupleG : List D → (B → Prop) → Prop := fun ds Q => ∃ d es, ds = [d] ∧ seqD d = some es ∧ Q (.p (.tup es))
theorem rc_tuple {K : PySem.W.Frag} : RC K (fun xs H Q => ∃ p ys, xs = [.ref p] ∧ ((SqL K H p ys ∧ ∀ l, H l = none → Q (.ref l) (upd H l (.tup ys))) ∨ (SqT K H p ys ∧ Q (.ref p) H))) tupleG := by
  intro W F H σ δ xs ds Q Z S r g hZ
  obtain ⟨d, es, rfl, h1, q⟩ := g
  obtain ⟨v, rfl, rv⟩ := rpL1 r
  cases d <;> first | (cases h1; done) | skip
  · cases h1
    obtain ⟨a, ys, rfl, h2, h3⟩ := rpLst rv
    exact ⟨a, ys, rfl, .inl ⟨SqL.of (S.fh _ _ h2), fun l hl => hZ _ _ (DQ.mkN (Q := fun b δ' => δ' = δ ∧ Q b) S hl (rp_tupN h3 (S.freshF hl)) ⟨rfl, q⟩)⟩⟩
  · cases h1
    obtain ⟨a, ys, rfl, h2, h3⟩ := rpTup rv
    exact ⟨a, ys, rfl, .inr ⟨sqT_mono S.fh h2, hZ _ _ (mkP S rv q)⟩⟩

def metIn (ns : List Int) (k : Int) : Bool := ns.any (· == k)
def rSetL (K : PySem.W.Frag) : List V → Hp → VK → Prop := fun xs H Q => ∃ a, ∃ ns : List Int, xs = [.ref a] ∧ SqL K H a (ns.map V.int) ∧ ns.length < 4000 ∧ ∀ p n, H p = none → Q (.ref p) (upd H p (.set (metIn ns) n))
def cK (X : Cx) (kws : List Keyword) : TA := fun σ H Q => ∀ (pos : Pos) (pins : List (Addr × Obj)) (s : Shared), Inv X pins σ H s → wpAny (model X.prog X.w) X.A (evalAll ((backToKw pos (keywordEach kws X.env)).map (·.2))) (AP X pins σ Q) X.xe s
theorem cK.imp {X : Cx} {kws : List Keyword} {σ : L2.St} {H : Hp} {Q Q' : List V → Hp → Prop} (h : cK X kws σ H Q) (i : ∀ v H', Q v H' → Q' v H') : cK X kws σ H Q' := fun pos pins s I => thn (h pos pins s I) fun u s' q => by
  obtain ⟨v, H', I', r, q⟩ := q
  exact ⟨v, H', I', r, i v H' q⟩
section
variable {X : Cx} {W : Fix} {x : Str} {p pos kpos : Pos} {e : Expr} {es : List Expr} {kws : List Keyword} {te : TD} {t tk : TDA} {id : String} {nm : Option Str} {ks : List Str}
def dCBK (g : List D → List D → (B → Prop) → Prop) (t tk : TDA) : TD := fun δ Q => t δ fun ds δ1 => tk δ1 fun fs δ2 => g ds fs fun b => Q b δ2
end
def itemD : D → D → Option D
  | .lst ds, .int i => atI ds i
  | .tup ds, .int i => atI ds i
  | .str z, .int i => if z.length ≤ sizeLine then (atI z.cps.toList i).map fun c => .str ⟨#[c]⟩ else none
  | .scr ns, .int i => (atI ns i).map D.int
  | .cst ds, .int i => atI ds i
  | _, _ => none
def ixG : D → D → (B → Prop) → Prop := fun x y Q => ∃ d, itemD x y = some d ∧ Q (.p d)
theorem rpL_atI {K : PySem.W.Frag} {F : Hp} {ds : List D} {xs : List V} {i : Int} {d : D} (h : RpL K F ds xs) (e : atI ds i = some d) : ∃ x, atI xs i = some x ∧ Rp K F d x := by
  unfold atI at e ⊢
  rw [h.length]
  cases q : ixN ds.length i with
  | none =>
    rw [q] at e
    cases e
  | some j =>
    rw [q] at e
    exact h.get e
theorem rd_ix {K : PySem.W.Frag} : RD K (rIx K) ixG := by
  intro W F H σ δ x y c d Q Z S rc rd g hZ
  obtain ⟨r, hr, q⟩ := g
  cases c <;> first | (cases d <;> (cases hr; done)) | skip
  · cases d <;> first | (cases hr; done) | skip
    rename_i z i
    change (if z.length ≤ sizeLine then (atI z.cps.toList i).map fun c => D.str ⟨#[c]⟩ else none) = some r at hr
    by_cases hz : z.length ≤ sizeLine
    · rw [if_pos hz] at hr
      cases e : atI z.cps.toList i with
      | none =>
        rw [e] at hr
        cases hr
      | some c =>
        rw [e] at hr
        cases hr
        exact .inr (.inr ⟨z, i, c, rpStr rc, rpInt rd, hz, e, hZ _ _ (mkP S rp_str q)⟩)
    · rw [if_neg hz] at hr
      cases hr
  · cases d <;> first | (cases hr; done) | skip
    obtain ⟨a, xs, rfl, h1, h2⟩ := rpLst rc
    obtain ⟨v, h3, h4⟩ := rpL_atI h2 hr
    exact .inl ⟨a, xs, _, v, rfl, rpInt rd, SqL.of (S.fh _ _ h1), h3, hZ _ _ (mkP S h4 q)⟩
  · cases d <;> first | (cases hr; done) | skip
    obtain ⟨a, xs, rfl, h1, h2⟩ := rpTup rc
    obtain ⟨v, h3, h4⟩ := rpL_atI h2 hr
    exact .inr (.inl ⟨a, xs, _, v, rfl, rpInt rd, sqT_mono S.fh h1, h3, hZ _ _ (mkP S h4 q)⟩)
  · cases d <;> first | (cases hr; done) | skip
    rename_i ns j
    unfold Rp at rc
    obtain ⟨a, rfl, h1⟩ := rc
    cases e : atI ns j with
    | none =>
      have hr : (atI ns j).map D.int = some r := hr
      rw [e] at hr
      cases hr
    | some m =>
      have hr : (atI ns j).map D.int = some r := hr
      rw [e] at hr
      cases hr
      have em : atI (ns.map V.int) j = some (.int m) := by
        unfold atI at e ⊢
        rw [List.length_map]
        cases g : ixN ns.length j with
        | none =>
          rw [g] at e
          cases e
        | some l =>
          rw [g] at e
          have e : ns[l]? = some m := e
          show (ns.map V.int)[l]? = _
          rw [List.getElem?_map, e]
          rfl
      exact .inl ⟨a, _, _, _, rfl, rpInt rd, S.fh.seq h1.seq, em, hZ _ _ (mkP S rp_int q)⟩
  · cases d <;> first | (cases hr; done) | skip
    obtain ⟨a, xs, rfl, h1, h2⟩ := rpCst rc
    obtain ⟨v, h3, h4⟩ := rpL_atI h2 hr
    exact .inr (.inl ⟨a, xs, _, v, rfl, rpInt rd, sqT_mono S.fh h1, h3, hZ _ _ (mkP S h4 q)⟩)
theorem de_ix {X : Cx} {W : Fix} {a b : Expr} {ta tb : TD} {pos : Pos} (ha : DE X W a ta) (hb : DE X W b tb) (hs : PlainIx b) : DE X W (.Subscript a b pos) (dOp ixG ta tb) :=
  .of (pe_ix (X := X) ix_seq cE_pe cE_pe hs) fun _ _ _ _ _ S q => two ha hb rd_ix S q
def dNo : Env' → (Option Int → Env' → Prop) → Prop := fun δ Q => Q none δ
def dPart (t : TD) : Env' → (Option Int → Env' → Prop) → Prop := fun δ Q => dp t δ fun d δ' => ∃ i, d = .int i ∧ Q (some i) δ'
def cutD (ds : List D) (lo hi : Option Int) : List D := (ds.drop (HT.sIx ds.length 0 lo)).take (HT.sIx ds.length ds.length hi - HT.sIx ds.length 0 lo)
def slG : D → Option Int → Option Int → (B → Prop) → Prop
  | .lst ds, lo, hi, Q => Q (.o (.lst (cutD ds lo hi)))
  | .tup ds, lo, hi, Q => ¬ (HT.sIx ds.length 0 lo = 0 ∧ HT.sIx ds.length ds.length hi = ds.length) ∧ Q (.p (.tup (cutD ds lo hi)))
  | .str z, lo, hi, Q => z.length ≤ sizeLine ∧ Q (.p (.str (cutS z lo hi)))
  | _, _, _, _ => False
def dSl (te : TD) (tl th : Env' → (Option Int → Env' → Prop) → Prop) : TD := fun δ Q => dp te δ fun d δ1 => tl δ1 fun lo δ2 => th δ2 fun hi δ3 => slG d lo hi fun b => Q b δ3
def dM1 (g : Str → D → (B → Prop) → Prop) (to te : TD) : TD := fun δ Q => dp to δ fun x δ1 => ∃ a, x = .str a ∧ dp te δ1 fun y δ2 => g a y fun z => Q z δ2
def joinG : Str → D → (B → Prop) → Prop := fun a y Q => ∃ ys : List Str, seqD y = some (ys.map D.str) ∧ (ys.map (·.length)).sum + ys.length * a.length ≤ 16777216 ∧ Q (.p (.str (Txt.join a ys)))
def findG : Str → D → (B → Prop) → Prop := fun a y Q => ∃ b : Str, y = .str b ∧ Q (.p (.int (Txt.find a b)))
section
variable {X : Cx} {W : Fix} {o e : Expr} {to te : TD} {apos pos : Pos}
theorem de_join (ho : DE X W o to) (h : DE X W e te) (hs : starEach [e] X.env = [(false, eval e X.env)] := by rfl) (hbase : attributeBase o "join" X.env (eval o X.env) = eval o X.env := by rfl) (hline : (apos.endLine == pos.line) = true := by rfl) :
    DE X W (.Call (.Attribute o "join" apos) [e] [] pos) (dM1 joinG to te) :=
  .of (pe_join (X := X) cE_pe cE_pe hs hbase hline) fun F H σ δ Q S q => by
    refine (ho.plain S q).imp fun v H1 h1 => ?_
    obtain ⟨F1, d, δ1, e1, S1, r1, a, rfl, q1⟩ := h1
    refine ⟨⟨a, rpStr r1⟩, (h.plain S1 q1).imp fun u H2 h2 => ?_⟩
    obtain ⟨F2, y, δ2, e2, S2, r2, ys, hy, hz, q2⟩ := h2
    obtain ⟨p, xs, rfl, h3, h4⟩ := rp_seq S2.fh r2 hy
    rw [RpL.str h4] at h3
    exact ⟨a, p, ys, rpStr r1, rfl, h3, hz, (mkP (Q := fun b => Q b δ2) S2 rp_str q2).fix (e1.trans e2)⟩
theorem de_find (ho : DE X W o to) (h : DE X W e te) (hs : starEach [e] X.env = [(false, eval e X.env)] := by rfl) (hbase : attributeBase o "find" X.env (eval o X.env) = eval o X.env := by rfl) (hline : (apos.endLine == pos.line) = true := by rfl) :
    DE X W (.Call (.Attribute o "find" apos) [e] [] pos) (dM1 findG to te) :=
  .of (pe_m1 (X := X) F.slot_str_find F.type_str_find mt_find cE_pe cE_pe hs hbase hline) fun F H σ δ Q S q => by
    refine (ho.plain S q).imp fun v H1 h1 => ?_
    obtain ⟨F1, d, δ1, e1, S1, r1, a, rfl, q1⟩ := h1
    refine ⟨⟨a, rpStr r1⟩, (h.plain S1 q1).imp fun u H2 h2 => ?_⟩
    obtain ⟨F2, y, δ2, e2, S2, r2, b, rfl, q2⟩ := h2
    exact ⟨a, b, rpStr r1, by rw [rpStr r2], (mkP (Q := fun b => Q b δ2) S2 rp_int q2).fix (e1.trans e2)⟩
end

section
variable {X : Cx} {W : Fix} {e : Expr} {te : TD} {apos pos p spos : Pos} {i : Nat} {x : Str}
theorem SD.own_turn {K : PySem.W.Frag} {F H : Hp} {σ : L2.St} {δ : Env'} {d d' : D} {a : Addr} {o : HO} (S : SD K W F H σ δ) (hi : δ[i]? = some (some (.o d))) (ha : σ[i]? = some (some (.ref a))) (ho : Own K F (upd H a o) d' a) :
    SD K W F (upd H a o) σ (δ.set i (some (.o d'))) := by
  obtain ⟨v, e1, a', rfl, hF, h0, hO⟩ := S.get i _ hi
  rw [ha] at e1
  cases e1
  have S1 := (SD.drop (i := i) S).turn (o := o) h0 hF fun j c h1 h2 h3 => by
    by_cases ej : j = i
    · subst ej
      have hl : j < δ.length := (List.getElem?_eq_some_iff.mp hi).1
      rw [List.getElem?_set_self hl] at h1
      cases h1
    · rw [List.getElem?_set_ne (Ne.symm ej)] at h1
      exact S.sep i j _ c _ (Ne.symm ej) hi rfl h1 h2 ha h3
  have S2 := S1.put (i := i) (v := .ref a) (b := .o d') ⟨a, rfl, hF, h0, ho⟩ fun _ j c h1 h2 h3 h4 => by
    rw [List.getElem?_set_ne (Ne.symm h3)] at h1
    exact S.sep i j _ c _ (Ne.symm h3) hi rfl h1 h2 ha h4
  rw [set_noop ha, List.set_set] at S2
  exact S2
def dApp (i : Nat) (te : TD) : TSD := fun Z δ => (∃ ds, δ[i]? = some (some (.o (.lst ds)))) ∧ dp te δ fun d δ1 => ∃ ds, δ1[i]? = some (some (.o (.lst ds))) ∧ ds.length < sizeLine ∧ Z.nx (δ1.set i (some (.o (.lst (ds ++ [d])))))
theorem ds_append (hN : X.N[i]? = some x) (hv : Vis X.env.scope x) (h : DE X W e te) (hd : (x == ("__debug__" : Str)) = false := by decide) (hcd : (x == ("__classdict__" : Str)) = false := by decide)
    (hpe : ∀ ta : TE, PE X e ta → PE X (.Call (.Attribute (.Name x p) "append" apos) [e] [] pos) (tBM X.K "list" rAppend (tVar i) (tCons ta tNil))) (hs : swapsWith (.Call (.Attribute (.Name x p) "append" apos) [e] [] pos) none spos.line X.env = pure false := by rfl) :
    DS X W (.Expr (.Call (.Attribute (.Name x p) "append" apos) [e] [] pos) spos) (dApp i te) :=
  .of (ps_expr (X := X) (hpe _ cE_pe) hs) fun F H σ δ Z S q => by
    obtain ⟨⟨ds0, h0⟩, q⟩ := q
    obtain ⟨v0, hv0, a, rfl, hF, hH0, hO⟩ := S.get i _ h0
    obtain ⟨xs0, hx0, rx0⟩ := hO
    refine ⟨.ref a, hv0, .inl ⟨rfl, xs0, SqL.of hx0⟩, (h.plain S q).imp fun v H1 h1 => ?_⟩
    obtain ⟨F1, d, δ1, e1, S1, r1, ds, hi, hz, q1⟩ := h1
    obtain ⟨v1, hv1, a', rfl, hF1, _, xs, hx, rx⟩ := S1.get i _ hi
    rw [hv0] at hv1
    cases hv1
    refine ⟨a, xs, v, rfl, rfl, hx, by rw [rx.length]; exact hz, F1, _, S1.own_turn (d' := .lst (ds ++ [d])) hi hv0 ⟨_, upd_same, rx.append (.cons r1 .nil)⟩, q1⟩
end
end DD

set_option Elab.async false
set_option linter.all false
set_option maxRecDepth 100000
set_option maxHeartbeats 4000000
namespace DD
open PySem PySem.Spec PyProof.Rows L2

def ixBody (p : Nat → Pos) : List Stmt :=
  [.Expr (.Call (.Attribute (.Call (.Name "super" (p 0)) [] [] (p 1)) "__init__" (p 2)) [.Name "value" (p 3)] [] (p 4)) (p 5),
   .Assign [.Attribute (.Name "self" (p 6)) "value" (p 7)] (.Name "value" (p 8)) (p 9)]
abbrev ixNames : List (Str × NameKind) := [("self", .local), ("value", .local), ("__class__", .free), ("super", .globalImplicit)]
abbrev ixScope : Scope := { kind := .function, names := ixNames, isGenerator := false, isCoroutine := false, more := [] }
structure OwnX (P : Program) (K : PySem.W.Frag) (C fI : Addr) : Prop where
  T : OexC K C
  iC : PySem.W.findIn K (.ref C) "__init__" = some (some (.ref fI))
  tI : PySem.W.typeIn K (.ref fI) = some (.type "function")
  hno : PySem.W.findIn K (.ref C) "value" = some none
  sup : PySem.W.nsIn K mainGlobals "super" = some none
  opq : PySem.W.nsIn K cStatics "thirdparty.any" = some none
  hm : PySem.W.ks_superIn K C C "__init__" = some (some (.builtin "ValueError.__init__"))
  hB : PySem.W.subIn K (.ref C) (.type "ValueError") = some true
  hD : PySem.W.mroIn K C (.ref C) = some true
  top : (P.main.scope.names.lookup ("super" : Str)).isSome = false
  fn : ∃ (oc : Value) (od : Option Addr) (qual : Str) (params : Arguments) (p : Nat → Pos) (dV kV doc pm ct ccl cl : Value) (an : Option Addr) (cda cc : Addr) (osl ccs csl : Array (Option Value)) (cdd cld : Option Addr) (vs : Array Value) (file : Str) (tf : Tok) (ar : PySem.Arg) (pl : Sem Bool),
    K.lookup fI = some ⟨oc, od, .func (PySem.W.ksFn "__init__" qual params (ixBody p) ixScope dV kV doc pm an (.ref cda) ct cc), osl⟩ ∧ PySem.W.codeIn K (.ref cda) qual = true ∧
    K.lookup cda = some ⟨ccl, cdd, .fields vs, ccs⟩ ∧ vs[2]? = some (.str file tf) ∧ ((P.main.file : Str) == file) = true ∧ K.lookup cc = some ⟨cl, cld, .cell (some (.ref C)), csl⟩ ∧
    (params.posonlyargs ++ params.args).head? = some ar ∧ ar.arg = "self" ∧
    (∀ (s : Shared) (x u : Value), K.In s.heap → BindsTo s (PySem.W.ksFn "__init__" qual params (ixBody p) ixScope dV kV doc pm an (.ref cda) ct cc) ⟨[x, u], []⟩ [(("self" : Str), x), (("value" : Str), u)]) ∧
    (∀ L : Addr, eval (.Call (.Attribute (.Call (.Name "super" (p 0)) [] [] (p 1)) "__init__" (p 2)) [.Name "value" (p 3)] [] (p 4)) (PySem.W.ksEnv qual ixScope L fI (.ref cda) cc) = (do
      let ov ← attributeBase (.Call (.Name "super" (p 0)) [] [] (p 1)) "__init__" (PySem.W.ksEnv qual ixScope L fI (.ref cda) cc) (eval (.Call (.Name "super" (p 0)) [] [] (p 1)) (PySem.W.ksEnv qual ixScope L fI (.ref cda) cc))
      standAt (p 2).atName
      let (f, first) ← holding [ov] (getMethod ov "__init__" pl)
      callWith (p 4) f first (backTo (p 4) (starEach [.Name "value" (p 3)] (PySem.W.ksEnv qual ixScope L fI (.ref cda) cc))) []))

theorem own_binds {K : PySem.W.Frag} {fd : FuncData} {T : Addr} {o : Obj} {its : Array Value} {n : Nat} (lT : K.lookup T = some o) (oT : o.data = .seq its n)
    (h : ∀ x u : Value, ∃ k, bindArgs fd ⟨[x, u], []⟩ = seqItems? (.ref T) >>= k ∧ k (some its) = pure [(("self" : Str), x), (("value" : Str), u)]) (s : Shared) (x u : Value) (X : K.In s.heap) : BindsTo s fd ⟨[x, u], []⟩ [(("self" : Str), x), (("value" : Str), u)] := by
  obtain ⟨k, e1, e2⟩ := h x u
  refine BindsTo.of_looks fun M => ?_
  rw [e1]
  exact looks_items X lT oT (.of_pure e2)
section
variable {prog : Program} {w : World} {A : Around} {E : Value → Shared → Prop} {R : Result → Shared → Prop}
structure IxEnd (h h' : Heap) (x C : Addr) (v : Value) : Prop where
  keep : ∀ b o, b ≠ x → h.get? b = some o → h'.get? b = some o
  obj : ∃ (t1 dx : Addr), h'.get? x = some ({ cls := .ref C, dict := some dx, data := .fields #[.ref t1, .none, .none, .none, .bool false, .none] } : Obj) ∧ h.get? dx = none ∧ dx ≠ x ∧ h'.Ns1 dx (fun y => if y = ("value" : Str) then some v else none)

theorem call_vw {h : Heap} {g : Array GenState} {d : Drawn} {t : Nat} {os : OsState} {nm q : Str} {C N : Addr} {bs bm : List Value} {hdct : Bool} {sn : List Str} {sub : List Value} {ab : Bool} {col : Option Bool} {dd : Option Addr} {k0 k1 k2 k3 k5 : Option Value} {u e t0 : Addr} {rest : List Value} {Q : Value → Shared → Prop}
    (hC : h.get? C = some (excClassObj nm q C N bs bm hdct sn sub ab col dd k0 k1 k2 k3 k5 "ValueError.__new__")) (he : h.get? e = some (PySem.HandSPX.excO C t0)) (hu : h.get? u = some (PySem.W.kxs_mw "ValueError.__init__" e)) (hz : rest.length ≤ sizeLine)
    (hq : ∀ h' t1, (∀ b o, b ≠ e → h.get? b = some o → h'.get? b = some o) → h'.get? e = some (PySem.HandSPX.excO C t1) → Q .none ⟨h', g, d, t, os⟩) :
    wpAny (model prog w) A (call (.ref u) rest) Q E ⟨h, g, d, t, os⟩ := by
  refine wpAny_call (codeAny_of_tree ?_)
  show wpAny _ A.in1 (callAny (.ref u) ⟨rest, []⟩) _ _ _
  simp only [callAny]
  refine wpAny_bind (wpAny_load hu ?_)
  simp only [PySem.W.kxs_mw, show (Value.type "method-wrapper" == Value.type "method" || Value.type "method-wrapper" == Value.type "builtin_function_or_method" || Value.type "method-wrapper" == Value.type "method-wrapper") = true by decide, if_true]
  refine PySem.W.KFB.if_so (by decide) ?_
  refine wpAny_bind (PySem.ESX.check_bound F.excBase_ValueError hC he rfl ?_)
  refine wpAny_bind (wpAny_pure (wpAny_pure ?_))
  refine ⟨plainId_quiet F.excBase_ValueError.init.plain _, codeAny_builtin F.excBase_ValueError.initEntry ?_⟩
  exact PySem.W.exc_init_tree (cls := .ref C) (t0 := t0) (dv := none) (c2 := .none) (c3 := .none) (b4 := .bool false) he hz fun h' k e' _ => hq h' _ k e'

theorem ix_run {P : Program} {K : PySem.W.Frag} {mg mb : Str → Option Value} {C fI x t0 : Addr} {v : Value} {s : Shared} {h0 : Heap} (O : OwnX P K C fI) (hroom : A.depth < recursionLimit) (X₀ : K.In h0) (k0 : ∀ b o, h0.get? b = some o → s.heap.get? b = some o) (nx : h0.get? x = none)
    (G : h0.Ns mainGlobals mg) (BB : h0.Ns builtinsNs mb) (hb : ∀ y : Str, y ≠ "__name__" → mb y = bootBuiltins y) (lim : s.heap.NoLimit) (hx : s.heap.get? x = some (PySem.HandSPX.excO C t0))
    (h : ∀ h' t', IxEnd s.heap h' x C v → R (.ok (.ret .none)) { s with heap := h', toks := t' }) : codeAny (model P w) A (.call (.ref fI) ⟨[.ref x, v], []⟩) R s := by
  obtain ⟨oc, od, qual, params, p, dV, kV, doc, pm, ct, ccl, cl, an, cda, cc, osl, ccs, csl, cdd, cld, vs, file, tf, ar, pl, lk, hcd, lcd, hvs, hfile, lcc, har, har2, hbd, hev⟩ := O.fn
  have X : K.In s.heap := X₀.keeps k0
  obtain ⟨nm, q, N, bs, bm, sn, sub, ab, col, dd, k0', k1, k2, k3, k5, hC, hbm⟩ := O.T.cls
  have hcl : PySem.W.clsIn K C = some { name := nm, bases := bs, mro := .ref C :: bm, ns := N, qualname := q, hasDict := true, slotNames := sn, subclasses := sub, abstract := ab, collection := col, hasDel := false } := by unfold PySem.W.clsIn; rw [hC] <;> rfl
  refine ks_codeAny_call_defAt (fd := PySem.W.ksFn "__init__" qual params (ixBody p) ixScope dV kV doc pm an (.ref cda) ct cc) (body := ixBody p) (binds := [(("self" : Str), .ref x), (("value" : Str), v)]) hroom (X _ _ lk) rfl lim (PySem.W.codeRec_of X hcd) rfl (hbd s (.ref x) v X) ?_ ?_ (fun h1 hns1 kk1 => ?_) rfl rfl rfl
  · intro y hy
    have hy : y ∈ ixNames := hy
    simp at hy
    rcases hy with rfl | rfl | rfl | rfl <;> decide
  · intro y hy
    show ixNames.lookup y.1 = _
    simp at hy
    rcases hy with rfl | rfl <;> rfl
  have hLx : ¬ x = s.heap.objs.size := Nat.ne_of_lt (Heap.lt_size hx)
  have X1 : K.In h1 := X.keeps kk1
  have hx1 := kk1 _ _ hx
  have kl : ∀ y : Str, (PySem.W.ksEnv qual ixScope s.heap.objs.size fI (.ref cda) cc).kindOf y = ixNames.lookup y := fun y => rfl
  have ik : ixNames.lookup ("value" : Str) = some NameKind.local := rfl
  have ik2 : ixNames.lookup ("self" : Str) = some NameKind.local := rfl
  have hgl : (fun y => List.lookup y (List.reverse [(("self" : Str), Value.ref x), (("value" : Str), v)])) ("value" : Str) = some v := rfl
  have hgs : (fun y => List.lookup y (List.reverse [(("self" : Str), Value.ref x), (("value" : Str), v)])) ("self" : Str) = some (.ref x) := rfl
  obtain ⟨hp, g, dr, tk, os⟩ := s
  dsimp only at kk1 hns1 hx1 X1 k0 hx hLx lim kl h
  have XC := X1 _ _ hC
  have II : PySem.W.InstAt h1 x (PySem.HandSPX.excO C t0) C none := ⟨hx1, rfl, rfl, trivial⟩
  refine ks_wpAt_execs_cons (ks_wpAt_Expr_any (ks_wpAt_MethodCall (pl := pl) ?_ (hev _)) ?hi ?hs)
  case hi => exact rfl
  case hs => exact rfl
  have hfile' : ((P.main.file : Str) == file) = true := hfile
  refine ks_wpAt_super_base (cc := cda) (f := fI) (attr := "__init__") (env := PySem.W.ksEnv qual ixScope hp.objs.size fI (.ref cda) cc) (oc := ⟨ccl, cdd, .fields vs, ccs⟩) (of := ⟨oc, od, .func (PySem.W.ksFn "__init__" qual params (ixBody p) ixScope dV kV doc pm an (.ref cda) ct cc), osl⟩) rfl rfl (by decide) rfl (X1 _ _ lk) rfl har rfl (X1 _ _ lcd) rfl hvs hfile O.top ?_
  refine PySem.W.ks_loadName_global rfl rfl (Calls.loadGlobal_builtin (env := PySem.W.ksEnv qual ixScope hp.objs.size fI (.ref cda) cc) (G.keeps fun b o e => kk1 b o (k0 b o e)) (PySem.W.mg_none_of X₀ G O.sup) (BB.keeps fun b o e => kk1 b o (k0 b o e)) (hb _ (by decide)) ⟨by first | rfl | boot_by_name | kernel_rfl, ?_⟩)
  refine wpAny_loadName_free rfl rfl rfl ⟨_, X1 _ _ lcc, rfl⟩ ?_
  rw [har2]
  refine wpAny_loadName_local rfl rfl hns1 hgs ?_
  refine ks_wpAny_isType_cls XC rfl ⟨rfl, ?_⟩
  refine ks_wpAny_call_super XC rfl hx1 rfl (fun c e => nomatch e) (PySem.W.looks_mroIn X1 O.hD) (fun h2 e2 kk2 => ?_)
  have X2 : K.In h2 := X1.keeps kk2
  have hx2 := kk2 _ _ hx1
  have I2 : PySem.W.InstAt h2 x (PySem.HandSPX.excO C t0) C none := ⟨hx2, rfl, rfl, trivial⟩
  have hmI := O.hm
  unfold PySem.W.ks_superIn at hmI
  rw [hcl] at hmI
  refine PySem.W.kxs_getMethod PySem.W.kxs_ValueError (K := K) (C := C) (x := x) (D := C) e2 (PySem.W.looks_opaque X2 O.opq) (fun A Q E s k q => wpAny_bind ((PySem.W.looks_clsIn X2 hcl) A _ E s k (wpAny_pure q))) rfl X2 hmI (I2.type.andThen (PySem.W.looks_subIn X2 O.hB)) (PySem.W.ks_ne X2 I2 hcl) (by decide) ?_
  have kk3 : ∀ b o, h2.get? b = some o → (h2.push (PySem.W.kxs_mw "ValueError.__init__" x)).get? b = some o := fun b o e => Heap.get?_push_of_some _ e
  have hu : (h2.push (PySem.W.kxs_mw "ValueError.__init__" x)).get? h2.objs.size = some (PySem.W.kxs_mw "ValueError.__init__" x) := Heap.get?_push_at rfl rfl
  generalize hh3 : h2.push (PySem.W.kxs_mw "ValueError.__init__" x) = h3 at kk3 hu
  have X3 : K.In h3 := X2.keeps kk3
  have hx3 := kk3 _ _ hx2
  obtain ⟨oL, es, ep, hL, rL⟩ := hns1
  have hns3 : h3.Ns hp.objs.size (fun y => List.lookup y (List.reverse [(("self" : Str), Value.ref x), (("value" : Str), v)])) := ⟨oL, es, ep, kk3 _ _ (kk2 _ _ hL), rL⟩
  refine PySem.W.kxs_callWith (i := "ValueError.__init__") (x := x) rfl ?_
  refine Calls.evalArgs_plain (Calls.spliced_cons (PySem.ESX.ldL hns3 hgl (Calls.spliced_nil ⟨hu, ?_⟩)))
  refine call_vw (kk3 _ _ (kk2 _ _ XC)) hx3 hu (by show 1 ≤ sizeLine; rw [sizeLine_eq]; omega) fun h4 t4 kk4 hx4 => ?_
  have hxn : ∀ b o, h0.get? b = some o → b ≠ x := fun b o e z => by
    rw [z, nx] at e
    cases e
  have k04 : ∀ b o, h0.get? b = some o → h4.get? b = some o := fun b o e => kk4 b o (hxn b o e) (kk3 _ _ (kk2 _ _ (kk1 _ _ (k0 _ _ e))))
  have X4 : K.In h4 := X₀.keeps k04
  have hns4 : h4.Ns hp.objs.size (fun y => List.lookup y (List.reverse [(("self" : Str), Value.ref x), (("value" : Str), v)])) := ⟨oL, es, ep, kk4 _ _ (fun z => hLx z.symm) (kk3 _ _ (kk2 _ _ hL)), rL⟩
  refine ks_wpAt_execs_cons (wpAt_of_wpAny ?_)
  refine plainObj_wpAny_Assign_Attribute (PySem.ESX.ldL hns4 hgl (PySem.ESX.ldL hns4 hgs ?_)) ?hs2
  case hs2 => exact rfl
  refine PySem.W.set_plain X4 (ox := PySem.HandSPX.excO C t4) (od := none) ⟨hx4, rfl, rfl, trivial⟩ O.T.sa ?_
  refine PySem.HandSPX.exc_osa X4 hx4 hcl (show PySem.HandSPX.refsVE (.ref C :: bm) = true from hbm) rfl O.hno (fun h5 tk5 dx kk5 dn dne hx5 hn5 => ?_)
  refine wpAt_of_wpAny (wpAny_execs_nil ?_)
  refine h h5 _ ⟨fun b o hb e => kk5 b o hb (kk4 b o hb (kk3 _ _ (kk2 _ _ (kk1 _ _ e)))), t4, dx, hx5, ?_, dne, hn5⟩
  cases z : hp.get? dx with
  | none => rfl
  | some o => exact absurd (Heap.lt_size (kk4 dx o dne (kk3 _ _ (kk2 _ _ (kk1 _ _ z))))) (Nat.not_lt.mpr dn)
end

section
variable {X : Cx} {pins : List (Addr × Obj)} {σ : L2.St} {H : Hp} {x : Str} {C fI : Addr} {k : Nat} {e : Expr} {p pos : Pos} {ta : TA}
structure Made (X : Cx) (pins : List (Addr × Obj)) (σ : L2.St) (H : Hp) (C : Addr) (y : V) (s s' : Shared) (a : Addr) : Prop where
  fin : ∃ (t1 d : Addr) (G : Heap), s'.heap.get? a = some ({ cls := .ref C, dict := some d, data := .fields #[.ref t1, .none, .none, .none, .bool false, .none] } : Obj) ∧ (∀ b o, G.get? b = some o → s'.heap.get? b = some o) ∧ G.get? a = none ∧
    Inv X pins σ (upd H d (.xd [("value", y)])) { s' with heap := G } ∧ (upd H d (.xd [("value", y)])) a = none ∧ H d = none ∧ H a = none ∧ d ≠ a ∧ s.heap.get? a = none
theorem make_own {s : Shared} {y : V} {v : Value} {Q : Value → Shared → Prop} (O : OwnX X.prog X.K C fI) (hr : Room (k + 1) X.A) (I : Inv X pins σ H s) (r : RelV y v) (h : ∀ a s', Made X pins σ H C y s s' a → Q (.ref a) s') :
    wpAny (model X.prog X.w) X.A (call (.ref C) [v]) Q X.xe s := by
  obtain ⟨nm, q, N, bs, bm, sn, sub, ab, col, dd, k0, k1, k2, k3, k5, hC, hbm⟩ := O.T.cls
  obtain ⟨mb, hb1, hb2⟩ := I.mod.blt
  obtain ⟨hp, g, dr, tk, os⟩ := s
  have kk : ∀ b o, hp.get? b = some o → ((hp.push (PySem.W.kdv_tup [v])).push (PySem.HandSPX.excO C hp.objs.size)).get? b = some o := fun b o e => Heap.get?_push_of_some _ (Heap.get?_push_of_some _ e)
  have hget : ((hp.push (PySem.W.kdv_tup [v])).push (PySem.HandSPX.excO C hp.objs.size)).get? (hp.objs.size + 1) = some (PySem.HandSPX.excO C hp.objs.size) := by heap_get
  have na : hp.get? (hp.objs.size + 1) = none := by
    cases z : hp.get? (hp.objs.size + 1) with
    | none => rfl
    | some o => exact absurd (Heap.lt_size z) (Nat.not_lt.mpr (Nat.le_succ _))
  refine wpAny_call (PySem.HandSPX.call_own F.excBase_ValueError (fun Y => PySem.HandSPX.refsVE_contains Y bm hbm) (I.kIn _ _ hC) (PySem.W.looks_findIn I.kIn O.iC) (fun self => PySem.W.bind_fn I.kIn self O.tI) (by show 1 ≤ sizeLine; rw [sizeLine_eq]; omega) ?_)
  refine ix_run O (hr.make C [v] []).depth (h0 := hp) (mg := X.mg) (mb := mb) I.kIn kk na ((by have := I.ok.glob; exact I.mod.glob.keeps I.bk)) (hb1.keeps I.bk) hb2 (I.nolimit.keeps kk) hget fun h' t' z => ?_
  obtain ⟨t1, d, hx, nd, dne, hn⟩ := z.obj
  have nhd : hp.get? d = none := by
    cases q : hp.get? d with
    | none => rfl
    | some o =>
      rw [kk d o q] at nd
      cases nd
  have hnd : H d = none := I.hok.gone nhd
  have hna : H (hp.objs.size + 1) = none := I.hok.gone na
  obtain ⟨G, g1, g2⟩ := restrict h' fun b => decide (b ≠ hp.objs.size + 1)
  have gk : ∀ b, b ≠ hp.objs.size + 1 → G.get? b = h'.get? b := fun b hb => g1 b (decide_eq_true hb)
  have ga : G.get? (hp.objs.size + 1) = none := g2 _ (by simp)
  have gs : ∀ b o, G.get? b = some o → h'.get? b = some o := fun b o e => by
    by_cases hb : b = hp.objs.size + 1
    · rw [hb, ga] at e
      cases e
    · rw [← gk b hb]
      exact e
  have hne : ∀ b o, hp.get? b = some o → b ≠ hp.objs.size + 1 := fun b o e z => by
    rw [z, na] at e
    cases e
  have rel : ∀ f : Str, RelO (([(("value" : Str), y)] : List (Str × V)).lookup f) (if f = ("value" : Str) then some v else none) := fun f => by
    rw [lookup_put]
    by_cases e : f = ("value" : Str)
    · rw [if_pos e, if_pos e]
      exact r
    · rw [if_neg e, if_neg e]
      exact True.intro
  have hnG : G.Ns1 d (fun f => if f = ("value" : Str) then some v else none) := hn.at fun o y => (gk d dne).trans y
  have J : Inv X pins σ (upd H d (.xd [("value", y)])) ⟨G, g, dr, t', os⟩ := I.laidN (t' := t') (a := d) (o := .xd [("value", y)]) (fun b o e => (gk b (hne b o e)).trans (z.keep b o (hne b o e) (kk b o e))) nhd hnd ⟨_, hnG, rel⟩
  exact ⟨rfl, h _ ⟨h', g, dr, t', os⟩ ⟨t1, d, G, hx, gs, ga, J, by rw [upd_ne (Ne.symm dne)]; exact hna, hnd, hna, dne, na⟩⟩
def tMkX (C : Addr) (ta : TA) : L2.St → Hp → XK → Prop := fun σ H Q => ta σ H fun vs H1 => ∃ y, vs = [y] ∧ ∀ d, H1 d = none → Q (.ref C) (some d) (upd H1 d (.xd [("value", y)]))
theorem pmk_x (O : OwnX X.prog X.K C fI) (hr : Room (k + 1) X.A) (hg : Gl X x) (hm : X.mg x = some (.ref C)) (ha : PA X [e] ta) (hdb : (x == ("__debug__" : Str)) = false := by decide)
    (he : starEach [e] X.env = (false, eval e X.env) :: starEach [] X.env := by rfl) (hpl : (backTo pos (starEach [] X.env)).any (·.1) = false := by rfl) : L2N.PMk X (.Call (.Name x p) [e] [] pos) (tMkX C ta) := by
  intro pins s σ H Q I h
  refine wpAny_Call_Name_kw (ld_glob I hg hm ?_ hdb)
  refine PySem.W.callWith_K (h₀ := X.base) I.ok.mod.kin O.T.kC (thn (ha.run pos pins s σ H _ I h) ?_) he hpl
  rintro us s1 ⟨vs, H1, I1, r1, y, rfl, q1⟩
  cases r1 with
  | cons ry rr =>
    cases rr
    refine ⟨I1.kIn, make_own O hr I1 ry fun a s' M => ?_⟩
    obtain ⟨t1, d, G, ho, gs, ga, J, ua, hd, _, _, _⟩ := M.fin
    exact ⟨a, _, _, { s' with heap := G }, _, .ref C, some d, rfl, J, gs, ga, ho, ⟨rfl, rfl, fun vs q => (by cases q; rfl)⟩, rfl, rfl, ua, rfl, J.bare, raises_own O.T.exC O.T.tyC, q1 d hd⟩
end
end DD

set_option Elab.async false
set_option linter.all false
set_option maxRecDepth 100000
set_option maxHeartbeats 4000000
namespace DD
open PySem PySem.Spec PyProof.Rows L2

section
variable {X : Cx} {W : Fix} {x : Str} {C fI : Addr} {k : Nat} {e : Expr} {p pos pos' : Pos} {t : TDA}
theorem rpL1x {K : PySem.W.Frag} {F : Hp} {d : D} {vs : List V} (h : RpL K F [d] vs) : ∃ y, vs = [y] ∧ Rp K F d y := by
  unfold RpL at h
  obtain ⟨y, r, rfl, h1, h2⟩ := h
  unfold RpL at h2
  subst h2
  exact ⟨y, rfl, h1⟩
def dRaise (C : Addr) (E : Addr → List D → Env' → Prop) (t : TDA) : TSD := fun _ δ => t δ fun ds δ1 => ∃ d, ds = [d] ∧ E C [d] δ1
theorem ds_raise {E0 : Addr → List D → Env' → Prop} (te : TkE X W E0) (O : OwnX X.prog X.K C fI) (hc : X.calm = true) (hr : Room (k + 1) X.A) (hg : Gl X x) (hm : X.mg x = some (.ref C)) (h : DA X W [e] t) (hdb : (x == ("__debug__" : Str)) = false := by decide)
    (he : starEach [e] X.env = (false, eval e X.env) :: starEach [] X.env := by rfl) (hpl : (backTo pos (starEach [] X.env)).any (·.1) = false := by rfl) :
    DS X W (.Raise (some (.Call (.Name x p) [e] [] pos)) none pos') (dRaise C E0 t) :=
  .of (L2N.ps_raise hc te.tk (pmk_x O hr hg hm cA_pa hdb he hpl)) fun F H σ δ D S q => by
    refine (h.run F H σ δ _ S q).imp fun vs H1 h1 => ?_
    obtain ⟨F1, ds, δ1, e1, S1, r1, d, rfl, q1⟩ := h1
    obtain ⟨y, rfl, ry⟩ := rpL1x r1
    exact ⟨y, rfl, fun a ha => ⟨_, δ1, C, [d], S1.new ha, ⟨rfl, .inr ⟨a, y, d, rfl, rfl, upd_same, Rp.mono (same_upd (S1.freshF ha)) _ _ ry⟩⟩, by rw [te.eq]; exact q1⟩⟩

structure XfE (K : PySem.W.Frag) (C : Addr) : Prop where
  T : XfC K C
  no : PySem.W.findIn K (.ref C) "value" = some none
  cl : (PySem.W.clsIn K C).isSome = true
  ac : PySem.W.findIn K (.ref C) "__class__" = some (some (.builtin "object.__class__"))
  sp : PySem.W.specialIn K (.builtin "object.__class__") "__get__" = some (some (.builtin "getset_descriptor.__get__"))
  tk : PySem.W.takesIn K (.builtin "object.__class__") = some true
  ob : PySem.W.mroIn K C (.type "object") = some true
theorem excAt_look {pins : List (Addr × Obj)} {σ : L2.St} {H : Hp} {s : Shared} {a dx : Addr} {fs : List (Str × V)} (I : Inv X pins σ H s) (h1 : H a = some (ExcAt a C (some dx))) (h2 : H dx = some (.xd fs)) :
    ∃ (oe : Obj) (od : Obj) (mA : Str → Option Value), PySem.W.InstAt s.heap a oe C (some od) ∧ (∀ f, RelO (fs.lookup f) (mA f)) ∧ ∀ f, PySem.W.lookIn f od = some (mA f) := by
  obtain ⟨⟨oe, vs, ho, hc, hd, hv, _⟩, _⟩ := I.hok a _ h1
  have hx : ObjOk X.prog X.w H s.heap dx (.xd fs) := I.hok dx _ h2
  obtain ⟨mA, hns, hr⟩ := hx
  obtain ⟨od, hod, hl⟩ := lookIn_ns hns
  exact ⟨oe, od, mA, ⟨ho, hc, by unfold PySem.W.notCls; rw [hv] <;> rfl, by rw [hd]; exact hod⟩, hr, hl⟩
def dXv (K : PySem.W.Frag) (t : TD) : TD := fun δ Q => dp t δ fun d δ1 => ∃ C y, d = .exc C [y] ∧ XfE K C ∧ Q (.p y) δ1
inductive TyZ (K : PySem.W.Frag) (H : Hp) : V → Value → Prop where
  | base {x : V} {t : Value} (h : TyX K H x t) : TyZ K H x t
  | exc {a C dx : Addr} {y : V} (h1 : H a = some (ExcAt a C (some dx))) (h2 : H dx = some (.xd [("value", y)])) (T : XfE K C) : TyZ K H (.ref a) (.ref C)
def rIsZ (K : PySem.W.Frag) : List V → Hp → VK → Prop := fun xs H Q => ∃ (x c : V) (t u : Value) (b : Bool), xs = [x, c] ∧ ClsV c u ∧ TyZ K H x t ∧ PySem.W.kitOne K t u = some b ∧ Q (.bl b) H
theorem call_isZ : CallR X (.builtin "isinstance") (rIsZ X.K) := by
  intro pins s σ H xs us Q I r h
  obtain ⟨x, c, t, u, b, rfl, k, ty, e, q⟩ := h
  cases ty with
  | base ty => exact call_isi pins s σ H _ us Q I r ⟨x, c, t, u, b, rfl, k, ty, e, q⟩
  | exc h1 h2 T =>
    obtain ⟨u1, u2, rfl, r1, r2⟩ := vals2 r
    have e2 := k.eq r2
    subst e2
    obtain ⟨oe, od, mA, J, _, _⟩ := excAt_look I h1 h2
    cases r1
    exact PySem.W.kia_one (PySem.W.kitx_exc T.cl T.T.ga T.T.gg T.T.exC T.ac T.sp T.tk T.ob) I.kIn J e (fun z => nomatch z) fun tk => ⟨.bl b, H, I.tok tk, rfl, q⟩
def isZG (K : PySem.W.Frag) : List D → (B → Prop) → Prop := fun ds Q => isiG K ds Q ∨ ∃ C y c u b, ds = [.exc C [y], c] ∧ XfE K C ∧ clsD c = some u ∧ PySem.W.kitOne K (.ref C) u = some b ∧ Q (.p (.bl b))
theorem rc_isZ {K : PySem.W.Frag} : RC K (rIsZ K) (isZG K) := by
  intro W F H σ δ xs ds Q Z S r g hZ
  rcases g with g | g
  · obtain ⟨x, c, t, u, b, h1, h2, h3, h4, q⟩ := rc_isi W F H σ δ xs ds Q Z S r g hZ
    exact ⟨x, c, t, u, b, h1, h2, .base h3, h4, q⟩
  · obtain ⟨C, y, c, u, b, rfl, T, h2, h3, q⟩ := g
    obtain ⟨v, w, rfl, rv, rw'⟩ := rpL2 r
    have hc : ClsV w u := by
      cases c <;> first | (cases h2; done) | skip
      · cases h2
        rw [rpTy rw']
        exact .ty _
      · cases h2
        unfold Rp at rw'
        rw [rw']
        exact .own _
    unfold Rp at rv
    obtain ⟨a, dx, z, xs, rfl, h4, h5, rfl, r2⟩ := rv
    exact ⟨.ref a, w, _, u, b, rfl, hc, .exc (S.fh _ _ h4) (S.fh _ _ h5) T, h3, hZ _ _ (mkP S rp_bl q)⟩
end


end DD

set_option Elab.async false
set_option linter.all false
set_option maxRecDepth 100000
set_option maxHeartbeats 4000000
namespace DD
open PySem PySem.Spec PyProof.Rows L2

def keyPy : Key → PyData
  | .inl i => .int i
  | .inr x => .str x
mutual
def toPyR : D → Option PyData
  | .non => some .none
  | .bl b => some (.bool b)
  | .int i => some (.int i)
  | .str s => some (.str s)
  | .lst ds => (toPyRL ds).map .list
  | .tup ds => (toPyRL ds).map .tuple
  | .cst ds => (toPyRL ds).map .tuple
  | .dct ks ds => (toPyRL ds).map fun xs => .dict ((ks.map keyPy).zip xs)
  | _ => none
def toPyRL : List D → Option (List PyData)
  | [] => some []
  | d :: ds => (toPyR d).bind fun x => (toPyRL ds).map fun xs => x :: xs
end
section
variable {X : Cx} {pins : List (Addr × Obj)} {σ : L2.St} {F H : Hp} {s : Shared}
theorem KV.keys {ks : List Key} : ∀ {kvs : List (Key × V)} {vs : List (Key × Value)}, KV kvs vs → vs.map (·.1) = kvs.map (·.1)
  | _, _, .nil => rfl
  | _, _, .cons r t => by
    rw [List.map_cons, List.map_cons, r.1, KV.keys (ks := ks) t]
theorem KV.vals : ∀ {kvs : List (Key × V)} {vs : List (Key × Value)}, KV kvs vs → Vals (kvs.map (·.2)) (vs.map (·.2))
  | _, _, .nil => .nil
  | _, _, .cons r t => .cons r.2 (KV.vals t)
structure Shw (c : PyData) : Prop where
  sh : c.showable = true
  dp : c.depth ≤ 50
  sz : c.shown.length ≤ sizeLine
def reprG : List D → (B → Prop) → Prop := fun ds Q => ∃ d c, ds = [d] ∧ toPyR d = some c ∧ Shw c ∧ Q (.p (.str c.shown))
end

structure Wk (n k : Nat) (c : PyData) : Prop where
  sh : c.showable = true
  dp : c.depth ≤ k
  lv : c.leavesShort 13 = true
  wt : c.weight ≤ n
theorem Wk.mono {n k n' k' : Nat} {c : PyData} (h : Wk n k c) (hn : n ≤ n') (hk : k ≤ k') : Wk n' k' c := ⟨h.sh, Nat.le_trans h.dp hk, h.lv, Nat.le_trans h.wt hn⟩
end DD

set_option Elab.async false
set_option linter.all false
set_option maxRecDepth 100000
set_option maxHeartbeats 4000000
namespace DD
open PySem PySem.Spec PyProof.Rows L2

def litD : D → Bool
  | .non | .bl _ | .int _ | .str _ | .ty _ | .ref _ => true
  | _ => false
def litB : B → Bool
  | .p d => litD d
  | .o (.lst ds) => ds.all litD
  | .o (.iset _ _) => true
  | .u _ _ => true
  | _ => false
def scrB : B → Bool
  | .p (.scr _) => true
  | _ => false
def litE (δ : Env') : Env' := δ.map fun o => o.bind fun b => if (litB b || scrB b) = true then some b else none
def thin (F0 F : Hp) : Hp := fun a => match F0 a with
  | some o => some o
  | none => match F a with
    | some (.frz o u) => some (.frz o u)
    | _ => none
theorem thin_ground {F0 F : Hp} : Same F0 (thin F0 F) := fun a o h => by
  unfold thin
  rw [h]
theorem thin_some {F0 F : Hp} {a : Addr} {o : HO} (h : thin F0 F a = some o) : F0 a = some o ∨ (∃ ob u, o = .frz ob u) ∧ F a = some o := by
  unfold thin at h
  cases e : F0 a with
  | some u =>
    rw [e] at h
    exact .inl h
  | none =>
    rw [e] at h
    cases q : F a with
    | none =>
      rw [q] at h
      cases h
    | some u =>
      rw [q] at h
      cases u <;> first | (cases h; done) | skip
      rename_i ob v
      have h : some (HO.frz ob v) = some o := h
      cases h
      exact .inr ⟨⟨ob, v, rfl⟩, rfl⟩
theorem thin_free {F0 F : Hp} {a : Addr} (e : Same F0 F) (h : F a = none) : thin F0 F a = none := by
  cases q : thin F0 F a with
  | none => rfl
  | some o =>
    rcases thin_some q with z | ⟨_, z⟩
    · rw [e a o z] at h
      cases h
    · rw [h] at z
      cases z
theorem thin_frz {F0 F : Hp} {a : Addr} {o : Obj} {u : HO} (e : Same F0 F) (h : F a = some (.frz o u)) : thin F0 F a = some (.frz o u) := by
  unfold thin
  cases q : F0 a with
  | some v =>
    have := e a v q
    rw [h] at this
    cases this
    rfl
  | none => rw [h]
section
variable {K : PySem.W.Frag} {W : Fix} {F F' H H' : Hp} {σ : L2.St} {δ : Env'}
theorem lit_any {d : D} {v : V} (h : litD d = true) (r : Rp K F d v) : Rp K F' d v := by
  cases d <;> first | (cases h; done) | (unfold Rp at r ⊢; exact r)
theorem lit_all : ∀ {ds : List D} {vs : List V}, ds.all litD = true → RpL K F ds vs → RpL K F' ds vs
  | [], _, _, r => by
    unfold RpL at r ⊢
    exact r
  | d :: ds, _, h, r => by
    unfold RpL at r
    obtain ⟨x, t, rfl, h1, h2⟩ := r
    rw [List.all_cons, Bool.and_eq_true] at h
    exact .cons (lit_any h.1 h1) (lit_all h.2 h2)
theorem litE_get {i : Nat} {b : B} (h : (litE δ)[i]? = some (some b)) : δ[i]? = some (some b) ∧ (litB b || scrB b) = true := by
  unfold litE at h
  rw [List.getElem?_map] at h
  cases e : δ[i]? with
  | none =>
    rw [e] at h
    cases h
  | some o =>
    rw [e] at h
    cases o with
    | none => cases h
    | some c =>
      by_cases q : (litB c || scrB c) = true
      · have h : some (if (litB c || scrB c) = true then some c else none) = some (some b) := h
        rw [if_pos q] at h
        cases h
        exact ⟨rfl, q⟩
      · have h : some (if (litB c || scrB c) = true then some c else none) = some (some b) := h
        rw [if_neg q] at h
        cases h

def lstD : D → Bool
  | .lst _ => true
  | _ => false
def freB : B → B
  | .p (.tup ds) => if ds.all lstD = true then .n ds else .p (.tup ds)
  | b => b
end
section
variable {X : Cx} {W : Fix} {k : Nat} {f : Addr} {fd : FuncData} {ps : List Str} {spd : Spd} {x : Str} {p pos : Pos} {e : Expr} {es : List Expr} {t : TDA}
def dCallF (spd : Spd) (t : TDA) : TD := fun δ Q => t δ fun ds δ1 => ds.all litD = true ∧ spd (ds.map .p) (fun b _ => (∃ d, b = .p d) ∧ Q (freB b) δ1) fun _ _ _ => False
theorem Own.mono {K : PySem.W.Frag} {F F' H : Hp} {d : D} {a : Addr} (e : Same F F') (h : Own K F H d a) : Own K F' H d a := by
  cases d <;> first | exact h.elim | skip
  · obtain ⟨xs, h1, h2⟩ := h
    exact ⟨xs, h1, RpL.mono e _ _ h2⟩
  · obtain ⟨xs, h1, h2, h3⟩ := h
    exact ⟨xs, h1, RpL.mono e _ _ h2, h3⟩
  · obtain ⟨dx, xs, h1, h2, h3⟩ := h
    exact ⟨dx, xs, h1, RpL.mono e _ _ h2, h3⟩
  · exact h
  · obtain ⟨xs, h1, h2, h3⟩ := h
    exact ⟨xs, h1, RpL.mono e _ _ h2, h3⟩
end

structure SX (K : PySem.W.Frag) (W : Fix) (m : Nat) (F H : Hp) (σ : L2.St) (δ : Env') : Prop where
  ex : ∃ Ho, SD K W F Ho σ δ ∧ ∀ b, H b = Ho b ∨ (W.H0 b = none ∧ (∃ ys, F b = some (.lst ys)) ∧ ∃ zs, H b = some (.lst zs) ∧ zs.length ≤ m)
section
variable {K : PySem.W.Frag} {W : Fix} {F H : Hp} {σ : L2.St} {δ : Env'} {m : Nat}
theorem SX.done (S : SX K W m F H σ δ) (hW : Same W.F0 W.H0) : SD K W (thin W.F0 F) H σ (litE δ) := by
  obtain ⟨Ho, S, hb⟩ := S.ex
  have keep : ∀ b o, Ho b = some o → (W.H0 b = none → F b = none) → H b = some o := fun b o e n => by
    rcases hb b with z | ⟨z1, ⟨ys, z2⟩, _⟩
    · rw [z]
      exact e
    · rw [n z1] at z2
      cases z2
  have keep0 : ∀ b o, W.H0 b = some o → Ho b = some o → H b = some o := fun b o e q => keep b o q fun z => by
    rw [z] at e
    cases e
  refine ⟨thin_ground, fun b o e n => keep0 b o e (S.h0 b o e n), fun b o e => ?_, fun b o e => ?_, fun b e => ?_, ?_, fun i b e => ?_, fun i j b c v ne h1 h2 h3 h4 h5 => S.sep i j b c v ne (litE_get h1).1 h2 (litE_get h3).1 h4 h5⟩
  · rcases thin_some e with z | ⟨⟨ob, u, rfl⟩, z⟩
    · exact keep0 b o (hW b o z) (S.fh b o (S.f0 b o z))
    · rcases hb b with q | ⟨_, ⟨ys, q⟩, _⟩
      · exact q.trans (S.fh _ _ z)
      · rw [z] at q
        cases q
  · rcases thin_some e with z | ⟨_, z⟩
    · exact .inl z
    · exact S.fr b o z
  · obtain ⟨h1, ⟨o, h2⟩, o', h3⟩ := S.fp b e
    refine ⟨thin_free S.f0 h1, ?_, o', h3⟩
    rcases hb b with z | ⟨z, _⟩
    · exact ⟨o, z.trans h2⟩
    · rw [z] at h3
      cases h3
  · rw [S.len]
    unfold litE
    rw [List.length_map]
  · obtain ⟨e1, e2⟩ := litE_get e
    obtain ⟨v, h1, h2⟩ := S.get i b e1
    refine ⟨v, h1, ?_⟩
    cases b with
    | p d =>
      rcases Bool.or_eq_true_iff.mp e2 with e3 | e3
      · exact lit_any e3 h2
      · cases d <;> first | (cases e3; done) | skip
        rename_i ns
        have h2 : Rp K F (.scr ns) v := h2
        show Rp K (thin W.F0 F) (.scr ns) v
        unfold Rp at h2 ⊢
        obtain ⟨a, rfl, h4⟩ := h2
        exact ⟨a, rfl, h4.mono fun o q => thin_frz S.f0 q⟩
    | n ds => cases e2
    | u w n =>
      obtain ⟨p, x, y, z, rfl, g1, g2, g3, g4⟩ := h2
      exact ⟨p, x, y, z, rfl, thin_free S.f0 g1, g2, keep p _ g3 (fun _ => g1), g4⟩
    | s d => cases e2
    | t dss => cases e2
    | m dss => cases e2
    | o d =>
      obtain ⟨a, rfl, g1, g2, g3⟩ := h2
      refine ⟨a, rfl, thin_free S.f0 g1, g2, ?_⟩
      cases d <;> first | (cases e2; done) | skip
      · obtain ⟨xs, g4, g5⟩ := g3
        exact ⟨xs, keep a _ g4 (fun _ => g1), lit_all (by simpa [litB, scrB] using e2) g5⟩
      · exact keep a _ g3 (fun _ => g1)
theorem SX.init (S : SD K W F H σ δ) : SX K W m F H σ δ := ⟨H, S, fun b => .inl rfl⟩
theorem SX.change {m' : Nat} {a : Addr} {ys zs : List V} (S : SX K W m F H σ δ) (hF : F a = some (.lst ys)) (h0 : W.H0 a = none) (hz : zs.length ≤ m') (hm : m ≤ m') : SX K W m' F (upd H a (.lst zs)) σ δ := by
  obtain ⟨Ho, S, hb⟩ := S.ex
  refine ⟨Ho, S, fun b => ?_⟩
  by_cases e : b = a
  · subst e
    exact .inr ⟨h0, ⟨ys, hF⟩, zs, upd_same, hz⟩
  · rw [upd_ne e]
    rcases hb b with z | ⟨z1, z2, zs', z3, z4⟩
    · exact .inl z
    · exact .inr ⟨z1, z2, zs', z3, Nat.le_trans z4 hm⟩
theorem SX.item {i : Nat} {ds d1 : List D} {k : Int} (S : SX K W m F H σ δ) (hi : δ[i]? = some (some (.n ds))) (hk : atI ds k = some (.lst d1)) (hl : d1.length ≤ m) :
    ∃ t xs a zs ys, σ[i]? = some (some (.ref t)) ∧ SqT K H t xs ∧ atI xs k = some (.ref a) ∧ H a = some (.lst zs) ∧ zs.length ≤ m ∧ F a = some (.lst ys) ∧ W.H0 a = none := by
  obtain ⟨Ho, S, hb⟩ := S.ex
  obtain ⟨v, e1, t, xs, rfl, h2, h3, h4⟩ := S.get i _ hi
  obtain ⟨v, h5, h6⟩ := rpL_atI h3 hk
  obtain ⟨a, ys, rfl, h7, h8⟩ := rpLst h6
  have hmem : V.ref a ∈ xs := by
    unfold atI at h5
    cases q : ixN xs.length k with
    | none =>
      rw [q] at h5
      cases h5
    | some j =>
      rw [q] at h5
      exact List.mem_of_getElem? h5
  have tk : ∀ o, F t = some o → (∀ ys, o ≠ .lst ys) → H t = some o := fun o e n => by
    rcases hb t with z | ⟨_, ⟨ys, z⟩, _⟩
    · exact z.trans (S.fh _ _ e)
    · rw [e] at z
      exact absurd (Option.some.inj z) (n ys)
  have hq : SqT K H t xs := .of (tk _ h2 fun ys z => by cases z)
  rcases hb a with z | ⟨_, _, zs, z3, z4⟩
  · exact ⟨t, xs, a, ys, ys, e1, hq, h5, z.trans (S.fh _ _ h7), by rw [h8.length]; exact hl, h7, (h4 a hmem).2⟩
  · exact ⟨t, xs, a, zs, ys, e1, hq, h5, z3, z4, h7, (h4 a hmem).2⟩
end
end DD

set_option Elab.async false
set_option linter.all false
set_option maxRecDepth 100000
set_option maxHeartbeats 4000000
namespace DD
open PySem PySem.Spec PyProof.Rows L2

def Itx (x : Str) : It :=
  ⟨fun i _ => i < x.cps.size, fun i H v H' => ∃ T c, v = .ref T ∧ H T = none ∧ H' = upd H T (.tup [.int (i : Nat), .str ⟨#[c]⟩]) ∧ x.cps[i]? = some c, fun i _ => x.cps.size ≤ i⟩
theorem draws_str {prog : Program} {w : World} {A : Around} (hh : A.handled = none) (it : Addr) (x : Str) (t : Tok) :
    Draws prog w A it [it] x.cps.size (fun i v => ∃ c u, x.cps[i]? = some c ∧ v = .str ⟨#[c]⟩ u) (fun i h => h.IsStrIter it (strIterType x) x t i) := by
  unfold strIterType
  split
  · exact Draws.strAscii hh it x t
  · exact Draws.strWide hh it x t
theorem draws_end {prog : Program} {w : World} {A : Around} (hh : A.handled = none) (it : Addr) (x : Str) (t : Tok) (i : Nat) (hi : x.cps.size ≤ i) :
    Draws prog w A it [it] i (fun _ _ => False) (fun j h => j = i ∧ h.IsStrIter it (strIterType x) x t i) where
  live := fun _ _ st => by
    obtain ⟨_, o, ho, _⟩ := st
    exact ⟨o, ho⟩
  frame := fun _ _ _ st hk => by
    obtain ⟨e, o, ho, r⟩ := st
    exact ⟨e, o, hk it (by simp) o ho, r⟩
  item := fun j s Q E hj st hQ => absurd st.1 (Nat.ne_of_lt hj)
  done := fun s Q E st hE => by
    obtain ⟨_, st⟩ := st
    have hn : x.cps[i]? = none := by simpa using hi
    unfold strIterType at st
    split at st
    · exact wpAny_nextOf_ascii_end hh st hn hE
    · exact wpAny_nextOf_wide_end hh st hn hE
theorem turn_enumT {P : Program} {w : World} {K : PySem.W.Frag} {elts : List Expr} {kk : Nat} {tpos : Pos} (x : Str) (t : Tok) (e it : Addr) :
    Turn P w K (.Tuple elts kk tpos) (Itx x) [e, it] e (fun i h => (∃ old, IsEnum h e it ((i : Nat) : Int) old) ∧ h.IsStrIter it (strIterType x) x t i ∧ e ≠ it) where
  mem := by simp
  obj := fun i h st b hb => by
    obtain ⟨⟨old, he⟩, ⟨o, ho, hc, hd⟩, _⟩ := st
    have e' : b = e ∨ b = it := by simpa using hb
    rcases e' with z | z
    · rw [z]
      exact ⟨_, he, fun v q => nomatch q⟩
    · rw [z]
      exact ⟨o, ho, fun v q => by rw [hd] at q; cases q⟩
  keep := fun i h h' st k => by
    obtain ⟨⟨old, he⟩, ⟨o, ho, r⟩, hne⟩ := st
    exact ⟨⟨old, k e (by simp) _ he⟩, ⟨o, k it (by simp) o ho, r⟩, hne⟩
  item := by
    intro X hP hw hK hc i pins s σ H E I hf st hg
    subst hP hw hK
    obtain ⟨⟨old, he⟩, hit, hne⟩ := st
    have hel : e < s.heap.objs.size := Heap.lt_size he
    have hil : it < s.heap.objs.size := by
      obtain ⟨_, q, _⟩ := hit
      exact Heap.lt_size q
    refine wpAny_pyNext_enum_itemD (draws_str (show X.A.in1.handled = none from I.ok.hd hc) it x t) he hit hg hne (by simpa using hne) fun v h' tk hP ho hit' hT hsz hk => ?_
    obtain ⟨c, u, hx, rfl⟩ := hP
    refine ⟨_, rfl, wpAny_letOwnedTupleGo_enum (s := { s with heap := h', toks := tk + 1 }) ho fun h'' he' sb => ?_⟩
    have hT2 : h''.get? s.heap.objs.size = some { cls := .type "tuple", data := .seq #[.int i tk, .str ⟨#[c]⟩ u] } := (sb.2 _ (Nat.ne_of_gt hel)).trans hT
    have new : ObjOk X.prog X.w (upd H s.heap.objs.size (.tup [.int (i : Nat), .str ⟨#[c]⟩])) h'' s.heap.objs.size (.tup [.int (i : Nat), .str ⟨#[c]⟩]) :=
      ⟨by show 2 ≤ sizeLine; decide, [.int i tk, .str ⟨#[c]⟩ u], .cons ⟨_, rfl⟩ (.cons ⟨u, rfl⟩ .nil), ⟨_, hT2, rfl, _, rfl⟩⟩
    have I1 : Inv X pins σ (upd H s.heap.objs.size (.tup [.int (i : Nat), .str ⟨#[c]⟩])) { s with heap := h'', toks := tk + 1 } :=
      I.turnedNew (ch := [e, it]) (fun b ob hb q => (sb.2 b (fun z => hb (by simp [z]))).trans (hk b ob (fun z => hb (by simp [z])) (fun z => hb (by simp [z])) q)) hf (Nat.le_refl _) new
    refine ⟨.ref s.heap.objs.size, _, I1, rfl, ⟨_, c, rfl, I.hok.fresh (Nat.le_refl _), rfl, hx⟩, ⟨⟨.str ⟨#[c]⟩ u, ?_⟩, ?_, hne⟩, fun b hb => ?_⟩
    · have e1 : ((i + 1 : Nat) : Int) = (i : Int) + 1 := by omega
      rw [e1]
      exact he'
    · obtain ⟨o, q, r⟩ := hit'
      exact ⟨o, (sb.2 it (Ne.symm hne)).trans q, r⟩
    · have hb' : b < s.heap.objs.size := by
        have e' : b = e ∨ b = it := by simpa using hb
        rcases e' with z | z
        · rw [z]
          exact hel
        · rw [z]
          exact hil
      rw [upd_ne (Nat.ne_of_lt hb')]
      exact (hf b hb).1
  done := by
    intro X hP hw hK hc i pins s σ H E I hf st hg
    subst hP hw hK
    obtain ⟨⟨old, he⟩, hit, hne⟩ := st
    obtain ⟨f0, f1, f2, f3, f4, f5⟩ := hf it (by simp)
    exact wpAny_pyNext_enum_endD (draws_end (show X.A.in1.handled = none from I.ok.hd hc) it x t i hg) he ⟨rfl, hit⟩ fun h' eb => ⟨rfl, I.turned (t' := s.toks) (fun b o hb q => eb b o hb q) f0 f1 f3 f4 f5⟩
  self := fun A i s Q E st h => let ⟨⟨_, he⟩, _⟩ := st; wpAny_pyIter_enum he h

def enumD : Nat → List D → List D
  | _, [] => []
  | k, d :: ds => .tup [.int (k : Nat), d] :: enumD (k + 1) ds
theorem enumD_get : ∀ {ds : List D} {k i : Nat}, (enumD k ds)[i]? = (ds[i]?).map fun d => .tup [.int ((k + i : Nat) : Int), d]
  | [], _, _ => by simp [enumD]
  | d :: ds, k, 0 => by simp [enumD]
  | d :: ds, k, i + 1 => by
    show (enumD (k + 1) ds)[i]? = _
    rw [enumD_get, List.getElem?_cons_succ]
    have e : k + 1 + i = k + (i + 1) := by omega
    rw [e]
theorem enumD_len : ∀ {ds : List D} {k : Nat}, (enumD k ds).length = ds.length
  | [], _ => rfl
  | d :: ds, k => by
    show (enumD (k + 1) ds).length + 1 = _
    rw [enumD_len]
    rfl
theorem yield_new {K : PySem.W.Frag} {W : Fix} {F H : Hp} {σ : L2.St} {δ : Env'} {T : Addr} {i : Nat} {x : V} {d : D} (S : SD K W F H σ δ) (hT : H T = none) (r : Rp K F d x) :
    ∃ F'', Same F F'' ∧ SD K W F'' (upd H T (.tup [.int (i : Nat), x])) σ δ ∧ Rp K F'' (.tup [.int (i : Nat), d]) (.ref T) ∧ ∀ b o, H b = some o → (upd H T (.tup [.int (i : Nat), x])) b = some o := by
  have e := same_upd (o := .tup [.int (i : Nat), x]) (S.freshF hT)
  refine ⟨_, e, S.new hT, ?_, same_upd hT⟩
  unfold Rp
  exact ⟨T, _, rfl, upd_same, .cons (by unfold Rp; rfl) (.cons (Rp.mono e _ _ r) .nil)⟩
theorem yields_enumT {K : PySem.W.Frag} {F : Hp} {x : Str} : Yields K F (Itx x) (enumD 0 (signs x)) := by
  intro W F' H' σ δ i S e
  have hs : (signs x)[i]? = (x.cps[i]?).map fun c => D.str ⟨#[c]⟩ := by
    unfold signs
    rw [List.getElem?_map, Array.getElem?_toList]
  refine ⟨fun d hd => ?_, fun hn => ?_⟩
  · rw [enumD_get, hs] at hd
    cases hc : x.cps[i]? with
    | none =>
      rw [hc] at hd
      cases hd
    | some c =>
      rw [hc] at hd
      have hi : i < x.cps.size := (Array.getElem?_eq_some_iff.mp hc).1
      refine ⟨hi, fun y H'' hy => ?_⟩
      obtain ⟨T, c', rfl, hT, rfl, hc'⟩ := hy
      rw [hc] at hc'
      cases hc'
      have hd : some (D.tup [.int ((0 + i : Nat) : Int), .str ⟨#[c]⟩]) = some d := hd
      cases hd
      rw [Nat.zero_add]
      exact yield_new S hT (by unfold Rp; rfl)
  · have := List.getElem?_eq_none_iff.mp hn
    rw [enumD_len] at this
    unfold signs at this
    rw [List.length_map, Array.length_toList] at this
    exact this
theorem yields_enumL {K : PySem.W.Frag} {F : Hp} {a : Addr} {xs : List V} {ds : List D} (h : F a = some (.lst xs)) (r : RpL K F ds xs) : Yields K F (Ite K a) (enumD 0 ds) := by
  intro W F' H' σ δ i S e
  have h1 : SqL K H' a xs := SqL.of (S.fh _ _ (e _ _ h))
  refine ⟨fun d hd => ?_, fun hn => ?_⟩
  · rw [enumD_get] at hd
    cases hc : ds[i]? with
    | none =>
      rw [hc] at hd
      cases hd
    | some d0 =>
      rw [hc] at hd
      have hd : some (D.tup [.int ((0 + i : Nat) : Int), d0]) = some d := hd
      cases hd
      obtain ⟨x, hx, rx⟩ := r.get hc
      refine ⟨⟨xs, x, h1, hx⟩, fun y H'' hy => ?_⟩
      obtain ⟨T, x', rfl, hT, rfl, hy⟩ := hy
      have := hy xs h1
      rw [hx] at this
      cases this
      rw [Nat.zero_add]
      exact yield_new S hT (Rp.mono e _ _ rx)
  · refine ⟨xs, h1, ?_⟩
    have := List.getElem?_eq_none_iff.mp hn
    rw [enumD_len] at this
    rw [r.length]
    exact this
def tEnum (K : PySem.W.Frag) (ta : TA) : TI := fun σ H R => ta σ H fun vs H1 => (∃ x, vs = [.str x] ∧ R (Itx x) H1) ∨ ∃ a xs, vs = [.ref a] ∧ SqL K H1 a xs ∧ R (Ite K a) H1
theorem pi_enumA {X : Cx} {e : Expr} {ta : TA} {p pos tpos : Pos} {elts : List Expr} {kk : Nat} (hg : Gl X "enumerate") (hm : X.mg "enumerate" = none) (ha : PA X [e] ta) (hs : starEach [e] X.env = [(false, eval e X.env)] := by rfl) :
    PI X (.Tuple elts kk tpos) (.Call (.Name "enumerate" p) [e] [] pos) (tEnum X.K ta) := by
  refine ⟨fun pins s σ H R I h => ?_⟩
  refine Call_ (ld_blt I hg hm boot_enumerate (PyProof.Rows.callWith_type1 (thn (ha.run pos pins s σ H _ I h) fun us s1 ⟨vs, H1, I1, r1, q1⟩ => ?_) hs rfl))
  have fp2 : ∀ b ∈ [s1.heap.objs.size + 1, s1.heap.objs.size], s1.heap.objs.size ≤ b := fun b hb => by
    have e' : b = s1.heap.objs.size + 1 ∨ b = s1.heap.objs.size := by simpa using hb
    rcases e' with z | z
    · rw [z]
      exact Nat.le_succ _
    · rw [z]
      exact Nat.le_refl _
  rcases q1 with ⟨x, rfl, q⟩ | ⟨a, xs, rfl, hq, q⟩
  · cases r1 with
    | cons r rr =>
      cases rr
      obtain ⟨t, rfl⟩ := r
      refine call_enumerate_str fun h' he hit hsz hk => wpAny_pyIter_enum he ?_
      have I2 : Inv X pins σ H1 { s1 with heap := h' } := I1.kept (t' := s1.toks) hk
      exact ⟨s1.heap.objs.size + 1, [s1.heap.objs.size + 1, s1.heap.objs.size], _, _, H1, rfl, I2, turn_enumT x t (s1.heap.objs.size + 1) s1.heap.objs.size, ⟨⟨.none, he⟩, hit, Nat.succ_ne_self _⟩, fun b hb => I1.fpOk (fp2 b hb) (I1.hok.fresh (fp2 b hb)), q⟩
  · cases r1 with
    | cons r rr =>
      cases rr
      cases r
      obtain ⟨its, rv, p', hz⟩ := I1.list hq
      refine call_enumerate_list p'.isList fun h' he hit hsz hk => wpAny_pyIter_enum he ?_
      have I2 : Inv X pins σ H1 { s1 with heap := h' } := I1.kept (t' := s1.toks) hk
      exact ⟨s1.heap.objs.size + 1, [s1.heap.objs.size + 1, s1.heap.objs.size], _, _, H1, rfl, I2, turn_enum a (s1.heap.objs.size + 1) s1.heap.objs.size, ⟨⟨.none, he⟩, hit, Nat.succ_ne_self _⟩, fun b hb => I1.fpOk (fp2 b hb) (I1.hok.fresh (fp2 b hb)), q⟩
def iEnumD (t : TDA) : TDI := fun δ Q => t δ fun ds δ1 => (∃ x, ds = [.str x] ∧ Q (enumD 0 (signs x)) δ1) ∨ ∃ es, ds = [.lst es] ∧ Q (enumD 0 es) δ1
theorem di_enum {X : Cx} {W : Fix} {e : Expr} {t : TDA} {p pos tpos : Pos} {elts : List Expr} {kk : Nat} (hg : Gl X "enumerate") (hm : X.mg "enumerate" = none) (h : DA X W [e] t) (hs : starEach [e] X.env = [(false, eval e X.env)] := by rfl) :
    DI X W (.Tuple elts kk tpos) (.Call (.Name "enumerate" p) [e] [] pos) (iEnumD t) := by
  refine ⟨fun F H σ δ Q S q pins s I => (pi_enumA (X := X) (ta := cA X [e]) hg hm cA_pa hs).run pins s σ H _ I ?_⟩
  refine (h.run F H σ δ _ S q).imp fun vs H1 h1 => ?_
  obtain ⟨F1, ds, δ1, e1, S1, r1, q1⟩ := h1
  rcases q1 with ⟨x, rfl, q1⟩ | ⟨es, rfl, q1⟩
  · obtain ⟨v, rfl, rv⟩ := rpL1 r1
    exact .inl ⟨x, by rw [rpStr rv], F1, _, δ1, e1, S1, yields_enumT, q1⟩
  · obtain ⟨v, rfl, rv⟩ := rpL1 r1
    obtain ⟨a, xs, rfl, h2, h3⟩ := rpLst rv
    exact .inr ⟨a, xs, rfl, SqL.of (S1.fh _ _ h2), F1, _, δ1, e1, S1, yields_enumL h2 h3, q1⟩
end DD

set_option Elab.async false
set_option linter.all false
set_option maxRecDepth 100000
set_option maxHeartbeats 4000000
namespace DD
open PySem PySem.Spec PyProof.Rows L2

structure BsAt (K : PySem.W.Frag) (W : Fix) (F H : Hp) (σ : L2.St) (δ : Env') (bs : List B) (vs : List V) : Prop where
  rb : Paired (RB K W F H) bs vs
  off : ∀ (i : Nat) (b : B) (v : V), bs[i]? = some b → vs[i]? = some v → b.own = true → ∀ (j : Nat) (c : B), δ[j]? = some (some c) → c.own = true → σ[j]? ≠ some (some v)
  sep : ∀ (i j : Nat) (b c : B) (v : V), i ≠ j → bs[i]? = some b → b.own = true → bs[j]? = some c → c.own = true → vs[i]? = some v → vs[j]? ≠ some v
  noU : ∀ b ∈ bs, b.isU = false
def BQ (K : PySem.W.Frag) (W : Fix) (F : Hp) (σ : L2.St) (Q : List B → Env' → Prop) : List V → Hp → Prop := fun vs H' =>
  ∃ (F' : Hp) (bs : List B) (δ' : Env'), Same F F' ∧ SD K W F' H' σ δ' ∧ BsAt K W F' H' σ δ' bs vs ∧ Q bs δ'
abbrev TDB := Env' → (List B → Env' → Prop) → Prop
structure DB (X : Cx) (es : List Expr) (t : TDB) : Prop where
  run : ∀ (W : Fix) (F H : Hp) (σ : L2.St) (δ : Env') (Q : List B → Env' → Prop), SD X.K W F H σ δ → t δ Q → cA X es σ H (BQ X.K W F σ Q)
def bNil : TDB := fun δ Q => Q [] δ
def bCons (te : TD) (t : TDB) : TDB := fun δ Q => te δ fun b δ1 => b.isU = false ∧ t δ1 fun bs δ2 => Q (b :: bs) δ2
section
variable {X : Cx} {W : Fix} {e : Expr} {es : List Expr} {te : TD} {t : TDB}
theorem db_nil : DB X [] bNil := ⟨fun W F H σ δ Q S q pos pins s I => (pa_nil (X := X)).run pos pins s σ H _ I
  ⟨F, [], δ, Same.refl F, S, ⟨.nil, fun i b v h => by simp at h, fun i j b c v _ h => by simp at h, fun b h => by simp at h⟩, q⟩⟩
theorem RB.mono1 {K : PySem.W.Frag} {F F' H H' : Hp} {b : B} {v : V} (h : RB K W F H b v) (hb : b.own = false) (e : Same F F') : RB K W F' H' b v :=
  h.keep e (fun a o _ z => by rw [hb] at z; cases z) (fun a _ z => by rw [hb] at z; cases z)
theorem BsAt.cons {K : PySem.W.Frag} {F H : Hp} {σ : L2.St} {δ : Env'} {b : B} {v : V} {bs : List B} {vs : List V} (T : BsAt K W F H σ δ bs vs) (r : RB K W F H b v) (hu : b.isU = false)
    (ho : b.own = true → ∀ (j : Nat) (c : B), δ[j]? = some (some c) → c.own = true → σ[j]? ≠ some (some v)) (hs : b.own = true → ∀ (j : Nat) (c : B), bs[j]? = some c → c.own = true → vs[j]? ≠ some v) : BsAt K W F H σ δ (b :: bs) (v :: vs) where
  rb := .cons r T.rb
  off := fun i c u h1 h2 h3 => by
    cases i with
    | zero =>
      simp at h1 h2
      subst h1 h2
      exact ho h3
    | succ i => exact T.off i c u (by simpa using h1) (by simpa using h2) h3
  sep := fun i j c d u ne h1 h2 h3 h4 h5 => by
    cases i with
    | zero =>
      cases j with
      | zero => exact absurd rfl ne
      | succ j =>
        simp at h1 h5
        subst h1 h5
        rw [List.getElem?_cons_succ] at h3 ⊢
        exact hs h2 j d h3 h4
    | succ i =>
      cases j with
      | zero =>
        simp at h3
        subst h3
        rw [List.getElem?_cons_succ] at h1 h5
        intro z
        simp at z
        subst z
        exact hs h4 i c h1 h2 h5
      | succ j =>
        rw [List.getElem?_cons_succ] at h1 h3 h5 ⊢
        exact T.sep i j c d u (by omega) h1 h2 h3 h4 h5
  noU := fun c hc => by
    rcases List.mem_cons.mp hc with z | z
    · rw [z]
      exact hu
    · exact T.noU c z
theorem RB.unhold {K : PySem.W.Frag} {F H : Hp} {a : Addr} {o : HO} {b : B} {v : V} (r : RB K (W.hold a o) F H b v) (hu : b.isU = false) (hF : F a = none) : RB K W F H b v ∧ (b.own = true → v ≠ .ref a) := by
  cases b with
  | p d => exact ⟨r, fun z => by cases z⟩
  | u w n => cases hu
  | s d => cases hu
  | t dss => cases hu
  | m dss => cases hu
  | n ds =>
    obtain ⟨t, xs, h1, h2, h3, h4⟩ := r
    refine ⟨⟨t, xs, h1, h2, h3, fun c hc => ?_⟩, fun z => by cases z⟩
    obtain ⟨⟨ys, h5⟩, h6⟩ := h4 c hc
    have q : c ≠ a := fun z => by
      rw [z, hF] at h5
      cases h5
    have h6 : upd W.H0 a o c = none := h6
    rw [upd_ne q] at h6
    exact ⟨⟨ys, h5⟩, h6⟩
  | o d =>
    obtain ⟨c, rfl, h1, h2, h3⟩ := r
    have h2 : upd W.H0 a o c = none := h2
    have q : c ≠ a := fun z => by
      rw [z, upd_same] at h2
      cases h2
    rw [upd_ne q] at h2
    exact ⟨⟨c, rfl, h1, h2, h3⟩, fun _ z => q (V.ref.inj z)⟩
theorem db_cons (h : ∀ W, DE X W e te) (g : DB X es t) (hs : starEach (e :: es) X.env = (false, eval e X.env) :: starEach es X.env := by rfl) : DB X (e :: es) (bCons te t) := by
  refine ⟨fun W F H σ δ Q S q pos pins s I => (pa_cons (X := X) cE_pe cA_pa hs).run pos pins s σ H _ I ?_⟩
  refine ((h W).run F H σ δ _ S q).imp fun v H1 h1 => ?_
  obtain ⟨F1, b, δ1, e1, S1, r1, s1, hu, q1⟩ := h1
  by_cases hb : b.own = true
  · obtain ⟨d, rfl⟩ := own_noU hu hb
    obtain ⟨a, rfl, hF, h0, hO⟩ := r1
    obtain ⟨o, ho⟩ := hO.some
    have hP : W.P ≠ some a := fun z => by
      obtain ⟨_, _, o', z2⟩ := S1.fp a z
      rw [h0] at z2
      cases z2
    have Sh := S1.held ho h0 hF hP (s1 rfl)
    refine (g.run (W.hold a o) F1 H1 σ δ1 _ Sh q1).imp fun vs H2 h2 => ?_
    obtain ⟨F2, bs, δ2, e2, S2, T, q2⟩ := h2
    have hF0 : W.F0 a = none := S1.f0.free hF
    obtain ⟨S3, h3, hF2, hn⟩ := S2.unheld h0 hF0 hP
    have rr : ∀ {bs : List B} {vs : List V}, Paired (RB X.K (W.hold a o) F2 H2) bs vs → (∀ b ∈ bs, b.isU = false) → Paired (RB X.K W F2 H2) bs vs ∧ ∀ (j : Nat) (c : B), bs[j]? = some c → c.own = true → vs[j]? ≠ some (V.ref a) := by
      intro bs vs r
      induction r with
      | nil => exact fun _ => ⟨.nil, fun j c z => by simp at z⟩
      | @cons b v bs vs r rs ih =>
        intro hz
        obtain ⟨g1, g2⟩ := r.unhold (hz b List.mem_cons_self) hF2
        obtain ⟨g3, g4⟩ := ih fun c hc => hz c (List.mem_cons_of_mem _ hc)
        refine ⟨.cons g1 g3, fun j c z1 z2 => ?_⟩
        cases j with
        | zero =>
          simp at z1
          subst z1
          intro z
          simp at z
          exact g2 z2 z
        | succ j =>
          rw [List.getElem?_cons_succ] at z1 ⊢
          exact g4 j c z1 z2
    obtain ⟨g1, g2⟩ := rr T.rb T.noU
    have T' : BsAt X.K W F2 H2 σ δ2 bs vs := ⟨g1, T.off, T.sep, T.noU⟩
    have hO2 : Own X.K F2 H2 d a := by
      cases d <;> first | exact hO.elim | skip
      · obtain ⟨xs, z1, z2⟩ := hO
        rw [ho] at z1
        cases z1
        exact ⟨xs, h3, RpL.mono e2 _ _ z2⟩
      · obtain ⟨xs, z1, z2, z3⟩ := hO
        rw [ho] at z1
        cases z1
        exact ⟨xs, h3, RpL.mono e2 _ _ z2, z3⟩
      · obtain ⟨dx, xs, z1, z2, z3⟩ := hO
        rw [ho] at z1
        cases z1
        exact ⟨dx, xs, h3, RpL.mono e2 _ _ z2, z3⟩
      · have z1 : H1 a = some (.set _ _) := hO
        rw [ho] at z1
        cases z1
        exact h3
      · obtain ⟨xs, z1, z2, z3⟩ := hO
        rw [ho] at z1
        cases z1
        exact ⟨xs, h3, RpL.mono e2 _ _ z2, z3⟩
    exact ⟨F2, .o d :: bs, δ2, e1.trans e2, S3, T'.cons ⟨a, rfl, hF2, h0, hO2⟩ rfl (fun _ => hn) (fun _ => g2), q2⟩
  · have hb : b.own = false := by simpa using hb
    refine (g.run W F1 H1 σ δ1 _ S1 q1).imp fun vs H2 h2 => ?_
    obtain ⟨F2, bs, δ2, e2, S2, T, q2⟩ := h2
    exact ⟨F2, b :: bs, δ2, e1.trans e2, S2, T.cons (r1.mono1 hb e2) hu (fun z => by rw [hb] at z; cases z) (fun z => by rw [hb] at z; cases z), q2⟩
end

section
variable {X : Cx} {W : Fix} {t : TDB}
theorem SD.puts {K : PySem.W.Frag} {F H : Hp} {σ : L2.St} {δ : Env'} {is : List Nat} : ∀ {bs : List B} {vs : List V} {ns : List Nat}, ns.Nodup → ns.length = bs.length → SD K W F H σ δ → BsAt K W F H σ δ bs vs →
    ∃ σ' δ', σ' = (ns.zip vs).foldl (fun τ p => τ.set p.1 (some p.2)) σ ∧ δ' = (ns.zip bs).foldl (fun ε p => ε.set p.1 (some p.2)) δ ∧ SD K W F H σ' δ' := by
  suffices h : ∀ (bs : List B) (vs : List V) (ns : List Nat) (σ : L2.St) (δ : Env'), ns.Nodup → ns.length = bs.length → SD K W F H σ δ → BsAt K W F H σ δ bs vs →
      SD K W F H ((ns.zip vs).foldl (fun τ p => τ.set p.1 (some p.2)) σ) ((ns.zip bs).foldl (fun ε p => ε.set p.1 (some p.2)) δ) by
    intro bs vs ns hn hl S T
    exact ⟨_, _, rfl, rfl, h bs vs ns σ δ hn hl S T⟩
  intro bs
  induction bs with
  | nil =>
    intro vs ns σ δ hn hl S T
    have e : ns = [] := List.length_eq_zero_iff.mp hl
    subst e
    exact S
  | cons b bs ih =>
    intro vs ns σ δ hn hl S T
    cases ns with
    | nil => cases hl
    | cons n ns =>
      obtain ⟨rb, off, sep, nu⟩ := T
      cases rb with
      | @cons _ v _ vs r rs =>
        have nd := List.nodup_cons.mp hn
        refine ih vs ns _ _ nd.2 (by simpa using hl) (S.put (i := n) r fun hb j c h1 h2 _ => off 0 b v rfl rfl hb j c h1 h2) ⟨rs, fun i c u h1 h2 h3 j c' h4 h5 h6 => ?_, fun i j c d u ne h1 h2 h3 h4 h5 => ?_, fun c hc => nu c (List.mem_cons_of_mem _ hc)⟩
        · by_cases ej : j = n
          · subst ej
            have hlj : j < δ.length := by
              have := (List.getElem?_eq_some_iff.mp h4).1
              rw [List.length_set] at this
              exact this
            rw [List.getElem?_set_self hlj] at h4
            cases h4
            rw [List.getElem?_set_self (by rw [S.len]; exact hlj)] at h6
            cases h6
            exact sep 0 (i + 1) b c v (by omega) rfl h5 (by simpa using h1) h3 rfl (by simpa using h2)
          · rw [List.getElem?_set_ne (Ne.symm ej)] at h4 h6
            exact off (i + 1) c u (by simpa using h1) (by simpa using h2) h3 j c' h4 h5 h6
        · exact fun h6 => sep (i + 1) (j + 1) c d u (by omega) (by simpa using h1) h2 (by simpa using h3) h4 (by simpa using h5) (by simpa using h6)
def dPar (ns : List Nat) (t : TDB) : TSD := fun Z δ => t δ fun bs δ1 => bs.length = ns.length ∧ Z.nx ((ns.zip bs).foldl (fun ε p => ε.set p.1 (some p.2)) δ1)
theorem ds_par {i j : Nat} {x y : Str} {a b : Expr} {px py pt pos : Pos} {kt k2 : Nat} {pt2 : Pos} (hc : X.calm = true) (hN : X.N.Nodup) (hi : X.N[i]? = some x) (hj : X.N[j]? = some y) (hij : i ≠ j)
    (hx : X.env.scope.names.lookup x = some .local) (hy : X.env.scope.names.lookup y = some .local) (h : DB X [a, b] t)
    (hw : swappedStores [.Tuple [.Name x px, .Name y py] kt pt] (.Tuple [a, b] k2 pt2) X.env = pure (some [x, y]))
    (hs : swapsWithSole [.Tuple [.Name x px, .Name y py] kt pt] (.Tuple [a, b] k2 pt2) pos.line X.env = pure false := by rfl) :
    DS X W (.Assign [.Tuple [.Name x px, .Name y py] kt pt] (.Tuple [a, b] k2 pt2) pos) (dPar [i, j] t) :=
  .of (ps_par (X := X) hc hN hi hj hij hx hy cA_pa hw hs) fun F H σ δ D S q => by
    refine (h.run W F H σ δ _ S q).imp fun vs H1 h1 => ?_
    obtain ⟨F1, bs, δ1, e1, S1, T, hl, q1⟩ := h1
    have hv : vs.length = 2 := by
      rw [← Paired.length T.rb]
      exact hl
    match vs, hv with
    | [v, w], _ =>
      obtain ⟨σ', δ', e2, e3, S2⟩ := S1.puts (is := []) (ns := [i, j]) (by simpa using hij) hl.symm T
      refine ⟨v, w, rfl, F1, δ', ?_, by rw [e3]; exact q1⟩
      rw [e2] at S2
      exact S2
theorem ds_par3 {i j l : Nat} {x y z : Str} {a b c : Expr} {px py pz pt pos : Pos} {kt k2 : Nat} {pt2 : Pos} (hc : X.calm = true) (hN : X.N.Nodup) (hi : X.N[i]? = some x) (hj : X.N[j]? = some y) (hk : X.N[l]? = some z) (hij : i ≠ j) (hil : i ≠ l) (hjl : j ≠ l)
    (hx : X.env.scope.names.lookup x = some .local) (hy : X.env.scope.names.lookup y = some .local) (hz : X.env.scope.names.lookup z = some .local) (h : DB X [a, b, c] t)
    (hw : swappedStores [.Tuple [.Name x px, .Name y py, .Name z pz] kt pt] (.Tuple [a, b, c] k2 pt2) X.env = pure (some [x, y, z]))
    (hs : swapsWithSole [.Tuple [.Name x px, .Name y py, .Name z pz] kt pt] (.Tuple [a, b, c] k2 pt2) pos.line X.env = pure false := by rfl) :
    DS X W (.Assign [.Tuple [.Name x px, .Name y py, .Name z pz] kt pt] (.Tuple [a, b, c] k2 pt2) pos) (dPar [i, j, l] t) :=
  .of (ps_par3 (X := X) hc hN hi hj hk hij hil hjl hx hy hz cA_pa hw hs) fun F H σ δ D S q => by
    refine (h.run W F H σ δ _ S q).imp fun vs H1 h1 => ?_
    obtain ⟨F1, bs, δ1, e1, S1, T, hl, q1⟩ := h1
    have hv : vs.length = 3 := by
      rw [← Paired.length T.rb]
      exact hl
    match vs, hv with
    | [v, w, u], _ =>
      obtain ⟨σ', δ', e2, e3, S2⟩ := S1.puts (is := []) (ns := [i, j, l]) (by simp [hij, hil, hjl]) hl.symm T
      refine ⟨v, w, u, rfl, F1, δ', ?_, by rw [e3]; exact q1⟩
      rw [e2] at S2
      exact S2
end

section
variable {X : Cx} {W : Fix} {e : Expr} {te : TD} {pos : Pos}
def dDct0 : TD := fun δ Q => Q (.o (.dct [] [])) δ
theorem de_dct0 : DE X W (.Dict [] [] pos) dDct0 := .of (pe_dnewK (X := X)) fun F H σ δ Q S q p hp => .mkO (d := .dct [] []) S hp ⟨[], upd_same, .nil, rfl⟩ q
def keyE : Expr → Option Key
  | .Constant (.int i) _ _ => some (.inl i)
  | .Constant (.str x) _ _ => some (.inr x)
  | _ => none
theorem key_pe {ek : Expr} {k : Key} (h : keyE ek = some k) : PE X ek (tC (kV k)) := by
  unfold keyE at h
  split at h
  · cases h
    exact pe_int
  · cases h
    exact pe_str
  · cases h
end
end DD

set_option Elab.async false
set_option linter.all false
set_option maxRecDepth 100000
set_option maxHeartbeats 4000000
namespace DD
open PySem PySem.Spec PyProof.Rows L2

theorem head_call {P : Program} {w : World} {K : PySem.W.Frag} {mg mb : Str → Option Value} {k : Nat} {fa a : Addr} {x : Str} {sp : Sp} {s1 : Shared} {us : List Value} {ns : List Int}
    (KX : K.In s1.heap) (gl : s1.heap.Ns mainGlobals mg) (bl : s1.heap.Ns builtinsNs mb) (bb : ∀ y : Str, y ≠ "__name__" → mb y = bootBuiltins y) (lim : s1.heap.NoLimit) (ge : s1.gens = #[])
    (ga : s1.heap.get? a = some { cls := .type "list", data := .seq us.toArray }) (hin : IntsAre us ns) (lz : ns.length ≤ sizeLine) (hr : Room k callerA)
    (G : ∀ base : Heap, K.In base → base.Ns mainGlobals mg → ∃ fd : FuncData, GnOk P w K mg base k fa fd [x] sp ∧ BindsTo s1 fd ⟨[.ref a], []⟩ [(x, .ref a)])
    (hsp : ∀ H : Hp, Only H → SqL K H a (ns.map V.int) → sp [.ref a] H (fun v _ => v = .bl true) fun _ _ _ => False) :
    codeAny (model P w) callerA (.call (.ref fa) ⟨[.ref a], []⟩) (fun r s' => r = .ok (.ret (.bool true)) ∧ OldK s1.heap s'.heap ∧ s'.os = s1.os ∧ AllBare s'.gens) s1 := by
  have lenU := hin.length
  have vals : Vals (ns.map V.int) us := vals_ints hin
  suffices core : ∀ H : Hp, Only H → SqL K H a (ns.map V.int) → HOk P w H s1.heap → (∀ c, H c ≠ none → c = a ∧ K.lookup a = none) →
      codeAny (model P w) callerA (.call (.ref fa) ⟨[.ref a], []⟩) (fun r s' => r = .ok (.ret (.bool true)) ∧ OldK s1.heap s'.heap ∧ s'.os = s1.os ∧ AllBare s'.gens) s1 by
    cases hk : K.lookup a with
    | some ob =>
      have e := KX a ob hk
      rw [ga] at e
      cases e
      exact core (fun _ => none) (fun _ => .inl rfl) (.inr ⟨_, us.toArray, _, hk, rfl, rfl, rfl, by rw [List.size_toArray, lenU]; exact lz, by simpa using vals⟩) (fun c u z => by have z' : (none : Option HO) = some u := z; cases z') fun c z => absurd rfl z
    | none =>
      have at1 : ∀ c, c = a → (fun c => if c = a then some (HO.frz { cls := .type "list", data := .seq us.toArray } (.lst (ns.map V.int))) else none) c = some (HO.frz { cls := .type "list", data := .seq us.toArray } (.lst (ns.map V.int))) := fun c e => if_pos e
      refine core (fun c => if c = a then some (.frz { cls := .type "list", data := .seq us.toArray } (.lst (ns.map V.int))) else none) (fun c => ?_) (.inl (.inr ⟨_, at1 a rfl⟩)) (fun c u z => ?_) fun c z => ⟨?_, hk⟩
      · by_cases e : c = a
        · exact .inr ⟨_, _, if_pos e⟩
        · exact .inl (if_neg e)
      · by_cases e : c = a
        · have z2 := (if_pos e).symm.trans z
          cases z2
          rw [e]
          exact ⟨ga, by rw [List.length_map]; exact lz, us, _, vals, ga⟩
        · have z2 := (if_neg e).symm.trans z
          cases z2
      · by_cases e : c = a
        · exact e
        · exact absurd (if_neg e) z
  intro H hO hS hok only
  have up : ∀ {c : Addr} {ob : Obj}, s1.heap.get? c = some ob → H c = none → (hidT s1.heap H).get? c = some ob := fun e n => hidT_get e n
  have dn : ∀ {c : Addr} {ob : Obj} {es : Array DictEntry} {ep : Nat}, s1.heap.get? c = some ob → ob.data = .dict es ep → H c = none := by
    intro c ob es ep e d
    cases q : H c with
    | none => rfl
    | some u =>
      have ea := (only c (by rw [q]; simp)).1
      rw [ea, ga] at e
      cases e
      have d2 : Data.seq us.toArray _ = Data.dict es ep := d
      cases d2
  have nsUp : ∀ {c : Addr} {m : Str → Option Value}, s1.heap.Ns c m → (hidT s1.heap H).Ns c m := by
    rintro c m ⟨ob, es, ep, e, d, r⟩
    exact ⟨ob, es, ep, up e (dn e d), d, r⟩
  have KB : K.In (hidT s1.heap H) := by
    intro c ob e
    refine up (KX c ob e) ?_
    cases q : H c with
    | none => rfl
    | some u =>
      obtain ⟨ea, en⟩ := only c (by rw [q]; simp)
      rw [ea, en] at e
      cases e
  have M : Mod K mg (hidT s1.heap H) := ⟨KB, nsUp gl, ⟨mb, nsUp bl, bb⟩, by obtain ⟨mc, z1, z2⟩ := lim; exact ⟨mc, nsUp z1, z2⟩⟩
  have E0 : Env0 P w K mg (hidT s1.heap H) callerA [] s1 H := ⟨rfl, M, fun c ob e => of_hidT e, Nat.le_of_eq (hidT_size _ _), trivial, fun c z => absurd (show c ∈ ([] : List Addr) from z) (by simp), hok, .of_eq ge⟩
  obtain ⟨fd, G1, hbind⟩ := G _ KB (nsUp gl)
  refine codeAny_mono (G1.run callerA [] s1 H ⟨[.ref a], []⟩ [.ref a] [.ref a] _ _ rfl hr E0 hbind (.cons rfl .nil) (hsp H hO hS)) ?_
  intro r s' h
  cases r with
  | error e =>
    obtain ⟨_, _, _, _, _, _, _, _, _, _, _, _, z⟩ := h
    exact z.elim
  | ok fl =>
    cases fl with
    | next => exact h.elim
    | brk => exact h.elim
    | cont => exact h.elim
    | ret u =>
      obtain ⟨v, H', os, bare, un, hok', rv, q⟩ := h
      have q : v = .bl true := q
      subst q
      obtain rfl : u = Value.bool true := rv
      refine ⟨rfl, OldK.of_keep fun c ob e => ?_, os, bare⟩
      cases q : H c with
      | none => exact un.keep c ob e q (fun z => absurd (show c ∈ ([] : List Addr) from z) (by simp)) (by simp)
      | some u =>
        rcases hO c with z | ⟨ob2, xs, z⟩
        · rw [q] at z
          cases z
        · obtain ⟨e1, _⟩ := hok c _ z
          obtain ⟨e2, _⟩ := hok' c _ (un.frzs c ob2 _ z)
          rw [e] at e1
          cases e1
          exact e2
theorem walk_g {l : PySem.W.OpenLaw} {n k : Nat} {q : Program} {loose : List Str} {XP : (Str → Option Value) → Heap → Prop} {YP : World → Heap → Prop} {d : DefRec} {K : Params → PySem.W.Frag} {spd : Spd} {x : Str}
    (hn : l.most = some n) (hn2 : n ≤ sizeLine) (hdf : d.params.defaults = []) (hr : Room k callerA) (hY : ∀ (w : World) (h : Heap), YP w h → (K w.params).In h)
    (G : ∀ (w : World) (mg : Str → Option Value) (h : Heap), (K w.params).In h → h.Ns mainGlobals mg →
      ∀ base : Heap, (K w.params).In base → base.Ns mainGlobals mg → ∃ (fa : Addr) (fd : FuncData), GnOk l.prog w (K w.params) mg base k fa fd [x] (toSp (K w.params) spd) ∧ mg d.name = some (.ref fa) ∧ Binds (K w.params) fd [x] [])
    (hsp : ∀ ns : List Int, ns.length ≤ n → spd [.p (.scr ns)] (fun b _ => b = .p (.bl true)) fun _ _ _ => False) :
    PySem.W.WalkO q loose XP YP l.row.toRowW d [] (fun f vs => PySem.call f vs) := by
  refine Att.attach_call hn hdf ?_
  intro w s0 s1 mg mb fa o pm cd doc a vs ns GG Y ho hd hcd hmg hobj hints hlen hg
  have KX := hY w _ Y
  refine head_call (sp := toSp (K w.params) spd) (x := x) KX GG.T.g GG.T.b GG.T.builtins GG.T.nolimit hg hobj hints (Nat.le_trans hlen hn2) hr (fun base kb nb => ?_) fun H hO hS => ?_
  · obtain ⟨fa', fd, g1, e, g2⟩ := G w mg _ KX GG.T.g base kb nb
    rw [hmg] at e
    cases e
    exact ⟨fd, g1, g2 s1 [.ref a] KX rfl⟩
  refine ⟨H, none, [.p (.scr ns)], _, _, Same.refl H, .cons (?_ : Rp _ H (.scr ns) (.ref a)) .nil, (fun p e => by cases e), hsp ns hlen, fun v H' F' b m _ r q => ?_, fun cls dx H' F' C ds m _ _ z => z.elim⟩
  · unfold Rp
    refine ⟨a, rfl, ?_⟩
    rcases hS with (q | ⟨o', q⟩) | q
    · rcases hO a with z | ⟨o', xs, z⟩
      · rw [z] at q
        cases q
      · rw [z] at q
        cases q
    · exact .inl ⟨o', q⟩
    · exact .inr q
  · subst q
    exact rpBl (K := K w.params) (F := F') r
end DD

set_option Elab.async false
set_option linter.all false
set_option maxRecDepth 100000
set_option maxHeartbeats 4000000
namespace DD
open PySem PySem.Spec PyProof.Rows L2

structure DefAt (K : PySem.W.Frag) (mg : Str → Option Value) (x : Str) (st : Stmt) : Prop where
  ex : ∃ f fd, Fun K x x st f fd ∧ mg x = some (.ref f)
structure Cal (P : Program) (w : World) (K : PySem.W.Frag) (mg : Str → Option Value) (base : Heap) (x : Str) (k : Nat) (ps : List Str) (spd : Spd) : Prop where
  ex : ∃ f fd, GnOk P w K mg base k f fd ps (toSp K spd) ∧ mg x = some (.ref f) ∧ PySem.W.keepIn K (.ref f) = true ∧ Binds K fd ps []
section
variable {P : Program} {w : World} {K : PySem.W.Frag} {mg : Str → Option Value} {base : Heap}
theorem cal_mk {x : Str} {st : Stmt} {N ps : List Str} {k : Nat} {spd : Spd} (pi : Option Nat) (D : DefAt K mg x st) (S : FnScope N ps (defScope st))
    (hbd : ∀ (kV doc pm : Value) (an : Option Addr) (cdv ct : Value) (us : List Value), us.length = ps.length → bindArgs (PySem.W.fnOf x x (defArgs st) (defBody st) (defScope st) .none kV doc pm an cdv ct) ⟨us, []⟩ = pure (ps.zip us))
    (len : ∀ bs R E, spd bs R E → bs.length = ps.length) (hpk : ∀ bs R E, spd bs R E → PurK pi bs ∧ (pi = none → ∀ b ∈ bs, b.own = false))
    (hbody : ∀ (f : Addr) (cdv : Value) (A : Around) (outer : List Env) (s : Shared) (H : Hp) (E : XK) (W : Fix) (bs : List B) (R : B → Nat → Prop) (ED : Addr → List DD.D → Nat → Prop), A.guards = some [] →
      Room k (A.deeper (envOfC x (defScope st) s.heap.objs.size f cdv)) → TkE (cxOf (L2N.CX P w) P w K mg base N x (defScope st) f cdv A outer s H E) W (fun C ds δ => ∃ m, PC pi δ m ∧ ED C ds m) → spd bs R ED → Same W.F0 W.H0 →
      ∃ t, DSs (cxOf (L2N.CX P w) P w K mg base N x (defScope st) f cdv A outer s H E) W (defBody st) t ∧
        t { nx := fun δ => ∃ m, PC pi δ m ∧ R (.p .non) m, rt := fun b δ => b.isR = false ∧ ∃ m, PC pi δ m ∧ R b m } (startD N bs)) :
    Cal P w K mg base x (k + 1) ps spd := by
  obtain ⟨f, fd, F, hm⟩ := D.ex
  exact ⟨f, fd, gd_of pi F S len hpk (hbody f), hm, F.kp, F.binds hbd⟩
theorem pur_none {bs : List B} (h : ∀ b ∈ bs, b.own = false) : PurK none bs ∧ ((none : Option Nat) = none → ∀ b ∈ bs, b.own = false) :=
  ⟨(fun j b e hb => by rw [h b (List.mem_of_getElem? e)] at hb; cases hb), fun _ => h⟩
theorem pur_zero {n : Nat} {w : Bool} {bs : List B} (h : ∀ b ∈ bs, b.own = false) : PurK (some 0) (.u w n :: bs) ∧ ((some 0 : Option Nat) = none → ∀ b ∈ B.u w n :: bs, b.own = false) := by
  refine ⟨fun j b e hb => ?_, fun z => by cases z⟩
  cases j with
  | zero => rfl
  | succ j =>
    rw [List.getElem?_cons_succ] at e
    rw [h b (List.mem_of_getElem? e)] at hb
    cases hb
end
theorem walk_c {l : PySem.W.OpenLaw} {n k : Nat} {q : Program} {loose : List Str} {XP : (Str → Option Value) → Heap → Prop} {YP : World → Heap → Prop} {d : DefRec} {K : Params → PySem.W.Frag} {spd : Spd} {x y : Str}
    (hn : l.most = some n) (hn2 : n ≤ sizeLine) (hdf : d.params.defaults = []) (hr : Room k callerA) (hY : ∀ (w : World) (h : Heap), YP w h → (K w.params).In h) (hy : d.name = y)
    (G : ∀ (w : World) (mg : Str → Option Value) (h : Heap), (K w.params).In h → h.Ns mainGlobals mg → ∀ base : Heap, Cal l.prog w (K w.params) mg base y k [x] spd)
    (hsp : ∀ ns : List Int, ns.length ≤ n → spd [.p (.scr ns)] (fun b _ => b = .p (.bl true)) fun _ _ _ => False) :
    PySem.W.WalkO q loose XP YP l.row.toRowW d [] (fun f vs => PySem.call f vs) := by
  subst hy
  refine walk_g (spd := spd) (x := x) hn hn2 hdf hr hY (fun w mg h KX GG base _ _ => ?_) hsp
  obtain ⟨f, fd, g, hm, _, b⟩ := (G w mg h KX GG base).ex
  exact ⟨f, fd, g, hm, b⟩
theorem defAt_of {K : PySem.W.Frag} {h : Heap} {mg : Str → Option Value} {x : Str} {st : Stmt} {f : Addr} {oc : Value} {od an : Option Addr} {osl : Array (Option Value)} {kV doc pm cdv ct : Value} (X : K.In h) (G : h.Ns mainGlobals mg)
    (a : PySem.W.nsIn K mainGlobals x = some (some (.ref f))) (l : K.lookup f = some ⟨oc, od, .func (PySem.W.fnOf x x (defArgs st) (defBody st) (defScope st) .none kV doc pm an cdv ct), osl⟩)
    (c : PySem.W.codeIn K cdv x = true) (k : PySem.W.keepIn K (.ref f) = true) : DefAt K mg x st := ⟨f, _, fun_mk l c k, PySem.W.mg_of X G a⟩
section
variable {X : Cx} {W : Fix} {E0 : Addr → List D → Env' → Prop} {k k' : Nat} {ps : List Str} {spd : Spd} {x : Str} {p pos : Pos} {e : Expr} {es : List Expr} {t : TDA}
theorem de_c (c : Cal X.prog X.w X.K X.mg X.base x k ps spd) (gu : X.A.guards = some []) (hr : Room k' X.A) (h : DA X W (e :: es) t) (hg : Gl X x := by exact rfl) (hk : k ≤ k' := by decide) (hdb : (x == ("__debug__" : Str)) = false := by decide)
    (he : starEach (e :: es) X.env = (false, eval e X.env) :: starEach es X.env := by rfl) (hpl : (backTo pos (starEach es X.env)).any (·.1) = false := by rfl) : DE X W (.Call (.Name x p) (e :: es) [] pos) (dCall spd [] (fun _ _ _ => False) t) := by
  obtain ⟨f, fd, G, hm, kp, b⟩ := c.ex
  exact de_call G gu (hr.mono hk) hg hm kp b .nil (fun _ => .nil) h hdb he hpl
theorem de_cX (te : TkE X W E0) (c : Cal X.prog X.w X.K X.mg X.base x k ps spd) (gu : X.A.guards = some []) (hr : Room k' X.A) (h : DA X W (e :: es) t) (hg : Gl X x := by exact rfl) (hk : k ≤ k' := by decide) (hdb : (x == ("__debug__" : Str)) = false := by decide)
    (he : starEach (e :: es) X.env = (false, eval e X.env) :: starEach es X.env := by rfl) (hpl : (backTo pos (starEach es X.env)).any (·.1) = false := by rfl) : DE X W (.Call (.Name x p) (e :: es) [] pos) (dCall spd [] E0 t) := by
  obtain ⟨f, fd, G, hm, kp, b⟩ := c.ex
  exact de_callX te G gu (hr.mono hk) hg hm kp b .nil (fun _ => .nil) h hdb he hpl
theorem de_cP {i : Nat} {xp : Str} {pp : Pos} (c : Cal X.prog X.w X.K X.mg X.base x k ps spd) (gu : X.A.guards = some []) (hr : Room k' X.A) (hN : X.N[i]? = some xp) (h : DA X W es t) (hv : Vis X.env.scope xp := by first | exact Or.inl rfl | exact Or.inr (Or.inl rfl) | exact Or.inr (Or.inr rfl))
    (hg : Gl X x := by exact rfl) (hk : k ≤ k' := by decide) (hdb : (x == ("__debug__" : Str)) = false := by decide) (hd1 : (xp == ("__debug__" : Str)) = false := by decide) (hcd : (xp == ("__classdict__" : Str)) = false := by decide)
    (he : starEach (.Name xp pp :: es) X.env = (false, eval (.Name xp pp) X.env) :: starEach es X.env := by rfl) (hpl : (backTo pos (starEach es X.env)).any (·.1) = false := by rfl) :
    DE X W (.Call (.Name x p) (.Name xp pp :: es) [] pos) (dCallP i spd [] (fun _ _ _ => False) t) := by
  obtain ⟨f, fd, G, hm, kp, b⟩ := c.ex
  exact de_callP G gu (hr.mono hk) hg hm kp hN hv b .nil (fun _ => .nil) h hdb hd1 hcd he hpl
def dAsP (te : TD) : TD := fun δ Q => te δ fun b δ1 => ∃ (x y z : Int) (n : Nat), b = .o (.lst [.int x, .int y, .int z]) ∧ PWF n x y z ∧ Q (.u false n) δ1
theorem de_asPurse {a : Expr} {te : TD} (h : DE X W a te) : DE X W a (dAsP te) := by
  refine ⟨fun F H σ δ Q S q => (h.run F H σ δ _ S q).imp fun v H' z => ?_⟩
  obtain ⟨F', b, δ', e, S', r, hs, x, y, w, n, rfl, hp, q⟩ := z
  obtain ⟨c, rfl, h1, h2, xs, h3, h4⟩ := r
  have e3 : xs = [V.int x, V.int y, V.int w] := RpL.int (ns := [x, y, w]) h4
  rw [e3] at h3
  exact ⟨F', .u false n, δ', e, S', ⟨c, x, y, w, rfl, h1, by rw [if_neg Bool.false_ne_true]; exact h2, h3, hp⟩, hs, q⟩

theorem de_v (i : Nat) {pos : Pos} (hN : X.N[i]? = some x := by rfl) (hv : Vis X.env.scope x := by first | exact Or.inl rfl | exact Or.inr (Or.inl rfl) | exact Or.inr (Or.inr rfl)) (hd : (x == ("__debug__" : Str)) = false := by decide) (hcd : (x == ("__classdict__" : Str)) = false := by decide) :
    DE X W (.Name x pos) (dV i) := de_var hN hv hd hcd
theorem de_m (i : Nat) {pos : Pos} (hN : X.N[i]? = some x := by rfl) (hv : Vis X.env.scope x := by first | exact Or.inl rfl | exact Or.inr (Or.inl rfl) | exact Or.inr (Or.inr rfl)) (hd : (x == ("__debug__" : Str)) = false := by decide) (hcd : (x == ("__classdict__" : Str)) = false := by decide) :
    DE X W (.Name x pos) (dM i) := de_move hN hv hd hcd
theorem de_ty {n : String} {pos : Pos} (hm : X.mg x = none) (hv : bootBuiltins x = some (.type n)) (hg : Gl X x := by exact rfl) (hn : x ≠ "__name__" := by decide) (hd : (x == ("__debug__" : Str)) = false := by decide) : DE X W (.Name x pos) (dC (.ty n)) :=
  de_bltn (v := .ty n) hg hm hv rfl (fun F => by unfold Rp; rfl) hn hd
structure ConAt (K : PySem.W.Frag) (mg : Str → Option Value) (x : Str) (d : D) : Prop where
  ex : ∃ u v, mg x = some u ∧ RelV v u ∧ ∀ F, Rp K F d v
theorem de_con {d : D} {pos : Pos} (c : ConAt X.K X.mg x d) (hg : Gl X x := by exact rfl) (hd : (x == ("__debug__" : Str)) = false := by decide) : DE X W (.Name x pos) (dC d) := by
  obtain ⟨u, v, h1, h2, h3⟩ := c.ex
  exact de_glob hg h1 h2 h3 hd
theorem con_ref {K : PySem.W.Frag} {mg : Str → Option Value} {a : Addr} (h : mg x = some (.ref a)) : ConAt K mg x (.ref a) := ⟨_, .ref a, h, rfl, fun F => by unfold Rp; rfl⟩
theorem vals_strs : ∀ {vs : List Value} {ss : List Str}, Paired (fun (s : Str) (v : Value) => ∃ t, v = .str s t) ss vs → Vals (ss.map V.str) vs
  | _, _, .nil => .nil
  | _, _, .cons h t => .cons h (vals_strs t)
theorem con_strs {K : PySem.W.Frag} {mg : Str → Option Value} {a : Addr} {o : Obj} {vs : List Value} {n : Nat} {ss : List Str} (h : mg x = some (.ref a)) (hk : K.lookup a = some o) (hc : o.cls = .type "tuple") (hd : o.data = .seq vs.toArray n)
    (hz : vs.length ≤ sizeLine) (hs : Paired (fun (s : Str) (v : Value) => ∃ t, v = .str s t) ss vs) : ConAt K mg x (.cst (ss.map D.str)) := by
  refine ⟨_, .ref a, h, rfl, fun F => ?_⟩
  unfold Rp
  exact ⟨a, ss.map V.str, rfl, .inr ⟨o, vs.toArray, n, hk, hc, hd, by simpa using hz, by simpa using vals_strs hs⟩, .ofStr ss⟩

theorem bt_len : bootBuiltins "len" = some (.builtin "len") := by decide +kernel
theorem bt_isinstance : bootBuiltins "isinstance" = some (.builtin "isinstance") := by decide +kernel
theorem bt_max : bootBuiltins "max" = some (.builtin "max") := by decide +kernel
theorem bt_int : bootBuiltins "int" = some (.type "int") := by decide +kernel
theorem bt_bool : bootBuiltins "bool" = some (.type "bool") := by decide +kernel
theorem bt_str : bootBuiltins "str" = some (.type "str") := by decide +kernel
theorem bt_list : bootBuiltins "list" = some (.type "list") := by decide +kernel
theorem bt_tuple : bootBuiltins "tuple" = some (.type "tuple") := by decide +kernel
end
end DD

set_option Elab.async false
set_option linter.all false
set_option maxRecDepth 100000
set_option maxHeartbeats 4000000
namespace DD
open PySem PySem.Spec PyProof.Rows L2

theorem lcL_map {g : TGD} {tt : TDT} {te : TD} {vs : List Nat} {Q : List D → Env' → Prop} {δ : Env'} (f : D → Bool) (h : D → D) (e1 e2 : D → Env') : ∀ {ds acc : List D},
    (∀ d ∈ ds, ∀ (Y : D → Env' → Prop) (N : Env' → Prop), (f d = true → Y (h d) (e1 d)) → (f d = false → N (e2 d)) → g d δ fun δ1 => tt δ1 fun k δ2 => if k = true then dp te δ2 Y else N δ2) →
    (∀ d ∈ ds, wipeE (e1 d) vs = δ ∧ wipeE (e2 d) vs = δ) → acc.length + ds.length ≤ sizeLine → Q (acc ++ (ds.filter f).map h) δ → lcL g tt te vs Q ds acc δ
  | [], acc, _, _, _, q => by
    have q : Q (acc ++ []) δ := q
    rw [List.append_nil] at q
    exact q
  | d :: ds, acc, hs, hw, hz, q => by
    obtain ⟨w1, w2⟩ := hw d List.mem_cons_self
    rw [List.length_cons] at hz
    refine hs d List.mem_cons_self _ _ (fun hf => ⟨by omega, ?_⟩) fun hf => ?_
    · rw [w1]
      refine lcL_map f h e1 e2 (fun d' hd' => hs d' (List.mem_cons_of_mem _ hd')) (fun d' hd' => hw d' (List.mem_cons_of_mem _ hd')) (by rw [List.length_append, List.length_singleton]; omega) ?_
      rw [List.filter_cons_of_pos hf, List.map_cons] at q
      rw [List.append_assoc]
      exact q
    · rw [w2]
      refine lcL_map f h e1 e2 (fun d' hd' => hs d' (List.mem_cons_of_mem _ hd')) (fun d' hd' => hw d' (List.mem_cons_of_mem _ hd')) (by omega) ?_
      rw [List.filter_cons_of_neg (by rw [hf]; decide)] at q
      exact q

def dat (d : D) : Bool := (tyD d).isSome
def isInt : D → Bool
  | .int _ => true
  | .bl _ => true
  | _ => false
def isBool : D → Bool
  | .bl _ => true
  | _ => false
def isStr : D → Bool
  | .str _ => true
  | _ => false
def isLst : D → Bool
  | .lst _ => true
  | _ => false
def isTup : D → Bool
  | .tup _ => true
  | .cst _ => true
  | _ => false
theorem eqD_int {a b : Int} : eqD (.int a) (.int b) = some (decide (a = b)) := by
  unfold eqD
  have h : (flatD (.int a) && flatD (.int b) && scal (flatV' (.int a)) (flatV' (.int b))) = true := rfl
  rw [if_pos h]
  by_cases e : a = b
  · rw [e]
    simp [flatV']
  · have e2 : ¬ flatV' (.int a) = flatV' (.int b) := fun z => e (V.int.inj z)
    rw [decide_eq_false e, decide_eq_false e2]
def Sh (k : Nat) (d : D) : Prop := ∃ c, toPy d = some c ∧ c.canLay0 = true ∧ c.depth ≤ k
theorem sh_all {k : Nat} : ∀ {ds : List D}, (∀ d ∈ ds, Sh k d) → ∃ cs, toPyL ds = some cs ∧ PyData.canLayAll0 cs = true ∧ PyData.depthAll cs ≤ k ∧ cs.length = ds.length
  | [], _ => ⟨[], rfl, rfl, Nat.zero_le _, rfl⟩
  | d :: ds, h => by
    obtain ⟨c, h1, h2, h3⟩ := h d List.mem_cons_self
    obtain ⟨cs, h4, h5, h6, h7⟩ := sh_all (ds := ds) fun d' hd => h d' (List.mem_cons_of_mem _ hd)
    refine ⟨c :: cs, ?_, ?_, Nat.max_le.mpr ⟨h3, h6⟩, by rw [List.length_cons, List.length_cons, h7]⟩
    · show (toPy d).bind (fun x => (toPyL ds).map fun xs => x :: xs) = _
      rw [h1, h4]
      rfl
    · show (c.canLay0 && PyData.canLayAll0 cs) = true
      rw [h2, h5]
      rfl
theorem sh_tup {k : Nat} {ds : List D} (h : ∀ d ∈ ds, Sh k d) : Sh (k + 1) (.tup ds) := by
  obtain ⟨cs, h1, h2, h3, _⟩ := sh_all h
  exact ⟨.tuple cs, by show (toPyL ds).map _ = _; rw [h1]; rfl, h2, Nat.succ_le_succ h3⟩
theorem Sh.mono {k k' : Nat} {d : D} (h : Sh k d) (hk : k ≤ k') : Sh k' d := by
  obtain ⟨c, h1, h2, h3⟩ := h
  exact ⟨c, h1, h2, Nat.le_trans h3 hk⟩
theorem sh_int {i : Int} : Sh 0 (.int i) := ⟨_, rfl, rfl, Nat.le_refl _⟩
theorem sh_bl {i : Bool} : Sh 0 (.bl i) := ⟨_, rfl, rfl, Nat.le_refl _⟩
end DD

set_option Elab.async false
set_option linter.all false
set_option maxRecDepth 100000
set_option maxHeartbeats 4000000
namespace DD
open PySem PySem.Spec PyProof.Rows L2
section
variable {X : Cx} {W : Fix} {x y : Str} {i j : Nat} {p p1 p2 p3 pos : Pos} {kk : Nat}
def dReprPair (i j : Nat) : TD := fun δ Q => ∃ b1 b2 c, δ[i]? = some (some b1) ∧ δ[j]? = some (some b2) ∧ b1.isU = false ∧ b2.isU = false ∧ toPyR (.tup [b1.d, b2.d]) = some c ∧ Shw c ∧ Q (.p (.str c.shown)) δ
end
end DD

set_option Elab.async false
set_option linter.all false
set_option maxRecDepth 100000
set_option maxHeartbeats 4000000
namespace DD
open PySem PySem.Spec PyProof.Rows L2

structure Rs (n k : Nat) (d : D) : Prop where
  ex : ∃ c, toPyR d = some c ∧ c.showable = true ∧ c.depth ≤ k ∧ c.leavesShort 60 = true ∧ c.bulk ≤ n
theorem Rs.mono {n k n' k' : Nat} {d : D} (h : Rs n k d) (hn : n ≤ n') (hk : k ≤ k') : Rs n' k' d := by
  obtain ⟨c, h1, h2, h3, h4, h5⟩ := h.ex
  exact ⟨c, h1, h2, Nat.le_trans h3 hk, h4, Nat.le_trans h5 hn⟩
section
variable {X : Cx} {W : Fix} {pos : Pos}
structure DV (X : Cx) (ks : List Key) (keys : List (Option Expr)) (values : List Expr) (trs : List (TE × TE)) (t : TDA) : Prop where
  pp : ∀ pos, PPs X pos keys values trs
  run : ∀ (W : Fix) (F H : Hp) (σ : L2.St) (δ : Env') (Q : List D → Env' → Prop), SD X.K W F H σ δ → t δ Q →
    tPairs trs σ H fun ps H' => ∃ (F' : Hp) (xs : List V) (ds : List D) (δ' : Env'), ps = (ks.zip xs).map (fun kv => (kV kv.1, kv.2)) ∧ xs.length = ks.length ∧ Same F F' ∧ SD X.K W F' H' σ δ' ∧ RpL X.K F' ds xs ∧ Q ds δ'
theorem tPairs_imp : ∀ {trs : List (TE × TE)} {σ : L2.St} {H : Hp} {Q Q' : List (V × V) → Hp → Prop}, (∀ p ∈ trs, ∀ (σ : L2.St) (H : Hp) (Q Q' : VK), p.1 σ H Q → (∀ v H', Q v H' → Q' v H') → p.1 σ H Q') → (∀ p ∈ trs, ∀ (σ : L2.St) (H : Hp) (Q Q' : VK), p.2 σ H Q → (∀ v H', Q v H' → Q' v H') → p.2 σ H Q') →
    tPairs trs σ H Q → (∀ ps H', Q ps H' → Q' ps H') → tPairs trs σ H Q'
  | [], _, _, _, _, _, _, h, i => i _ _ h
  | (tk, tv) :: r, σ, H, Q, Q', m1, m2, h, i => m1 _ List.mem_cons_self _ _ _ _ h fun x H1 h1 => m2 _ List.mem_cons_self _ _ _ _ h1 fun y H2 h2 =>
    tPairs_imp (fun p hp => m1 p (List.mem_cons_of_mem _ hp)) (fun p hp => m2 p (List.mem_cons_of_mem _ hp)) h2 fun ps H3 h3 => i _ _ h3
structure DVm (trs : List (TE × TE)) : Prop where
  m1 : ∀ p ∈ trs, ∀ (σ : L2.St) (H : Hp) (Q Q' : VK), p.1 σ H Q → (∀ v H', Q v H' → Q' v H') → p.1 σ H Q'
  m2 : ∀ p ∈ trs, ∀ (σ : L2.St) (H : Hp) (Q Q' : VK), p.2 σ H Q → (∀ v H', Q v H' → Q' v H') → p.2 σ H Q'
structure DVs (X : Cx) (ks : List Key) (keys : List (Option Expr)) (values : List Expr) (t : TDA) : Prop where
  ex : ∃ trs, DV X ks keys values trs t ∧ DVm trs
theorem dv_nil : DVs X [] [] [] dNil := ⟨[], ⟨fun _ => pps_nil, fun W F H σ δ Q S q => ⟨F, [], [], δ, rfl, rfl, Same.refl F, S, .nil, q⟩⟩, ⟨(fun _ h => by cases h), fun _ h => by cases h⟩⟩
theorem dv_cons {ek e : Expr} {k : Key} {ks : List Key} {keys : List (Option Expr)} {values : List Expr} {te : TD} {t : TDA} (hk : keyE ek = some k) (h : ∀ W, DE X W e te) (g : DVs X ks keys values t) : DVs X (k :: ks) (some ek :: keys) (e :: values) (dCons te t) := by
  obtain ⟨trs, g, m⟩ := g.ex
  refine ⟨(tC (kV k), cE X e) :: trs, ⟨fun pos => pps_cons (key_pe hk) cE_pe (g.pp pos), fun W F H σ δ Q S q => ?_⟩, ⟨fun p hp => ?_, fun p hp => ?_⟩⟩
  · refine ((h W).plain S q).imp fun y H2 h2 => ?_
    obtain ⟨F1, d, δ1, e1, S1, r1, q1⟩ := h2
    refine tPairs_imp m.m1 m.m2 (g.run W F1 H2 σ δ1 _ S1 q1) fun ps H3 h3 => ?_
    obtain ⟨F2, xs, ds, δ2, rfl, hl, e2, S2, r2, q2⟩ := h3
    exact ⟨F2, y :: xs, d :: ds, δ2, rfl, by rw [List.length_cons, List.length_cons, hl], e1.trans e2, S2, .cons (Rp.mono e2 d y r1) r2, q2⟩
  · rcases List.mem_cons.mp hp with rfl | hp
    · exact fun σ H Q Q' h i => i _ _ h
    · exact m.m1 p hp
  · rcases List.mem_cons.mp hp with rfl | hp
    · exact fun σ H Q Q' h i => cE.imp h i
    · exact m.m2 p hp
theorem mergeK_new : ∀ {more kvs : List (Key × V)}, (more.map (·.1)).Nodup → (∀ kv ∈ more, valV kvs kv.1 = none) → mergeK kvs more = kvs ++ more
  | [], kvs, _, _ => (List.append_nil _).symm
  | (k, v) :: more, kvs, nd, hn => by
    have e : mergeK kvs ((k, v) :: more) = mergeK (putK kvs k v) more := rfl
    rw [e, putK_new v (hn _ List.mem_cons_self)]
    have nd' := List.nodup_cons.mp (show (k :: more.map (·.1)).Nodup from nd)
    rw [mergeK_new nd'.2 fun kv hkv => ?_, List.append_assoc]
    · rfl
    · have h1 := hn kv (List.mem_cons_of_mem _ hkv)
      have h2 : ¬ k = kv.1 := fun z => nd'.1 (by rw [z]; exact List.mem_map_of_mem hkv)
      unfold valV at h1 ⊢
      rw [List.find?_append]
      cases hf : kvs.find? fun p => decide (p.1 = kv.1) with
      | some p =>
        rw [hf] at h1
        cases h1
      | none => simp [h2]
theorem zip_keys : ∀ {ks : List Key} {xs : List V}, xs.length = ks.length → (ks.zip xs).map (·.1) = ks
  | [], _, _ => rfl
  | k :: ks, [], h => by simp at h
  | k :: ks, x :: xs, h => by rw [List.zip_cons_cons, List.map_cons, zip_keys (ks := ks) (xs := xs) (by simpa using h)]
def dDctN (ks : List Key) (t : TDA) : TD := fun δ Q => t δ fun ds δ1 => Q (.o (.dct ks ds)) δ1
theorem de_dctN {keys : List (Option Expr)} {values : List Expr} {ks : List Key} {t : TDA} (g : DVs X ks keys values t) (nd : ks.Nodup) (hall : keys.all (·.isSome) = true) (hl : keys.length = values.length) (h0 : keys ≠ []) (h15 : keys.length ≤ 15) (hk : ks.length ≤ 15) : DE X W (.Dict keys values pos) (dDctN ks t) := by
  obtain ⟨trs, g, m⟩ := g.ex
  refine .of (pe_disp (X := X) (g.pp pos) hall hl h0 h15) fun F H σ δ Q S q p hp => ?_
  have S1 := S.newO (o := .dK []) hp
  have h0 := S.fresh0 hp
  have hF := S.freshF hp
  have hP : W.P ≠ some p := fun z => by
    obtain ⟨_, ⟨o, z2⟩, _⟩ := S.fp p z
    rw [hp] at z2
    cases z2
  have Sh := S1.held (o := .dK []) upd_same h0 hF hP fun j c h1 h2 h3 => by
    obtain ⟨u, h4, h5⟩ := S.get j c h1
    rw [h3] at h4
    cases h4
    obtain ⟨a', o, z, h6, _⟩ := h5.there h2
    cases z
    rw [hp] at h6
    cases h6
  refine tPairs_imp m.m1 m.m2 (g.run (W.hold p (.dK [])) F _ σ δ _ Sh q) fun ps H1 h1 => ?_
  obtain ⟨F1, xs, ds, δ1, rfl, hlx, e1, S2, r1, q1⟩ := h1
  obtain ⟨S3, h3, hF1, hn⟩ := S2.unheld h0 (S.f0.free hF) hP
  refine ⟨h3, ks.zip xs, rfl, by rw [List.length_zip]; omega, ?_⟩
  have em : mergeK [] (ks.zip xs) = ks.zip xs := by
    rw [mergeK_new (by rw [zip_keys hlx]; exact nd) (fun _ _ => rfl), List.nil_append]
  rw [em]
  exact ⟨F1, .o (.dct ks ds), δ1, e1, S3.turn h0 hF1 hn, ⟨p, rfl, hF1, h0, xs, upd_same, r1, hlx.symm⟩, fun _ => hn, q1⟩

def keyD : D → Option Key
  | .int i => some (.inl i)
  | .str x => some (.inr x)
  | _ => none
def lookD : List Key → List D → Key → Option D
  | k :: ks, d :: ds, j => if k = j then some d else lookD ks ds j
  | _, _, _ => none
theorem rp_key {K : PySem.W.Frag} {F : Hp} {d : D} {v : V} {k : Key} (h : Rp K F d v) (e : keyD d = some k) : v = kV k := by
  cases d <;> first | (cases e; done) | skip
  · cases e
    exact rpInt h
  · cases e
    exact rpStr h
theorem look_val {K : PySem.W.Frag} {F : Hp} : ∀ {ks : List Key} {ds : List D} {xs : List V} {k : Key} {d : D}, RpL K F ds xs → lookD ks ds k = some d → ∃ x, valV (ks.zip xs) k = some x ∧ Rp K F d x
  | [], _, _, _, _, _, e => by cases e
  | _ :: _, [], _, _, _, _, e => by cases e
  | j :: ks, d' :: ds, xs, k, d, h, e => by
    unfold RpL at h
    obtain ⟨x, r, rfl, h1, h2⟩ := h
    unfold lookD at e
    rw [List.zip_cons_cons]
    by_cases hj : j = k
    · rw [if_pos hj] at e
      cases e
      exact ⟨x, valV_pos hj, h1⟩
    · rw [if_neg hj] at e
      obtain ⟨y, e1, e2⟩ := look_val h2 e
      exact ⟨y, by rw [valV_neg hj]; exact e1, e2⟩
def rIxDct : R2 := fun x y H Q => ∃ a v, x = .ref a ∧ DGet H a y (some v) ∧ Q v H
theorem ix_dct (hu : X.A.units + 64 < cLine) : IxR X rIxDct := by
  intro value slice pins s σ H x y v u Q I rx ry h hs
  obtain ⟨a, z, rfl, g, q⟩ := h
  cases rx
  exact tail_any (dict_typeIs I g) PySem.F.slot_dict_getitem.lookup (d_getItem (by omega) I g ry fun w' s' I' r' => ⟨z, H, I', r', q⟩) hs
def itemD2 : D → D → Option D
  | .dct ks ds, y => (keyD y).bind (lookD ks ds)
  | x, y => itemD x y
def ixG2 : D → D → (B → Prop) → Prop := fun x y Q => ∃ d, itemD2 x y = some d ∧ Q (.p d)
theorem rd_ix2 {K : PySem.W.Frag} : RD K (fun x y H Q => rIx K x y H Q ∨ rIxDct x y H Q) ixG2 := by
  intro W F H σ δ x y c d Q Z S rc rd g hZ
  obtain ⟨e, he, q⟩ := g
  have other : itemD c d = some e → rIx K x y H Z := fun he => rd_ix W F H σ δ x y c d Q Z S rc rd ⟨e, he, q⟩ hZ
  cases c <;> first | exact .inl (other he) | skip
  rename_i ks ds
  have he : (keyD d).bind (lookD ks ds) = some e := he
  cases hk : keyD d with
  | none =>
    rw [hk] at he
    cases he
  | some k =>
    rw [hk] at he
    unfold Rp at rc
    obtain ⟨a, xs, rfl, h1, h2, _⟩ := rc
    obtain ⟨v, e1, e2⟩ := look_val h2 (show lookD ks ds k = some e from he)
    have ey := rp_key rd hk
    subst ey
    refine .inr ⟨a, v, rfl, ?_, hZ _ _ (mkP S e2 q)⟩
    rw [← e1]
    exact DGet.k (S.fh _ _ h1)
theorem de_ix2 {a b : Expr} {ta tb : TD} (hu : X.A.units + 64 < cLine) (ha : DE X W a ta) (hb : DE X W b tb) (hs : PlainIx b) : DE X W (.Subscript a b pos) (dOp ixG2 ta tb) :=
  .of (pe_ix (X := X) (ix_seq.or (ix_dct hu)) cE_pe cE_pe hs) fun _ _ _ _ _ S q => two ha hb rd_ix2 S q

def strG2 : List D → (B → Prop) → Prop := fun ds Q => ∃ d, ds = [d] ∧ match d with
  | .str s => Q (.p (.str s))
  | .int i => i.natAbs.log2 < 1920 ∧ Q (.p (.str (Str.ofString (toString i))))
  | _ => False
end
theorem dseq {t u : TSD} {Z : EndsD} {δ : Env'} (h : t { Z with nx := u Z } δ) : dSeq t u Z δ := h
theorem lcL_pre (I : List D → List D → Env' → Prop) {g : TGD} {tt : TDT} {te : TD} {vs : List Nat} {Q : List D → Env' → Prop} (hz : ∀ p acc δ, I p acc δ → acc.length < sizeLine) : ∀ {ds pre acc : List D} {δ : Env'},
    (∀ (p : List D) (d : D) (r acc : List D) (δ : Env'), pre ++ ds = p ++ d :: r → I p acc δ → ∀ (N : D → Env' → Prop) (M : Env' → Prop), (∀ y δ', I (p ++ [d]) (acc ++ [y]) (wipeE δ' vs) → N y δ') → (∀ δ', I (p ++ [d]) acc (wipeE δ' vs) → M δ') → g d δ fun δ1 => tt δ1 fun k δ2 => if k = true then dp te δ2 N else M δ2) →
    (∀ acc δ, I (pre ++ ds) acc δ → Q acc δ) → I pre acc δ → lcL g tt te vs Q ds acc δ
  | [], pre, acc, δ, _, hq, h => hq acc δ (by rw [List.append_nil]; exact h)
  | d :: ds, pre, acc, δ, hs, hq, h => by
    have more : ∀ acc' δ', I (pre ++ [d]) acc' δ' → lcL g tt te vs Q ds acc' δ' := fun acc' δ' h' => lcL_pre I hz (pre := pre ++ [d]) (fun p d' r a e q => hs p d' r a e (by rw [← q, List.append_assoc]; rfl)) (fun a e q => hq a e (by rw [List.append_assoc] at q; exact q)) h'
    exact hs pre d ds acc δ rfl h (fun y δ3 => acc.length < sizeLine ∧ lcL g tt te vs Q ds (acc ++ [y]) (wipeE δ3 vs)) (fun δ2 => lcL g tt te vs Q ds acc (wipeE δ2 vs)) (fun y δ' q => ⟨hz _ _ _ h, more _ _ q⟩) fun δ' q => more _ _ q
end DD

set_option Elab.async false
set_option linter.all false
set_option maxRecDepth 100000
set_option maxHeartbeats 4000000
namespace DD
open PySem PySem.Spec PyProof.Rows L2

def lookF : List Str → List D → Str → Option D
  | n :: ns, d :: ds, f => if f = n then some d else lookF ns ds f
  | _, _, _ => none
theorem lookF_val {K : PySem.W.Frag} {F : Hp} : ∀ {ns : List Str} {ds : List D} {xs : List V} {f : Str} {d : D}, RpL K F ds xs → lookF ns ds f = some d → ∃ x, (ns.zip xs).lookup f = some x ∧ Rp K F d x
  | [], _, _, _, _, _, e => by cases e
  | _ :: _, [], _, _, _, _, e => by cases e
  | n :: ns, d' :: ds, xs, f, d, h, e => by
    unfold RpL at h
    obtain ⟨x, r, rfl, h1, h2⟩ := h
    unfold lookF at e
    rw [List.zip_cons_cons, List.lookup_cons]
    by_cases hj : f = n
    · rw [if_pos hj] at e
      cases e
      have hb : (f == n) = true := beq_iff_eq.mpr hj
      rw [hb]
      exact ⟨x, rfl, h1⟩
    · rw [if_neg hj] at e
      obtain ⟨y, e1, e2⟩ := lookF_val h2 e
      have hb : (f == n) = false := beq_eq_false_iff_ne.mpr hj
      rw [hb]
      exact ⟨y, e1, e2⟩
structure FldOk (K : PySem.W.Frag) (C : Addr) (f : Str) : Prop where
  c : Cls K C
  n : NoAttr K C f
section
variable {X : Cx} {W : Fix} {e : Expr} {te : TD} {f : Str} {pos : Pos}
def dFld (K : PySem.W.Frag) (f : Str) (te : TD) : TD := fun δ Q => dp te δ fun d δ1 => ∃ C ns ds y, d = .ins C ns ds ∧ FldOk K C f ∧ lookF ns ds f = some y ∧ Q (.p y) δ1
theorem de_fld (h : DE X W e te) (hb : attributeBase e f X.env (eval e X.env) = eval e X.env := by rfl) : DE X W (.Attribute e f pos) (dFld X.K f te) :=
  .of (pe_fld (X := X) cE_pe hb) fun F H σ δ Q S q => by
    refine (h.plain S q).imp fun v H1 h1 => ?_
    obtain ⟨F1, d, δ1, e1, S1, r1, C, ns, ds, y, rfl, ok, l, q1⟩ := h1
    unfold Rp at r1
    obtain ⟨a, dx, xs, rfl, g1, g2, _⟩ := r1
    obtain ⟨x, g4, g5⟩ := lookF_val g2 l
    exact ⟨a, C, dx, _, x, rfl, S1.fh _ _ g1, ok.c, ok.n, g4, (DQ.mk S1 g5 q1).back e1⟩
end

def setF (f : Str) (y : D) : List Str → List D → List Str × List D
  | n :: ns, d :: ds => if n = f then (n :: ns, y :: ds) else ((n :: (setF f y ns ds).1), d :: (setF f y ns ds).2)
  | _, _ => ([f], [y])
theorem setF_ok {K : PySem.W.Frag} {F : Hp} {f : Str} {y : D} {v : V} (hy : Rp K F y v) : ∀ {ns : List Str} {ds : List D} {xs : List V}, RpL K F ds xs → ns.length = xs.length →
    ∃ ys, putF f v (ns.zip xs) = (setF f y ns ds).1.zip ys ∧ RpL K F (setF f y ns ds).2 ys ∧ (setF f y ns ds).1.length = ys.length
  | [], ds, xs, h, hl => by
    cases xs with
    | cons x xs => cases hl
    | nil =>
      have : ds = [] := List.length_eq_zero_iff.mp (by rw [← h.length]; rfl)
      subst this
      exact ⟨[v], rfl, .cons hy .nil, rfl⟩
  | n :: ns, [], xs, h, hl => by
    unfold RpL at h
    subst h
    cases hl
  | n :: ns, d :: ds, xs, h, hl => by
    unfold RpL at h
    obtain ⟨x, r, rfl, h1, h2⟩ := h
    by_cases e : n = f
    · refine ⟨v :: r, ?_, ?_, ?_⟩
      · show (if n = f then (n, v) :: ns.zip r else (n, x) :: putF f v (ns.zip r)) = (if n = f then (n :: ns, y :: ds) else _).1.zip (v :: r)
        rw [if_pos e, if_pos e]
        rfl
      · show RpL K F (if n = f then (n :: ns, y :: ds) else _).2 (v :: r)
        rw [if_pos e]
        exact .cons hy h2
      · show (if n = f then (n :: ns, y :: ds) else _).1.length = _
        rw [if_pos e]
        exact hl
    · obtain ⟨ys, g1, g2, g3⟩ := setF_ok (f := f) (y := y) hy h2 (by simpa using hl)
      refine ⟨x :: ys, ?_, ?_, ?_⟩
      · show (if n = f then (n, v) :: ns.zip r else (n, x) :: putF f v (ns.zip r)) = (if n = f then _ else (n :: (setF f y ns ds).1, d :: (setF f y ns ds).2)).1.zip (x :: ys)
        rw [if_neg e, if_neg e, g1]
        rfl
      · show RpL K F (if n = f then _ else (n :: (setF f y ns ds).1, d :: (setF f y ns ds).2)).2 (x :: ys)
        rw [if_neg e]
        exact .cons h1 g2
      · show (if n = f then _ else (n :: (setF f y ns ds).1, d :: (setF f y ns ds).2)).1.length = _
        rw [if_neg e]
        show (setF f y ns ds).1.length + 1 = ys.length + 1
        rw [g3]
theorem SD.s_turn {K : PySem.W.Frag} {W : Fix} {F H : Hp} {σ : L2.St} {δ : Env'} {i : Nat} {d d' : D} {a : Addr} {o : HO} (S : SD K W F H σ δ) (hi : δ[i]? = some (some (.s d))) (ha : σ[i]? = some (some (.ref a))) (ho : Own K F (upd H a o) d' a) :
    SD K W F (upd H a o) σ (δ.set i (some (.s d'))) := by
  obtain ⟨v, e1, a', rfl, hF, hP, hO⟩ := S.get i _ hi
  rw [ha] at e1
  cases e1
  have hli : i < δ.length := (List.getElem?_eq_some_iff.mp hi).1
  have aux : ∀ (j : Nat) (c : B), (δ.set i (some (.s d')))[j]? = some (some c) → (j = i ∧ c = .s d') ∨ (j ≠ i ∧ δ[j]? = some (some c)) := fun j c h => by
    by_cases e : j = i
    · subst e
      rw [List.getElem?_set_self hli] at h
      cases h
      exact .inl ⟨rfl, rfl⟩
    · rw [List.getElem?_set_ne (Ne.symm e)] at h
      exact .inr ⟨e, h⟩
  refine ⟨S.f0, fun b u h n => ?_, fun b u h => ?_, S.fr, fun b h => ?_, by rw [List.length_set]; exact S.len, fun j c h => ?_, fun j k c e v ne h1 h2 h3 h4 h5 => ?_⟩
  · rw [upd_ne (fun z => n (by rw [z, hP]))]
    exact S.h0 b u h n
  · rw [upd_ne (fun z => by rw [z, hF] at h; cases h)]
    exact S.fh b u h
  · obtain ⟨h1, ⟨u, h2⟩, h3⟩ := S.fp b h
    refine ⟨h1, ?_, h3⟩
    by_cases e : b = a
    · rw [e]
      exact ⟨o, upd_same⟩
    · exact ⟨u, by rw [upd_ne e]; exact h2⟩
  · rcases aux j c h with ⟨rfl, rfl⟩ | ⟨hj, h⟩
    · exact ⟨.ref a, ha, a, rfl, hF, hP, ho⟩
    · obtain ⟨v, h1, h2⟩ := S.get j c h
      refine ⟨v, h1, h2.keep (Same.refl F) (fun b u hv hb h3 => ?_) fun b hv hb h3 => h3⟩
      rw [upd_ne (fun z => ?_)]
      · exact h3
      · subst z
        rw [hv] at h1
        exact S.sep i j _ c _ (Ne.symm hj) hi rfl h hb ha h1
  · have g1 : ∃ c', δ[j]? = some (some c') ∧ c'.own = true := by
      rcases aux j c h1 with ⟨rfl, rfl⟩ | ⟨_, h⟩
      · exact ⟨_, hi, rfl⟩
      · exact ⟨c, h, h2⟩
    have g2 : ∃ c', δ[k]? = some (some c') ∧ c'.own = true := by
      rcases aux k e h3 with ⟨rfl, rfl⟩ | ⟨_, h⟩
      · exact ⟨_, hi, rfl⟩
      · exact ⟨e, h, h4⟩
    obtain ⟨c', g1, g1'⟩ := g1
    obtain ⟨d', g2, g2'⟩ := g2
    exact S.sep j k c' d' v ne g1 g1' g2 g2' h5
section
variable {X : Cx} {W : Fix} {x : Str} {i : Nat} {e : Expr} {te : TD} {f : Str} {px pos' pos : Pos}
def dSetF (K : PySem.W.Frag) (i : Nat) (f : Str) (te : TD) : TSD := fun Z δ => dp te δ fun y δ1 => ∃ C ns ds, δ1[i]? = some (some (.s (.ins C ns ds))) ∧ FldOk K C f ∧ ns.length < 1000 ∧ Z.nx (δ1.set i (some (.s (.ins C (setF f y ns ds).1 (setF f y ns ds).2))))
theorem ds_setF (hN : X.N[i]? = some x) (h : DE X W e te) (hv : Vis X.env.scope x := by first | exact Or.inl rfl | exact Or.inr (Or.inl rfl) | exact Or.inr (Or.inr rfl)) (hd : (x == ("__debug__" : Str)) = false := by decide) (hcd : (x == ("__classdict__" : Str)) = false := by decide)
    (hs : swapsWith e (some (.Attribute (.Name x px) f pos')) pos.line X.env = pure false := by rfl) : DS X W (.Assign [.Attribute (.Name x px) f pos'] e pos) (dSetF X.K i f te) :=
  .of (ps_fld (X := X) (pe_var (X := X) hN hv hd hcd) cE_pe hs) fun F H σ δ Z S q => by
    refine (h.plain S q).imp fun v H1 h1 => ?_
    obtain ⟨F1, y, δ1, e1, S1, r1, C, ns, ds, hi, ok, hl, q1⟩ := h1
    obtain ⟨u, hu, a, rfl, hF, hP, dx, xs, g1, g2, g3⟩ := S1.get i _ hi
    obtain ⟨ys, g4, g5, g6⟩ := setF_ok (f := f) r1 g2 g3
    refine ⟨.ref a, hu, a, C, dx, _, rfl, g1, ok.c, ok.n, by rw [List.length_zip]; omega, ?_⟩
    rw [g4]
    exact ⟨F1, _, S1.s_turn (d' := .ins C (setF f y ns ds).1 (setF f y ns ds).2) hi hu ⟨dx, ys, upd_same, g5, g6⟩, q1⟩
end
end DD

set_option Elab.async false
set_option linter.all false
set_option maxRecDepth 100000
set_option maxHeartbeats 4000000
namespace DD
open PySem PySem.Spec PyProof.Rows L2

abbrev SpdS := D → List D → (B → D → Prop) → (Addr → List D → D → Prop) → Prop
structure AftS (F H : Hp) (x : Addr) (F' H' : Hp) : Prop where
  ff : Same F F'
  fh : Same F' H'
  keep : ∀ a o, H a = some o → a ≠ x → H' a = some o
  new : ∀ a o, F' a = some o → F a = some o ∨ H a = none
def toSpS (K : PySem.W.Frag) (spd : SpdS) : Sp := fun vs H Q E => ∃ (x : Addr) (F : Hp) (d0 : D) (ds : List D) (us : List V) (R : B → D → Prop) (ED : Addr → List D → D → Prop),
  vs = .ref x :: us ∧ Same F H ∧ F x = none ∧ Own K F H d0 x ∧ RpL K F ds us ∧ spd d0 ds R ED ∧
  (∀ v H' F' b d', AftS F H x F' H' → Own K F' H' d' x → F' x = none → Res K H F' H' b v → R b d' → Q v H') ∧
  (∀ cls d H' F' C es d', AftS F H x F' H' → Own K F' H' d' x → F' x = none → ExcRep K F' C es cls d → ED C es d' → E cls d H')
theorem gs_of {P : Program} {w : World} {K : PySem.W.Frag} {mg : Str → Option Value} {base : Heap} {y qual : Str} {params : Arguments} {body : List Stmt} {scope : Scope} {dvs : List V} {kws : List (Str × V)} {f : Addr} {fd : FuncData} {N ps : List Str} {k : Nat} {spd : SpdS}
    (F : FunD K y qual params body scope dvs kws f fd) (S : FnScope N ps scope) (len : ∀ d0 ds R E, spd d0 ds R E → ds.length + 1 = ps.length)
    (hbody : ∀ (cdv : Value) (A : Around) (outer : List Env) (s : Shared) (H : Hp) (E : XK) (W : Fix) (d0 : D) (ds : List D) (R : B → D → Prop) (ED : Addr → List D → D → Prop), A.guards = some [] →
      Room k (A.deeper (envOfC qual scope s.heap.objs.size f cdv)) → TkE (cxOf (L2N.CX P w) P w K mg base N qual scope f cdv A outer s H E) W (fun C es δ => ∃ d', δ[0]? = some (some (.s d')) ∧ ED C es d') → spd d0 ds R ED → Same W.F0 W.H0 →
      ∃ t, DSs (cxOf (L2N.CX P w) P w K mg base N qual scope f cdv A outer s H E) W body t ∧
        t { nx := fun δ => ∃ d', δ[0]? = some (some (.s d')) ∧ R (.p .non) d', rt := fun b δ => b.isR = false ∧ ∃ d', δ[0]? = some (some (.s d')) ∧ R b d' } (startD N (.s d0 :: ds.map .p))) :
    GnOk P w K mg base (k + 1) f fd ps (toSpS K spd) := by
  obtain ⟨oc, od, dV, kV, doc, pm, an, cdv, ct, osl, rfl, lk, hcd, hD, hK⟩ := F.ex
  refine ⟨fun vs H Q E h => ?_, ?_⟩
  · obtain ⟨x, F0, d0, ds, us, R, ED, rfl, _, _, _, r, h, _⟩ := h
    rw [List.length_cons, r.length]
    exact len d0 ds R ED h
  intro A outer s H args us' vs Q E hg hr e0 hb r hsp
  obtain ⟨x, F0, d0, ds, us, R, ED, rfl, fh, hF, hO, ra, h, hQ, hE⟩ := hsp
  have kin : K.In s.heap := e0.mod.kin.keeps fun b o e => (e0.bs b o e).1
  refine codeAny_call_function hr.depth (kin _ _ lk) rfl S.co S.gen rfl (PySem.W.codeRec_of kin hcd) (hb _ _ _ _ ?_)
  have hk : ∀ y ∈ ps.zip us', scope.names.lookup y.1 = some .local ∨ (scope.names.lookup y.1 = some .cell ∧ ((cellsFrom (s.heap.objs.size + 1) scope.names []).lookup y.1).isSome = true) := by
    rintro ⟨n, v⟩ hy
    rcases S.par n (List.of_mem_zip hy).1 with q | q
    · exact Or.inl q
    · exact Or.inr ⟨q, PySem.W.cellsFrom_some _ _ _ (Or.inl q)⟩
  refine wpAny_newFunctionEnv_cells S.kind hk ?_
  intro env he s1 x1
  subst he
  refine ⟨(e0.mod.nolimit.keeps fun b o e => (e0.bs b o e).1).keeps x1.toInCall.keep, codeAny_func ?_⟩
  have S0 : SD K (Fix.of F0 H (some x) fun C es δ => ∃ d', δ[0]? = some (some (.s d')) ∧ ED C es d') F0 H (L2.start N (.ref x :: us)) (startD N (.s d0 :: ds.map .p)) := by
    refine .start fh (.cons (show Arg K F0 H (some x) (.s d0) (.ref x) from ⟨x, rfl, hF, rfl, hO⟩) (paired_p ra)) (fun p e => by cases e; exact ⟨hF, hO.some⟩) (pi := some 0) fun j b e hb => ?_
    cases j with
    | zero => rfl
    | succ j =>
      rw [List.getElem?_cons_succ, List.getElem?_map] at e
      cases q : ds[j]? with
      | none =>
        rw [q] at e
        cases e
      | some d =>
        rw [q] at e
        cases e
        cases hb
  have aft : ∀ {F' H' : Hp} {σ' : L2.St} {δ' : Env'} {d' : D}, SD K (Fix.of F0 H (some x) fun C es δ => ∃ d', δ[0]? = some (some (.s d')) ∧ ED C es d') F' H' σ' δ' → δ'[0]? = some (some (.s d')) → AftS F0 H x F' H' ∧ Own K F' H' d' x ∧ F' x = none := fun {F' H' σ' δ' d'} S' hi => by
    obtain ⟨v, h1, a, rfl, h2, h3, h4⟩ := S'.get 0 _ hi
    have h3 : some x = some a := h3
    cases h3
    exact ⟨⟨S'.f0, S'.fh, fun a o e n => S'.h0 a o e (fun z => n (Option.some.inj z).symm), S'.fr⟩, h4, h2⟩
  have tk : L2N.Takes (cxOf (L2N.CX P w) P w K mg base N qual scope f cdv A outer s H E) (WXd K (Fix.of F0 H (some x) fun C es δ => ∃ d', δ[0]? = some (some (.s d')) ∧ ED C es d')) := by
    refine (L2N.takes_of rfl rfl rfl rfl).imp fun cls d σ H' z => ?_
    obtain ⟨F', δ', C, es, S', er, d', hm, he⟩ := z
    obtain ⟨g1, g2, g3⟩ := aft S' hm
    exact hE cls d H' F' C es d' g1 g2 g3 er he
  obtain ⟨t, ht, q⟩ := hbody cdv A outer s H E _ d0 ds R ED hg (hr.deeper _) ⟨rfl, tk⟩ h fh
  have I := inv_start (CX := L2N.CX P w) (P := P) (w := w) (mg := mg) (base := base) (E := E) S hr.hd e0 (show (V.ref x :: us).length = ps.length by rw [List.length_cons, ra.length]; exact len d0 ds R ED h) r x1
  refine wpAny_mono (ht.run F0 H _ _ _ S0 q [] s1 I) ?_ (fun e s' hs => hs)
  intro fl s' hs
  cases fl with
  | ret u =>
    obtain ⟨v, σ', H', J, rv, q⟩ := hs
    refine ⟨v, H', J.os, J.bare, J.base, J.hok, rv, ?_⟩
    rcases q with ⟨_, σ2, F', b, δ', e', S', rb, _, hu, d', hm, r'⟩ | ⟨F', σ2, δ', dss, S', fr, hu, d', hm, r'⟩
    · obtain ⟨g1, g2, g3⟩ := aft S' hm
      refine hQ v H' F' b d' g1 g2 g3 ?_ r'
      cases b with
      | p d => exact rb
      | n ds => exact rb
      | o d => exact rb
      | u w n => cases hu
      | s d => cases hu
      | t dss => exact rb.elim
      | m dss => cases hu
    · obtain ⟨g1, g2, g3⟩ := aft S' hm
      exact hQ v H' F' (.t dss) d' g1 g2 g3 fr r'
  | next =>
    obtain ⟨σ', H', J, q⟩ := hs
    refine ⟨V.non, H', J.os, J.bare, J.base, J.hok, rfl, ?_⟩
    obtain ⟨F', δ', S', d', hm, r'⟩ := q
    obtain ⟨g1, g2, g3⟩ := aft S' hm
    exact hQ .non H' F' (.p .non) d' g1 g2 g3 (by unfold Res Rp; rfl) r'
  | brk =>
    obtain ⟨_, _, _, q⟩ := hs
    obtain ⟨_, _, _, q⟩ := q
    exact q.elim
  | cont =>
    obtain ⟨_, _, _, q⟩ := hs
    obtain ⟨_, _, _, q⟩ := q
    exact q.elim
end DD

set_option Elab.async false
set_option linter.all false
set_option maxRecDepth 100000
set_option maxHeartbeats 4000000
namespace DD
open PySem PySem.Spec PyProof.Rows L2

theorem SD.afterX {K : PySem.W.Frag} {W : Fix} {F H F' H' : Hp} {σ : L2.St} {δ : Env'} {x : Addr} (S : SD K W F H σ δ) (h0 : W.H0 x = none) (hP : W.P ≠ some x)
    (hn : ∀ (j : Nat) (c : B), δ[j]? = some (some c) → c.own = true → σ[j]? ≠ some (some (.ref x))) (a : AftS F H x F' H') : SD K W F' H' σ δ where
  f0 := S.f0.trans a.ff
  h0 := fun b o h n => a.keep b o (S.h0 b o h n) fun z => by rw [z, h0] at h; cases h
  fh := a.fh
  fr := fun b o h => by
    rcases a.new b o h with h1 | h1
    · exact S.fr b o h1
    · exact .inr (S.fresh0 h1)
  fp := fun b h => by
    obtain ⟨h1, ⟨o, h2⟩, h3⟩ := S.fp b h
    refine ⟨?_, ⟨o, a.keep b o h2 fun z => hP (by rw [h, z])⟩, h3⟩
    cases q : F' b with
    | none => rfl
    | some u =>
      rcases a.new b u q with h4 | h4
      · rw [h1] at h4
        cases h4
      · rw [h2] at h4
        cases h4
  len := S.len
  get := fun i b h => by
    obtain ⟨v, h1, h2⟩ := S.get i b h
    refine ⟨v, h1, h2.keep a.ff (fun c o hv hb h3 => a.keep c o h3 fun z => ?_) fun c hv hb h3 => ?_⟩
    · rw [z] at hv
      rw [hv] at h1
      exact hn i b h hb h1
    · obtain ⟨c', o, e1, h4, _⟩ := h2.there hb
      rw [hv] at e1
      cases e1
      cases q : F' c with
      | none => rfl
      | some u =>
        rcases a.new c u q with h5 | h5
        · rw [h3] at h5
          cases h5
        · rw [h4] at h5
          cases h5
  sep := S.sep
theorem free_slots {K : PySem.W.Frag} {W : Fix} {F H : Hp} {σ : L2.St} {δ : Env'} {x : Addr} (S : SD K W F H σ δ) (hx : H x = none) : ∀ (j : Nat) (c : B), δ[j]? = some (some c) → c.own = true → σ[j]? ≠ some (some (.ref x)) := fun j c h1 h2 h3 => by
  obtain ⟨u, h4, h5⟩ := S.get j c h1
  rw [h3] at h4
  cases h4
  obtain ⟨a', o, e, h6, _⟩ := h5.there h2
  cases e
  rw [hx] at h6
  cases h6
theorem make_guards {A : Around} {C : Addr} {us : List Value} {kw : List (Str × Value)} : (A.under (.builtin "type.__call__" ⟨.ref C :: us, kw⟩)).guards = A.guards := by
  first | rfl | simp [Around.under, Code.weight, Code.isCreation, Code.isGuard, Code.isCaller, Code.frames, Code.isFrame, guardIds]

section
variable {X : Cx} {k : Nat} {f C : Addr} {fd : FuncData} {ps ks : List Str} {sp : Sp} {E : XK} {x : Str} {p pos : Pos} {e : Expr} {es : List Expr} {kws : List Keyword} {t tk : TA} {g : List Value → List Value → List Value} {gV : List V → List V → List V} {dvs : List V} {dfs : List Value}
theorem run_makeG {pins : List (Addr × Obj)} {σ : L2.St} {H : Hp} {s : Shared} {Q : VK} {us ws : List Value} {binds : List Value} {vs : List V} (gu : X.A.guards = some []) (M : Mk X.K C f) (G : GnOk X.prog X.w X.K X.mg X.base k f fd ps sp) (hr : Room (k + 1) X.A)
    (hb : ∀ (s : Shared) (y : Value), X.K.In s.heap → BindsTo s fd ⟨y :: us, ks.zip ws⟩ (ps.zip (y :: binds))) (hx : PassesAt (L2N.CX X.prog X.w) X σ E)
    (I : Inv X pins σ H s) (r : Vals vs binds)
    (h : ∀ x dx, H x = none → H dx = none → dx ≠ x → sp (.ref x :: vs) (upd (upd H dx (.own x)) x (.ins C dx [])) (fun v H2 => v = .non ∧ Q (.ref x) H2) E) :
    wpAny (model X.prog X.w) X.A (call (.ref C) us (ks.zip ws)) (EP X pins σ Q) X.xe s := by
  have hq := h (s.heap.objs.size + 1) s.heap.objs.size (I.hok.fresh (Nat.le_succ _)) (I.hok.fresh (Nat.le_refl _)) (Nat.ne_of_lt (Nat.lt_succ_self _))
  have I2 := Inv.made (C := C) I
  have r1 : Vals (V.ref (s.heap.objs.size + 1) :: vs) (Value.ref (s.heap.objs.size + 1) :: binds) := .cons rfl r
  refine wpAny_call (make_map (f := f) I.kIn M.makes M.init (beq_iff_eq.mp M.fn) (codeAny_mono (G.run _ X.stack _ _ ⟨Value.ref (s.heap.objs.size + 1) :: us, ks.zip ws⟩ (Value.ref (s.heap.objs.size + 1) :: binds) _ _ E (by rw [make_guards]; exact gu) (hr.make C us (ks.zip ws))
    (I2.env0.make C us (ks.zip ws)) (hb _ _ I2.kIn) r1 hq) fun r s' hq' => ?_))
  cases r with
  | error e => exact hx pins _ _ e s' I2 hq'
  | ok fl =>
    cases fl with
    | ret u =>
      obtain ⟨v, H', I3, rv, ev, q3⟩ := I2.after hq'
      subst ev
      exact ⟨rv, ⟨V.ref (s.heap.objs.size + 1), H', I3, rfl, q3⟩⟩
    | next => exact False.elim hq'
    | brk => exact False.elim hq'
    | cont => exact False.elim hq'
def tMakeG (C : Addr) (sp : Sp) (dvs : List V) (Es : L2.St → XK) (t : TA) : TE := fun σ H Q => t σ H fun vs H1 => ∀ x dx, H1 x = none → H1 dx = none → dx ≠ x →
  sp (.ref x :: (vs ++ dvs)) (upd (upd H1 dx (.own x)) x (.ins C dx [])) (fun v H2 => v = .non ∧ Q (.ref x) H2) (Es σ)
theorem pe_makeG {Es : L2.St → XK} (gu : X.A.guards = some []) (M : Mk X.K C f) (G : GnOk X.prog X.w X.K X.mg X.base k f fd ps sp) (hr : Room (k + 1) X.A) (hg : Gl X x) (hm : X.mg x = some (.ref C)) (hb : Binds X.K fd ps dfs) (hd : Vals dvs dfs) (hx : ∀ σ, PassesAt (L2N.CX X.prog X.w) X σ (Es σ))
    (ha : PA X (e :: es) t) (hdb : (x == ("__debug__" : Str)) = false := by decide) (he : starEach (e :: es) X.env = (false, eval e X.env) :: starEach es X.env := by rfl) (hpl : (backTo pos (starEach es X.env)).any (·.1) = false := by rfl) :
    PE X (.Call (.Name x p) (e :: es) [] pos) (tMakeG C sp dvs Es t) := by
  refine ⟨fun pins s σ H Q I h => ?_⟩
  refine wpAny_Call_Name_kw (ld_glob I hg hm ?_ hdb)
  refine PySem.W.callWith_K (h₀ := X.base) I.ok.mod.kin M.kp (thn (ha.run pos pins s σ H _ I h) fun us s1 ⟨vs, H1, I1, r, q⟩ => ⟨I1.kIn, ?_⟩) he hpl
  have hq := q (s1.heap.objs.size + 1) s1.heap.objs.size (I1.hok.fresh (Nat.le_succ _)) (I1.hok.fresh (Nat.le_refl _)) (Nat.ne_of_lt (Nat.lt_succ_self _))
  have r2 : Vals (vs ++ dvs) (us ++ dfs) := r.append hd
  have hl : ∀ y : Value, ((y :: us) ++ dfs).length = ps.length := fun y => by
    have := G.len _ _ _ _ hq
    rw [List.length_cons, r2.length] at this
    exact this
  exact run_makeG (us := us) (ws := []) (ks := []) (binds := us ++ dfs) gu M G hr (fun s y kin => hb s (y :: us) kin (hl y)) (hx σ) I1 r2 q
end
structure MakC (P : Program) (w : World) (K : PySem.W.Frag) (mg : Str → Option Value) (base : Heap) (x : Str) (C : Addr) (k : Nat) (ps : List Str) (dds : List D) (spd : SpdS) : Prop where
  ex : ∃ f fd dfs dvs, GnOk P w K mg base k f fd ps (toSpS K spd) ∧ Mk K C f ∧ mg x = some (.ref C) ∧ Binds K fd ps dfs ∧ Vals dvs dfs ∧ ∀ F, RpL K F dds dvs
section
variable {X : Cx} {W : Fix} {E0 : Addr → List D → Env' → Prop} {k k' n : Nat} {C : Addr} {ps ks : List Str} {dds : List D} {spd : SpdS} {x : Str} {p pos : Pos} {e : Expr} {es : List Expr} {kws : List Keyword} {t tk : TDA} {gD : List D → List D → List D}
def dMake (C : Addr) (spd : SpdS) (dds : List D) (Ew : Addr → List D → Env' → Prop) (t : TDA) : TD := fun δ Q => t δ fun ds δ1 => spd (.ins C [] []) (ds ++ dds) (fun b d => b = .p .non ∧ Q (.o d) δ1) fun C' es _ => Ew C' es δ1
theorem make_fin {K : PySem.W.Frag} {P : Program} {F1 H1 : Hp} {σ : L2.St} {δ1 : Env'} {ds : List D} {vs : List V} {Q : B → Env' → Prop} {Ew : Addr → List D → Env' → Prop} {Z : VK} {Ex : XK} (S1 : SD K W F1 H1 σ δ1) (r : RpL K F1 ds vs)
    (h : spd (.ins C [] []) ds (fun b d => b = .p .non ∧ Q (.o d) δ1) fun C' es _ => Ew C' es δ1)
    (hZ : ∀ v H', DQ K W F1 σ Q v H' → Z v H') (hE : ∀ cls d H', (∃ (F' : Hp) (C' : Addr) (es : List D), Same F1 F' ∧ SD K W F' H' σ δ1 ∧ ExcRep K F' C' es cls d ∧ Ew C' es δ1) → Ex cls d H') :
    ∀ x dx, H1 x = none → H1 dx = none → dx ≠ x → toSpS K spd (.ref x :: vs) (upd (upd H1 dx (.own x)) x (.ins C dx [])) (fun v H2 => v = .non ∧ Z (.ref x) H2) Ex := by
  intro x dx hx hdx ne
  have hx2 : (upd H1 dx (HO.own x)) x = none := by rw [upd_ne (Ne.symm ne)]; exact hx
  have S2 : SD K W F1 (upd (upd H1 dx (.own x)) x (.ins C dx [])) σ δ1 := (S1.newO hdx).newO hx2
  have hP : W.P ≠ some x := fun z => by
    obtain ⟨_, ⟨o, z2⟩, _⟩ := S1.fp x z
    rw [hx] at z2
    cases z2
  have hn := free_slots S1 hx
  refine ⟨x, F1, .ins C [] [], ds, vs, _, _, rfl, S2.fh, S1.freshF hx, ⟨dx, [], upd_same, .nil, rfl⟩, r, h, fun v H' F' b d' a ow hF r z => ?_, fun cls d H' F' C' es d' a ow hF er z => ?_⟩
  · obtain ⟨rfl, q⟩ := z
    have S3 := S2.afterX (S1.fresh0 hx) hP hn a
    have rv : v = .non := by
      have r : Rp K F' .non v := r
      unfold Rp at r
      exact r
    exact ⟨rv, hZ _ _ ⟨F', .o d', δ1, a.ff, S3, ⟨x, rfl, hF, S1.fresh0 hx, ow⟩, fun _ => hn, q⟩⟩
  · have S3 := S2.afterX (S1.fresh0 hx) hP hn a
    exact hE cls d H' ⟨F', C', es, a.ff, S3, er, z⟩
theorem de_make (c : MakC X.prog X.w X.K X.mg X.base x C k ps dds spd) (gu : X.A.guards = some []) (hr : Room k' X.A) (h : DA X W (e :: es) t) (hg : Gl X x := by exact rfl) (hk : k + 1 ≤ k' := by decide) (hdb : (x == ("__debug__" : Str)) = false := by decide)
    (he : starEach (e :: es) X.env = (false, eval e X.env) :: starEach es X.env := by rfl) (hpl : (backTo pos (starEach es X.env)).any (·.1) = false := by rfl) : DE X W (.Call (.Name x p) (e :: es) [] pos) (dMake C spd dds (fun _ _ _ => False) t) := by
  obtain ⟨f, fd, dfs, dvs, G, M, hm, b, hd, hdd⟩ := c.ex
  refine .of (pe_makeG (X := X) (Es := fun _ _ _ _ => False) gu M G (hr.mono hk) hg hm b hd (fun σ => pass_none) cA_pa hdb he hpl) fun F H σ δ Q S q => ?_
  refine (h.run F H σ δ _ S q).imp fun vs H1 h1 => ?_
  obtain ⟨F1, ds, δ1, e1, S1, r1, q1⟩ := h1
  exact make_fin (P := X.prog) (Ew := fun _ _ _ => False) S1 (r1.append (hdd F1)) q1 (fun v H' z => z.back e1) fun cls d H' z => by
    obtain ⟨_, _, _, _, _, _, z⟩ := z
    exact z
def dMakeK (C : Addr) (spd : SpdS) (n m : Nat) (gD : List D → List D → List D) (Ew : Addr → List D → Env' → Prop) (t tk : TDA) : TD := fun δ Q => t δ fun ds δ1 => tk δ1 fun es δ2 => ds.length = n ∧ es.length = m ∧ spd (.ins C [] []) (gD ds es) (fun b d => b = .p .non ∧ Q (.o d) δ2) fun C' es _ => Ew C' es δ2
end

theorem in1_guards {A : Around} : A.in1.guards = A.guards := by
  first | rfl | simp [Around.in1]
section
variable {X : Cx} {W : Fix} {k k' : Nat} {C : Addr} {f : Str} {spd : Spd} {e : Expr} {te : TD} {pos : Pos}
def dProp (C : Addr) (spd : Spd) (te : TD) : TD := fun δ Q => dp te δ fun d δ1 => (∃ ns ds, d = .ins C ns ds) ∧ spd [.p d] (fun b _ => b.isU = false ∧ Q b δ1) fun _ _ _ => False
end

structure MethC (P : Program) (w : World) (K : PySem.W.Frag) (mg : Str → Option Value) (base : Heap) (C : Addr) (m : Str) (k : Nat) (ps : List Str) (spd : Spd) : Prop where
  ex : ∃ f fd, Cls K C ∧ Meth K C m f ∧ GnOk P w K mg base k f fd ps (toSp K spd) ∧ Binds K fd ps []
section
variable {X : Cx} {k : Nat} {C f : Addr} {m : Str} {fd : FuncData} {ps : List Str} {sp : Sp} {e o : Expr} {es : List Expr} {apos pos : Pos} {ta : TE} {t : TA} {Es : L2.St → XK}
def tMethG (C : Addr) (m : Str) (sp : Sp) (Es : L2.St → XK) (ta : TE) (t : TA) : TE := fun σ H Q => ta σ H fun x H1 => ∃ a dx fs, x = .ref a ∧ H1 a = some (.ins C dx fs) ∧ fs.lookup m = none ∧ t σ H1 fun vs H2 => sp (x :: vs) H2 Q (Es σ)
theorem pe_methG {pl : Sem Bool} (gu : X.A.guards = some []) (he : PE X o ta) (c : Cls X.K C) (hm : Meth X.K C m f) (G : GnOk X.prog X.w X.K X.mg X.base k f fd ps sp) (hr : Room k X.A) (hb : Binds X.K fd ps []) (hx : ∀ σ, PassesAt (L2N.CX X.prog X.w) X σ (Es σ)) (ha : PA X (e :: es) t)
    (hst : starEach (e :: es) X.env = (false, eval e X.env) :: starEach es X.env) (hpl : (backTo pos (starEach es X.env)).any (·.1) = false)
    (ht : eval (.Call (.Attribute o m apos) (e :: es) [] pos) X.env = (do
      let ov ← eval o X.env
      standAt apos.atName
      let (f, first) ← holding [ov] (getMethod ov m pl)
      callWith pos f first (backTo pos (starEach (e :: es) X.env)) (backToKw pos (keywordEach [] X.env)))) :
    PE X (.Call (.Attribute o m apos) (e :: es) [] pos) (tMethG C m sp Es ta t) := by
  refine ⟨fun pins s σ H Q I h => ?_⟩
  refine PySem.W.methodCall_KW (pl := pl) (thn (he.run pins s σ H _ I h) fun u s1 ⟨x, H1, I1, rx, a, dx, fs, ex, ea, l, q⟩ => ?_) ht
  subst ex
  obtain rfl : u = Value.ref a := rx
  refine getmeth_ok I1 ea c hm l ?_
  refine PySem.W.callWith_K (first := [.ref a]) (h₀ := X.base) I.ok.mod.kin hm.kp (thn (ha.run pos pins s1 σ H1 _ I1 q) fun us s2 ⟨vs, H2, I2, r, q2⟩ => ⟨I2.kIn, ?_⟩) hst hpl
  exact run_g (dvs := []) (dfs := []) (us := .ref a :: us) (vs := .ref a :: vs) G gu hr hb .nil (fun e s' c => hx σ pins H2 s2 e s' I2 c) I2 (.cons rfl r) (by rw [List.append_nil]; exact q2)
end
end DD

set_option Elab.async false
set_option linter.all false
set_option maxRecDepth 100000
set_option maxHeartbeats 4000000
namespace DD
open PySem PySem.Spec PyProof.Rows L2

section
variable {X : Cx} {W : Fix} {E0 : Addr → List D → Env' → Prop} {k k' : Nat} {C : Addr} {m : Str} {ps : List Str} {spd : Spd} {o e : Expr} {es : List Expr} {te : TD} {t : TDA} {apos pos : Pos}
def dMeth (C : Addr) (m : Str) (spd : Spd) (Ew : Addr → List D → Env' → Prop) (te : TD) (t : TDA) : TD := fun δ Q => dp te δ fun d δ1 => (∃ ns ds, d = .ins C ns ds ∧ m ∉ ns) ∧ t δ1 fun es δ2 => spd ((d :: es).map .p) (fun b _ => b.isU = false ∧ Q b δ2) fun C' es' _ => Ew C' es' δ2
theorem no_field {m : Str} : ∀ {ns : List Str} {xs : List V}, m ∉ ns → (ns.zip xs).lookup m = none
  | [], _, _ => rfl
  | n :: ns, [], _ => rfl
  | n :: ns, x :: xs, h => by
    have h1 : ¬ m = n := fun z => h (by rw [z]; exact List.mem_cons_self)
    have hb : (m == n) = false := beq_eq_false_iff_ne.mpr h1
    rw [List.zip_cons_cons, List.lookup_cons, hb]
    exact no_field fun z => h (List.mem_cons_of_mem _ z)
theorem de_meth {pl : Sem Bool} (c : MethC X.prog X.w X.K X.mg X.base C m k ps spd) (gu : X.A.guards = some []) (hr : Room k' X.A) (ho : DE X W o te) (h : DA X W (e :: es) t) (hk : k ≤ k' := by decide)
    (hst : starEach (e :: es) X.env = (false, eval e X.env) :: starEach es X.env := by rfl) (hpl : (backTo pos (starEach es X.env)).any (·.1) = false := by rfl)
    (ht : eval (.Call (.Attribute o m apos) (e :: es) [] pos) X.env = (do
      let ov ← eval o X.env
      standAt apos.atName
      let (f, first) ← holding [ov] (getMethod ov m pl)
      callWith pos f first (backTo pos (starEach (e :: es) X.env)) (backToKw pos (keywordEach [] X.env))) := by rfl) : DE X W (.Call (.Attribute o m apos) (e :: es) [] pos) (dMeth C m spd (fun _ _ _ => False) te t) := by
  obtain ⟨f, fd, cl, hm, G, b⟩ := c.ex
  refine .of (pe_methG (X := X) (Es := fun _ _ _ _ => False) gu cE_pe cl hm G (hr.mono hk) b (fun σ => pass_none) cA_pa hst hpl ht) fun F H σ δ Q S q => ?_
  refine (ho.plain S q).imp fun v H1 h1 => ?_
  obtain ⟨F1, d, δ1, e1, S1, r1, ⟨ns, ds, rfl, nf⟩, q1⟩ := h1
  have r0 := r1
  unfold Rp at r1
  obtain ⟨a, dx, xs, rfl, g1, g2, _⟩ := r1
  refine ⟨a, dx, _, rfl, S1.fh _ _ g1, no_field nf, ?_⟩
  refine (h.run F1 H1 σ δ1 _ S1 q1).imp fun vs H2 h2 => ?_
  obtain ⟨F2, es', δ2, e2, S2, r2, q2⟩ := h2
  refine ⟨F2, none, _, _, _, S2.fh, paired_p (.cons (Rp.mono e2 _ _ r0) r2), (fun p e => by cases e), q2, fun v H' F' b m a r z => ?_, fun cls d H' F' C ds m a er z => z.elim⟩
  obtain ⟨r3, r4⟩ := RB.of_res S2 z.1 r
  exact ⟨F', b, δ2, (e1.trans e2).trans a.ff, S2.after a, r3, r4, z.2⟩
end

structure InsOk (K : PySem.W.Frag) (C : Addr) : Prop where
  c : Cls K C
  ha : PySem.W.findIn K (.ref C) "__class__" = some (some (.builtin "object.__class__"))
  hn : PySem.W.specialIn K (.builtin "object.__class__") "__get__" = some (some (.builtin "getset_descriptor.__get__"))
  htk : PySem.W.takesIn K (.builtin "object.__class__") = some true
  hm : PySem.W.mroIn K C (.type "object") = some true
def isaD (K : PySem.W.Frag) : D → D → Option Bool
  | .exc C _, c => (clsD c).bind fun u => PySem.W.kitOne K (.ref C) u
  | .ins C _ _, c => (clsD c).bind fun u => PySem.W.kitOne K (.ref C) u
  | d, c => (tyD d).bind fun t => (clsD c).bind fun u => PySem.W.kitOne K (.type t) u
def OkI (K : PySem.W.Frag) : D → Prop
  | .exc C ds => XfE K C ∧ ds.length = 1
  | .ins C _ _ => InsOk K C
  | _ => True
def isaG (K : PySem.W.Frag) : List D → (B → Prop) → Prop := fun ds Q => ∃ d c b, ds = [d, c] ∧ isaD K d c = some b ∧ OkI K d ∧ Q (.p (.bl b))
theorem rc_isa {K : PySem.W.Frag} : RC K (rIsZ K) (isaG K) := by
  intro W F H σ δ xs ds Q Z S r g hZ
  obtain ⟨d, c, b, rfl, he, ok, q⟩ := g
  have base : ∀ t u, tyD d = some t → clsD c = some u → PySem.W.kitOne K (.type t) u = some b → rIsZ K xs H Z := fun t u h1 h2 h3 =>
    rc_isZ W F H σ δ xs [d, c] Q Z S r (.inl ⟨d, c, t, u, b, rfl, h1, h2, h3, q⟩) hZ
  have gen : (tyD d).bind (fun t => (clsD c).bind fun u => PySem.W.kitOne K (.type t) u) = some b → rIsZ K xs H Z := fun he => by
    cases h1 : tyD d with
    | none =>
      rw [h1] at he
      cases he
    | some t =>
      rw [h1] at he
      cases h2 : clsD c with
      | none =>
        rw [h2] at he
        cases he
      | some u =>
        rw [h2] at he
        exact base t u h1 h2 he
  cases d <;> first | exact gen he | skip
  · rename_i C ns fs
    obtain ⟨x, y, rfl, rx, ry⟩ := rpL2 r
    have he : (clsD c).bind (fun u => PySem.W.kitOne K (.ref C) u) = some b := he
    cases h2 : clsD c with
    | none =>
      rw [h2] at he
      cases he
    | some u =>
      rw [h2] at he
      have ok : InsOk K C := ok
      have rx' := rx
      unfold Rp at rx
      obtain ⟨a, dx, zs, rfl, g1, _⟩ := rx
      have cu : ClsV y u := by
        cases c <;> first | (cases h2; done) | skip
        all_goals
          cases h2
          unfold Rp at ry
          rw [ry]
          constructor
      exact ⟨_, y, _, u, b, rfl, cu, .base (.base (.ins (S.fh _ _ g1) ok.c ok.ha ok.hn ok.htk ok.hm)), he, hZ _ _ (mkP S (by unfold Rp; rfl) q)⟩
  · rename_i C es
    obtain ⟨ox, ol⟩ := ok
    match es, ol with
    | [y], _ =>
      have he : (clsD c).bind (fun u => PySem.W.kitOne K (.ref C) u) = some b := he
      cases h2 : clsD c with
      | none =>
        rw [h2] at he
        cases he
      | some u =>
        rw [h2] at he
        exact rc_isZ W F H σ δ xs _ Q Z S r (.inr ⟨C, y, c, u, b, rfl, ox, h2, he, q⟩) hZ
end DD

set_option Elab.async false
set_option linter.all false
set_option maxRecDepth 100000
set_option maxHeartbeats 4000000
namespace DD
open PySem PySem.Spec PyProof.Rows L2

theorem cmp_own {prog : Program} {w : World} {A : Around} {E : Value → Shared → Prop} {s : Shared} {K : PySem.W.Frag} {x C f : Addr} {ox : Obj} {od : Option Obj} {b tb : Value} {op : CmpOp} {Q : Value → Shared → Prop} (hu : A.units < cLine) (X : K.In s.heap) (I : PySem.W.InstAt s.heap x ox C od)
    (hb : PySem.W.Looks (model prog w) s.heap (typeOf b) tb) (hn : PySem.W.notFirst K C tb = true)
    (hs : PySem.W.findIn K (.ref C) (cmpInfo op).2.1 = some (some (.ref f))) (hf : PySem.W.isFn K (.ref f) = true)
    (h : wpAny (model prog w) A (call (.ref f) [.ref x, b]) (PySem.W.CmpBack Q) E s) : wpAny (model prog w) A (richCompare op (.ref x) b) Q E s := by
  have one : wpAny (model prog w) A (tryCompare (.ref x) (cmpInfo op).2.1 b) (fun r s' => ∃ v, r = some v ∧ Q v s') E s := by
    unfold tryCompare
    refine wpAny_bind (PySem.W.ifBound_K X I hs hf (wpAny_mono h (fun v s' hv => ?_) fun _ _ e => e))
    cases v <;> first | exact hv.elim | exact wpAny_pure ⟨_, rfl, hv⟩
  unfold richCompare
  simp only [PySem.oneThing_ref]
  refine wpAny_holding (wpAny_bind (wpAny_cRoomFor hu ?_))
  refine wpAny_bind (I.type.here (wpAny_bind (hb.here ?_)))
  split
  · rename_i q
    have e : PySem.W.subIn K tb (.ref C) = some false := by
      rcases Bool.or_eq_true_iff.mp hn with e | e
      · rw [beq_iff_eq.mp e] at q
        simp at q
      · exact beq_iff_eq.mp e
    refine wpAny_bind ((PySem.W.looks_subIn X e).here ?_)
    simp only [Bool.false_eq_true, if_false]
    refine wpAny_bind (wpAny_mono one (fun r s' z => ?_) fun _ _ e => e)
    obtain ⟨v, rfl, hq⟩ := z
    exact wpAny_pure hq
  · refine wpAny_bind (wpAny_pure ?_)
    simp only [Bool.false_eq_true, if_false]
    refine wpAny_bind (wpAny_mono one (fun r s' z => ?_) fun _ _ e => e)
    obtain ⟨v, rfl, hq⟩ := z
    exact wpAny_pure hq

structure CmpC (P : Program) (w : World) (K : PySem.W.Frag) (mg : Str → Option Value) (base : Heap) (C : Addr) (m : Str) (k : Nat) (spd : Spd) : Prop where
  ex : ∃ f fd, PySem.W.findIn K (.ref C) m = some (some (.ref f)) ∧ PySem.W.isFn K (.ref f) = true ∧ GnOk P w K mg base k f fd ["self", "other"] (toSp K spd) ∧ Binds K fd ["self", "other"] []
  cl : Cls K C
inductive TyF (K : PySem.W.Frag) (C : Addr) : D → Prop where
  | dat {d : D} {t : String} (h : tyD d = some t) (n : PySem.W.notFirst K C (.type t) = true) : TyF K C d
  | ins {C' : Addr} {ns : List Str} {ds : List D} (h : InsOk K C') (n : PySem.W.notFirst K C (.ref C') = true) : TyF K C (.ins C' ns ds)
theorem TyF.ty {K : PySem.W.Frag} {C : Addr} {d : D} {F H : Hp} {v : V} (h : TyF K C d) (e : Same F H) (r : Rp K F d v) : ∃ t, TyX K H v t ∧ PySem.W.notFirst K C t = true := by
  cases h with
  | dat h n => exact ⟨_, rp_tyX e r h, n⟩
  | ins h n =>
    unfold Rp at r
    obtain ⟨a, dx, zs, rfl, g1, _⟩ := r
    exact ⟨_, .base (.ins (e _ _ g1) h.c h.ha h.hn h.htk h.hm), n⟩
section
variable {X : Cx} {W : Fix} {k k' : Nat} {C : Addr} {op : CmpOp} {m : Str} {spd : Spd} {a b : Expr} {ta tb : TD} {pos : Pos}
def cmpIG (K : PySem.W.Frag) (C : Addr) (spd : Spd) : D → D → (B → Prop) → Prop := fun x y Q => (∃ ns ds, x = .ins C ns ds) ∧ TyF K C y ∧ spd [.p x, .p y] (fun b _ => ∃ k, b = .p (.bl k) ∧ Q b) fun _ _ _ => False
end

structure NeC (K : PySem.W.Frag) (C : Addr) : Prop where
  ex : ∃ (f N : Addr) (nm q : Str) (bs : List Value) (sn : List Str) (sub : List Value) (ab : Bool) (col : Option Bool) (dd : Option Addr) (k0 k1 k2 k3 k5 : Option Value) (newId : String),
    K.lookup C = some (excClassObj nm q C N bs [.type "object"] true sn sub ab col dd k0 k1 k2 k3 k5 newId) ∧ PySem.W.nsOkIn K N = true ∧ PySem.W.nsIn K N "__eq__" = some (some (.ref f)) ∧ PySem.W.nsIn K N "__ne__" = some none ∧ PySem.W.findIn K (.ref C) "__eq__" = some (some (.ref f)) ∧
    ∃ o, K.lookup f = some o ∧ o.cls = .type "function"
section
variable {X : Cx} {W : Fix} {k k' : Nat} {C : Addr} {spd : Spd} {a b : Expr} {ta tb : TD} {pos : Pos}
def neIG (C : Addr) (spd : Spd) : D → D → (B → Prop) → Prop := fun x y Q => (∃ ns ds, x = .ins C ns ds) ∧ (∃ ns ds, y = .ins C ns ds) ∧ spd [.p x, .p y] (fun b _ => ∃ k, b = .p (.bl k) ∧ Q (.p (.bl (!k)))) fun _ _ _ => False
end
end DD

set_option Elab.async false
set_option linter.all false
set_option maxRecDepth 100000
set_option maxHeartbeats 4000000
namespace DD
open PySem PySem.Spec PyProof.Rows L2
section
variable {X : Cx} {W : Fix} {a b c : Expr} {ta tb tc : TD} {op op' : CmpOp} {r r' : R2} {g g' : D → D → (B → Prop) → Prop} {pos : Pos}
def dChain (g g' : D → D → (B → Prop) → Prop) (ta tb tc : TD) : TD := fun δ Q => dp ta δ fun x δ1 => dp tb δ1 fun y δ2 => g x y fun z => ∃ k, z = .p (.bl k) ∧ if k = true then dp tc δ2 fun w δ3 => g' y w fun z' => Q z' δ3 else Q (.p (.bl false)) δ2
theorem chain_run (ha : DE X W a ta) (hb : DE X W b tb) (hc : DE X W c tc) (hr : RD X.K r g) (hr' : RD X.K r' g') {F H : Hp} {σ : L2.St} {δ : Env'} {Q : B → Env' → Prop} (S : SD X.K W F H σ δ) (q : dChain g g' ta tb tc δ Q) {Z : VK} (hZ : ∀ v H', DQ X.K W F σ Q v H' → Z v H') : tChain r r' (cE X a) (cE X b) (cE X c) σ H Z := by
  refine (ha.plain S q).imp fun x H1 h1 => ?_
  obtain ⟨F1, dx, δ1, e1, S1, r1, q1⟩ := h1
  refine (hb.plain S1 q1).imp fun y H2 h2 => ?_
  obtain ⟨F2, dy, δ2, e2, S2, r2, q2⟩ := h2
  refine hr W F2 H2 σ δ2 x y dx dy _ _ S2 (Rp.mono e2 _ _ r1) r2 q2 fun v H3 h3 => ?_
  obtain ⟨F3, z, δ3, e3, S3, r3, _, rfl, k, rfl, q3⟩ := h3
  refine ⟨k, rpBl (K := X.K) (F := F3) r3, ?_⟩
  cases k with
  | true =>
    rw [if_pos rfl] at q3 ⊢
    refine (hc.plain S3 q3).imp fun w H4 h4 => ?_
    obtain ⟨F4, dw, δ4, e4, S4, r4, q4⟩ := h4
    exact hr' W F4 H4 σ δ4 y w dy dw _ _ S4 (Rp.mono (e3.trans e4) _ _ r2) r4 q4 fun v H' h => hZ _ _ (h.fix (((e1.trans e2).trans e3).trans e4))
  | false =>
    rw [if_neg Bool.false_ne_true] at q3 ⊢
    exact hZ _ _ ((DQ.mk (Q := Q) S3 (by unfold Rp; rfl) q3).back ((e1.trans e2).trans e3))
theorem de_chain (ho : OpR X (compareOp op) r) (hr : RD X.K r g) (ho' : OpR X (compareOp op') r') (hr' : RD X.K r' g') (ha : DE X W a ta) (hb : DE X W b tb) (hc : DE X W c tc) (hm : lastMarks [op, op'] [b, c] = false := by with_unfolding_all rfl) : DE X W (.Compare a [op, op'] [b, c] pos) (dChain g g' ta tb tc) :=
  .of (pe_chain (X := X) ho ho' cE_pe cE_pe cE_pe hm) fun F H σ δ Q S q => chain_run ha hb hc hr hr' S q fun _ _ h => h
end

def memS (st : Stmt) (j : Nat) : Stmt := match st with
  | .ClassDef _ _ _ b _ _ _ _ _ _ _ => b.getD j (.Pass ⟨0, 0, 0, 0⟩)
  | s => s
structure MethAt (K : PySem.W.Frag) (C : Addr) (f qual : Str) (st : Stmt) : Prop where
  c : Cls K C
  ex : ∃ g fd, Meth K C f g ∧ Fun K f qual st g fd
structure InitAt (K : PySem.W.Frag) (mg : Str → Option Value) (x : Str) (C : Addr) (qual : Str) (st : Stmt) (dvs : List V) (kws : List (Str × V)) : Prop where
  ex : ∃ f fd, Mk K C f ∧ mg x = some (.ref C) ∧ FunD K "__init__" qual (defArgs st) (defBody st) (defScope st) dvs kws f fd
section
variable {P : Program} {w : World} {K : PySem.W.Frag} {mg : Str → Option Value} {base : Heap}
theorem meth_mk {C : Addr} {x qual : Str} {st : Stmt} {N ps : List Str} {k : Nat} {spd : Spd} (Da : MethAt K C x qual st) (S : FnScope N ps (defScope st))
    (hbd : ∀ (kV doc pm : Value) (an : Option Addr) (cdv ct : Value) (us : List Value), us.length = ps.length → bindArgs (PySem.W.fnOf x qual (defArgs st) (defBody st) (defScope st) .none kV doc pm an cdv ct) ⟨us, []⟩ = pure (ps.zip us))
    (len : ∀ bs R E, spd bs R E → bs.length = ps.length) (hpk : ∀ bs R E, spd bs R E → PurK none bs ∧ ((none : Option Nat) = none → ∀ b ∈ bs, b.own = false))
    (hbody : ∀ (f : Addr) (cdv : Value) (A : Around) (outer : List Env) (s : Shared) (H : Hp) (E : XK) (W : Fix) (bs : List B) (R : B → Nat → Prop) (ED : Addr → List DD.D → Nat → Prop), A.guards = some [] →
      Room k (A.deeper (envOfC qual (defScope st) s.heap.objs.size f cdv)) → TkE (cxOf (L2N.CX P w) P w K mg base N qual (defScope st) f cdv A outer s H E) W (fun C ds δ => ∃ m, PC none δ m ∧ ED C ds m) → spd bs R ED → Same W.F0 W.H0 →
      ∃ t, DSs (cxOf (L2N.CX P w) P w K mg base N qual (defScope st) f cdv A outer s H E) W (defBody st) t ∧
        t { nx := fun δ => ∃ m, PC none δ m ∧ R (.p .non) m, rt := fun b δ => b.isR = false ∧ ∃ m, PC none δ m ∧ R b m } (startD N bs)) : MethC P w K mg base C x (k + 1) ps spd := by
  obtain ⟨g, fd, po, F⟩ := Da.ex
  exact ⟨g, fd, Da.c, po, gd_of none F S len hpk (hbody g), F.binds hbd⟩
theorem cmp_of {C : Addr} {m : Str} {k : Nat} {spd : Spd} (c : MethC P w K mg base C m k ["self", "other"] spd) : CmpC P w K mg base C m k spd := by
  obtain ⟨f, fd, cl, hm, G, b⟩ := c.ex
  exact ⟨⟨f, fd, hm.at_, hm.fn, G, b⟩, cl⟩
theorem make_mk {C : Addr} {x qual : Str} {st : Stmt} {dvs : List V} {kws : List (Str × V)} {N ps : List Str} {k : Nat} {spd : SpdS} (Da : InitAt K mg x C qual st dvs kws) (S : FnScope N ps (defScope st))
    (len : ∀ d0 ds R E, spd d0 ds R E → ds.length + 1 = ps.length)
    (hbody : ∀ (f : Addr) (cdv : Value) (A : Around) (outer : List Env) (s : Shared) (H : Hp) (E : XK) (W : Fix) (d0 : DD.D) (ds : List DD.D) (R : B → DD.D → Prop) (ED : Addr → List DD.D → DD.D → Prop), A.guards = some [] →
      Room k (A.deeper (envOfC qual (defScope st) s.heap.objs.size f cdv)) → TkE (cxOf (L2N.CX P w) P w K mg base N qual (defScope st) f cdv A outer s H E) W (fun C es δ => ∃ d', δ[0]? = some (some (.s d')) ∧ ED C es d') → spd d0 ds R ED → Same W.F0 W.H0 →
      ∃ t, DSs (cxOf (L2N.CX P w) P w K mg base N qual (defScope st) f cdv A outer s H E) W (defBody st) t ∧
        t { nx := fun δ => ∃ d', δ[0]? = some (some (.s d')) ∧ R (.p .non) d', rt := fun b δ => b.isR = false ∧ ∃ d', δ[0]? = some (some (.s d')) ∧ R b d' } (startD N (.s d0 :: ds.map .p))) :
    ∃ f fd, GnOk P w K mg base (k + 1) f fd ps (toSpS K spd) ∧ Mk K C f ∧ mg x = some (.ref C) ∧ FunD K "__init__" qual (defArgs st) (defBody st) (defScope st) dvs kws f fd := by
  obtain ⟨f, fd, m, hm, F⟩ := Da.ex
  exact ⟨f, fd, gs_of F S len (hbody f), m, hm, F⟩
end

theorem cxOf_K {CX : CXT} {P : Program} {w : World} {K : PySem.W.Frag} {mg : Str → Option Value} {base : Heap} {N : List Str} {name : Str} {scope : Scope} {fa : Addr} {cdv : Value} {A₀ : Around} {outer₀ : List Env} {s₀ : Shared} {H₀ : Hp} {E : XK} : (cxOf CX P w K mg base N name scope fa cdv A₀ outer₀ s₀ H₀ E).K = K := rfl
theorem isaG_of {K : PySem.W.Frag} {d c : D} {b : Bool} {Q : B → Prop} (h : isaD K d c = some b) (ok : OkI K d) : isaG K [d, c] Q ↔ Q (.p (.bl b)) := by
  constructor
  · rintro ⟨d', c', b', e, h1, h2, q⟩
    cases e
    rw [h] at h1
    cases h1
    exact q
  · exact fun q => ⟨d, c, b, rfl, h, ok, q⟩
theorem okI_dat {K : PySem.W.Frag} {d : D} (h : dat d = true) : OkI K d := by
  cases d <;> first | (cases h; done) | trivial
theorem isa_Str {K : PySem.W.Frag} {d : D} {Q : B → Prop} (h : dat d = true) : isaG K [d, .ty "str"] Q ↔ Q (.p (.bl (isStr d))) :=
  isaG_of (by cases d <;> first | (cases h; done) | rfl | kernel_rfl) (okI_dat h)
theorem isa_Int {K : PySem.W.Frag} {d : D} {Q : B → Prop} (h : dat d = true) : isaG K [d, .ty "int"] Q ↔ Q (.p (.bl (isInt d))) :=
  isaG_of (by cases d <;> first | (cases h; done) | rfl | kernel_rfl) (okI_dat h)
theorem isa_Bool {K : PySem.W.Frag} {d : D} {Q : B → Prop} (h : dat d = true) : isaG K [d, .ty "bool"] Q ↔ Q (.p (.bl (isBool d))) :=
  isaG_of (by cases d <;> first | (cases h; done) | rfl | kernel_rfl) (okI_dat h)
theorem isa_Lst {K : PySem.W.Frag} {d : D} {Q : B → Prop} (h : dat d = true) : isaG K [d, .ty "list"] Q ↔ Q (.p (.bl (isLst d))) :=
  isaG_of (by cases d <;> first | (cases h; done) | rfl | kernel_rfl) (okI_dat h)
theorem isa_Tup {K : PySem.W.Frag} {d : D} {Q : B → Prop} (h : dat d = true) : isaG K [d, .ty "tuple"] Q ↔ Q (.p (.bl (isTup d))) :=
  isaG_of (by cases d <;> first | (cases h; done) | rfl | kernel_rfl) (okI_dat h)
def tyNames : List String := ["NoneType", "bool", "int", "str", "list", "tuple", "dict", "set"]
def NoKit (K : PySem.W.Frag) (a : Addr) : Prop := (tyNames.all fun t => PySem.W.kitOne K (.type t) (.ref a) == some false) = true
def NoFirst (K : PySem.W.Frag) (a : Addr) : Prop := (tyNames.all fun t => PySem.W.notFirst K a (.type t)) = true
theorem ty_mem {d : D} {t : String} (h : tyD d = some t) : t ∈ tyNames := by
  cases d <;> first | (cases h; done) | (cases h; decide)
theorem isa_no {K : PySem.W.Frag} {d : D} {a : Addr} {Q : B → Prop} (h : dat d = true) (n : NoKit K a) : isaG K [d, .ref a] Q ↔ Q (.p (.bl false)) := by
  refine isaG_of ?_ (okI_dat h)
  cases ht : tyD d with
  | none =>
    unfold dat at h
    rw [ht] at h
    cases h
  | some t =>
    have := List.all_eq_true.mp n t (ty_mem ht)
    have hk := beq_iff_eq.mp this
    cases d <;> first | (cases ht; done) | (cases ht; exact hk)
theorem isa_ins {K : PySem.W.Frag} {C a : Addr} {ns : List Str} {ds : List D} {b : Bool} {Q : B → Prop} (ok : InsOk K C) (h : PySem.W.kitOne K (.ref C) (.ref a) = some b) : isaG K [.ins C ns ds, .ref a] Q ↔ Q (.p (.bl b)) := isaG_of h ok
theorem notFirst_self {K : PySem.W.Frag} {C : Addr} : PySem.W.notFirst K C (.ref C) = true := by
  unfold PySem.W.notFirst
  simp
theorem isNon_non : isNon .non = true := rfl
theorem isNon_bl {b : Bool} : isNon (.bl b) = false := rfl
theorem isNon_int {b : Int} : isNon (.int b) = false := rfl
theorem isNon_str {b : Str} : isNon (.str b) = false := rfl
theorem isNon_lst {b : List D} : isNon (.lst b) = false := rfl
theorem isNon_tup {b : List D} : isNon (.tup b) = false := rfl
theorem isNon_dct {a : List Key} {b : List D} : isNon (.dct a b) = false := rfl
theorem isNon_ins {C : Addr} {a : List Str} {b : List D} : isNon (.ins C a b) = false := rfl
theorem isNon_exc {C : Addr} {b : List D} : isNon (.exc C b) = false := rfl
theorem kitOne_self {K : PySem.W.Frag} {C : Addr} : PySem.W.kitOne K (.ref C) (.ref C) = some true := by
  unfold PySem.W.kitOne
  simp
end DD

set_option Elab.async false
set_option linter.all false
set_option maxRecDepth 100000
set_option maxHeartbeats 8000000
namespace DD
open PySem PySem.Spec PyProof.Rows L2
theorem join_back : ∀ l : List Nat, Txt.join "" (l.map fun c => (⟨#[c]⟩ : Str)) = ⟨l.toArray⟩ := by
  intro l
  show Builtin.Str.glued _ _ = _
  rw [StrLaws.glued_eq_join]
  have key : ∀ l : List Nat, _root_.TL.tl (Str.join "" (l.map fun c => (⟨#[c]⟩ : Str))) = l := by
    intro l
    rw [_root_.TL.tl_join]
    induction l with
    | nil => rfl
    | cons c l ih =>
      cases l with
      | nil => rfl
      | cons d l =>
        show [c] ++ (_root_.TL.tl "" ++ _root_.TL.joinL (_root_.TL.tl "") (((d :: l).map fun c => (⟨#[c]⟩ : Str)).map _root_.TL.tl)) = _
        rw [ih]
        rfl
  have := key l
  have e : ∀ (s : Str) (l : List Nat), _root_.TL.tl s = l → s = ⟨l.toArray⟩ := fun s l h => by
    subst h
    cases s with
    | mk a => rfl
  exact e _ _ this
theorem upto_len {lo : Int} {n : Nat} : (upto lo n).length = n := by
  unfold upto
  rw [List.length_map, List.length_range]
end DD

set_option Elab.async false
set_option linter.all false
set_option maxRecDepth 100000
set_option maxHeartbeats 4000000
namespace DD
open PySem PySem.Spec PyProof.Rows L2
structure Bel (X : Cx) (n : Nat) (A : Around) : Prop where
  room : Room n A
  fr : A.frames = X.A.frames
  gu : A.guards = some []
theorem Bel.in1 {X : Cx} {n : Nat} {A : Around} (s : Bel X (n + 1) A) : Bel X n A.in1 := ⟨s.room.in1, s.fr, s.gu⟩
theorem Bel.mono {X : Cx} {n m : Nat} {A : Around} (s : Bel X n A) (h : m ≤ n) : Bel X m A := ⟨s.room.mono h, s.fr, s.gu⟩
abbrev EqR := D → D → Bool → Prop
def EqK (X : Cx) (n : Nat) (R : EqR) : Prop := ∀ (A : Around) (pins : List (Addr × Obj)) (s : Shared) (σ : L2.St) (F H : Hp) (c d : D) (x y : V) (u v : Value) (k : Bool), Bel X n A → Inv X pins σ H s → Same F H → Rp X.K F c x → Rp X.K F d y → RelV x u → RelV y v → R c d k →
    wpAny (model X.prog X.w) A (eqBool u v) (fun r s' => r = k ∧ ∃ H', Inv X pins σ H' s' ∧ Ext H H') X.xe s
def RcK (X : Cx) (n : Nat) (R : EqR) : Prop := ∀ (A : Around) (pins : List (Addr × Obj)) (s : Shared) (σ : L2.St) (F H : Hp) (c d : D) (x y : V) (u v : Value) (k : Bool), Bel X n A → Inv X pins σ H s → Same F H → Rp X.K F c x → Rp X.K F d y → RelV x u → RelV y v → R c d k →
    wpAny (model X.prog X.w) A (richCompare .Eq u v) (fun r s' => r = .bool k ∧ ∃ H', Inv X pins σ H' s' ∧ Ext H H') X.xe s
theorem Same.ext {F H H' : Hp} (e : Same F H) (h : Ext H H') : Same F H' := fun a o z => h a o (e a o z)
section
variable {X : Cx} {n m : Nat} {R R' : EqR}
theorem EqK.mono (h : EqK X n R) (hn : n ≤ m) : EqK X m R := fun A pins s σ F H c d x y u v k b => h A pins s σ F H c d x y u v k (b.mono hn)
theorem RcK.mono (h : RcK X n R) (hn : n ≤ m) : RcK X m R := fun A pins s σ F H c d x y u v k b => h A pins s σ F H c d x y u v k (b.mono hn)
theorem EqK.or (h : EqK X n R) (h' : EqK X n R') : EqK X n (fun c d k => R c d k ∨ R' c d k) := fun A pins s σ F H c d x y u v k b I e r1 r2 l1 l2 z => by
  rcases z with z | z
  · exact h A pins s σ F H c d x y u v k b I e r1 r2 l1 l2 z
  · exact h' A pins s σ F H c d x y u v k b I e r1 r2 l1 l2 z
end
end DD

set_option Elab.async false
set_option linter.all false
set_option maxRecDepth 100000
set_option maxHeartbeats 4000000
namespace DD
open PySem PySem.Spec PyProof.Rows L2
section
variable {X : Cx} {W : Fix} {n k' : Nat} {R : EqR} {a b : Expr} {ta tb : TD} {pos : Pos}
def eqKG (R : EqR) : D → D → (B → Prop) → Prop := fun x y Q => ∃ k, R x y k ∧ Q (.p (.bl k))
end
end DD

set_option Elab.async false
set_option linter.all false
set_option maxRecDepth 100000
set_option maxHeartbeats 4000000
namespace DD
open PySem PySem.Spec PyProof.Rows L2
def sortedSG : List D → (B → Prop) → Prop := fun ds Q => ∃ xs : List Str, ds = [.lst (xs.map D.str)] ∧ xs.length < 64 ∧ ∀ ys : List Str, ys.Perm xs → sortedS ys = true → Q (.o (.lst (ys.map D.str)))
section
variable {X : Cx} {W : Fix} {e o : Expr} {te to : TD} {apos pos p q p2 spos : Pos}
def dLenSet (te : TD) : TD := fun δ Q => dp te δ fun d δ1 => ∃ xs : List Str, seqD d = some (xs.map D.str) ∧ xs.length ≤ 1 ∧ Q (.p (.int (xs.length : Nat))) δ1
def dNeg (te : TD) : TD := fun δ Q => dp te δ fun d δ1 => ∃ i, d = .int i ∧ Q (.p (.int (-i))) δ1
def dIndex (to te : TD) : TD := fun δ Q => dp to δ fun d δ1 => (∃ ds, d = .lst ds) ∧ dp te δ1 fun y δ2 => ∃ ds j z, d = .lst ds ∧ ds.all flatD = true ∧ flatD y = true ∧ ds[j]? = some z ∧ eqV (flatV' z) (flatV' y) = true ∧ (∀ (m : Nat) z', m < j → ds[m]? = some z' → eqV (flatV' z') (flatV' y) = false) ∧ Q (.p (.int (j : Nat))) δ2
def dClrE (te : TD) : TSD := fun Z δ => te δ fun b δ1 => ∃ ds, b = .o (.lst ds) ∧ Z.nx δ1
def dAppE (te : TD) : TSD := fun Z δ => te δ fun b δ1 => ∃ ds, b = .o (.lst ds) ∧ ds.length < sizeLine ∧ Z.nx δ1
end
end DD

set_option Elab.async false
set_option linter.all false
set_option maxRecDepth 100000
set_option maxHeartbeats 4000000
namespace DD
open PySem PySem.Spec PyProof.Rows L2
theorem gn_ofD {P : Program} {w : World} {K : PySem.W.Frag} {mg : Str → Option Value} {base : Heap} {x qual : Str} {st : Stmt} {f : Addr} {fd : FuncData} {N ps : List Str} {k : Nat} {sp : Sp}
    {dvs : List V} {kws : List (Str × V)} (F : FunD K x qual (defArgs st) (defBody st) (defScope st) dvs kws f fd) (S : FnScope N ps (defScope st)) (len : ∀ vs H Q E, sp vs H Q E → vs.length = ps.length)
    (hbody : ∀ (cdv : Value) (A : Around) (outer : List Env) (s : Shared) (H : Hp) (vs : List V) (Q : VK) (E : XK), A.guards = some [] →
      Room k (A.deeper (envOfC qual (defScope st) s.heap.objs.size f cdv)) → sp vs H Q E →
      ∃ t, PSs (cxOf (L2N.CX P w) P w K mg base N qual (defScope st) f cdv A outer s H E) (defBody st) t ∧ t { nx := fun _ H' => Q .non H', rt := Q } (start N vs) H) :
    GnOk P w K mg base (k + 1) f fd ps sp := by
  refine ⟨len, ?_⟩
  intro A outer s H args us vs Q E hg hr e0 hb r hsp
  obtain ⟨oc, od, dV, kV, doc, pm, an, cdv, ct, osl, rfl, lk, hcd, _, _⟩ := F.ex
  have kin : K.In s.heap := e0.mod.kin.keeps fun b o e => (e0.bs b o e).1
  refine codeAny_call_function hr.depth (kin _ _ lk) rfl S.co S.gen rfl (PySem.W.codeRec_of kin hcd) (hb _ _ _ _ ?_)
  have hk : ∀ y ∈ ps.zip us, (defScope st).names.lookup y.1 = some .local ∨
      ((defScope st).names.lookup y.1 = some .cell ∧ ((cellsFrom (s.heap.objs.size + 1) (defScope st).names []).lookup y.1).isSome = true) := by
    rintro ⟨n, v⟩ hy
    rcases S.par n (List.of_mem_zip hy).1 with q | q
    · exact Or.inl q
    · exact Or.inr ⟨q, PySem.W.cellsFrom_some _ _ _ (Or.inl q)⟩
  refine wpAny_newFunctionEnv_cells S.kind hk ?_
  intro env he s1 x
  subst he
  refine ⟨(e0.mod.nolimit.keeps fun b o e => (e0.bs b o e).1).keeps x.toInCall.keep, codeAny_func ?_⟩
  obtain ⟨t, ht, hq⟩ := hbody cdv A outer s H vs Q E hg (hr.deeper _) hsp
  have I := inv_start (CX := L2N.CX P w) (P := P) (w := w) (mg := mg) (base := base) (E := E) S hr.hd e0 (len _ _ _ _ hsp) r x
  refine wpAny_mono (ht.run [] s1 (start N vs) H _ I hq) ?_ (fun e s' hs => hs)
  intro fl s' hs
  cases fl with
  | ret u =>
    obtain ⟨v, σ', H', J, rv, q⟩ := hs
    exact ⟨v, H', J.os, J.bare, J.base, J.hok, rv, q⟩
  | next =>
    obtain ⟨σ', H', J, q⟩ := hs
    exact ⟨V.non, H', J.os, J.bare, J.base, J.hok, rfl, q⟩
  | brk =>
    obtain ⟨_, _, _, q⟩ := hs
    exact q.elim
  | cont =>
    obtain ⟨_, _, _, q⟩ := hs
    exact q.elim

theorem gd_ofD {P : Program} {w : World} {K : PySem.W.Frag} {mg : Str → Option Value} {base : Heap} {x qual : Str} {st : Stmt} {f : Addr} {fd : FuncData} {N ps : List Str} {k : Nat} {spd : Spd} (pi : Option Nat)
    {dvs : List V} {kws : List (Str × V)} (F : FunD K x qual (defArgs st) (defBody st) (defScope st) dvs kws f fd) (S : FnScope N ps (defScope st)) (len : ∀ bs R E, spd bs R E → bs.length = ps.length) (hpk : ∀ bs R E, spd bs R E → PurK pi bs ∧ (pi = none → ∀ b ∈ bs, b.own = false))
    (hbody : ∀ (cdv : Value) (A : Around) (outer : List Env) (s : Shared) (H : Hp) (E : XK) (W : Fix) (bs : List B) (R : B → Nat → Prop) (ED : Addr → List D → Nat → Prop), A.guards = some [] →
      Room k (A.deeper (envOfC qual (defScope st) s.heap.objs.size f cdv)) → TkE (cxOf (L2N.CX P w) P w K mg base N qual (defScope st) f cdv A outer s H E) W (fun C ds δ => ∃ m, PC pi δ m ∧ ED C ds m) → spd bs R ED → Same W.F0 W.H0 →
      ∃ t, DSs (cxOf (L2N.CX P w) P w K mg base N qual (defScope st) f cdv A outer s H E) W (defBody st) t ∧
        t { nx := fun δ => ∃ m, PC pi δ m ∧ R (.p .non) m, rt := fun b δ => b.isR = false ∧ ∃ m, PC pi δ m ∧ R b m } (startD N bs)) :
    GnOk P w K mg base (k + 1) f fd ps (toSp K spd) := by
  refine gn_ofD F S (fun vs H Q E h => ?_) fun cdv A outer s H vs Q E hg hr h => ?_
  · obtain ⟨F0, P0, bs, R, ED, _, ra, _, h, _⟩ := h
    rw [← Paired.length ra, len bs R ED h]
  · obtain ⟨F0, P0, bs, R, ED, fh, ra, hP, h, hQ, hE⟩ := h
    obtain ⟨h1, h2⟩ := hpk bs R ED h
    have hnp : P0 = none ∨ pi ≠ none := by
      cases e : P0 with
      | none => exact .inl rfl
      | some p =>
        refine .inr fun z => ?_
        obtain ⟨_, b, hb, ho⟩ := hP p e
        rw [h2 z b hb] at ho
        cases ho
    have S0 : SD K (Fix.of F0 H P0 fun C ds δ => ∃ m, PC pi δ m ∧ ED C ds m) F0 H (L2.start N vs) (startD N bs) := .start fh ra (fun p e => (hP p e).1) h1
    have tk : L2N.Takes (cxOf (L2N.CX P w) P w K mg base N qual (defScope st) f cdv A outer s H E) (WXd K (Fix.of F0 H P0 fun C ds δ => ∃ m, PC pi δ m ∧ ED C ds m)) := by
      refine (L2N.takes_of rfl rfl rfl rfl).imp fun cls d σ H' z => ?_
      obtain ⟨F', δ', C, ds, S', er, m, hm, he⟩ := z
      exact hE cls d H' F' C ds m (S'.aft hnp hm) er he
    obtain ⟨t, ht, q⟩ := hbody cdv A outer s H E _ bs R ED hg hr ⟨rfl, tk⟩ h fh
    refine ⟨_, cSs_pss, (fun pins s I => thn (ht.run F0 H _ _ _ S0 q pins s I) fun fl s' q => SP.imp q (fun σ' H' z => ?_) (fun v H' z => ?_) (fun σ' H' z => ?_) fun σ' H' z => ?_)⟩
    · obtain ⟨F', δ', S', m, hm, r⟩ := z
      exact hQ .non H' F' (.p .non) m (S'.aft hnp hm) (by unfold Res Rp; rfl) r
    · rcases z with ⟨_, σ', F', b, δ', e', S', rb, _, hu, m, hm, r⟩ | ⟨F', σ', δ', dss, S', fr, hu, m, hm, r⟩
      · refine hQ v H' F' b m (S'.aft hnp hm) ?_ r
        cases b with
        | p d => exact rb
        | n ds => exact rb
        | o d => exact rb
        | u w n => cases hu
        | s d => cases hu
        | t dss => exact rb.elim
        | m dss => cases hu
      · exact hQ v H' F' (.t dss) m (S'.aft hnp hm) fr r
    · obtain ⟨F', δ', S', z⟩ := z
      exact z.elim
    · obtain ⟨F', δ', S', z⟩ := z
      exact z.elim

structure FunAt (K : PySem.W.Frag) (mg : Str → Option Value) (x : Str) (st : Stmt) (dvs : List V) (kws : List (Str × V)) : Prop where
  ex : ∃ f fd, FunD K x x (defArgs st) (defBody st) (defScope st) dvs kws f fd ∧ mg x = some (.ref f)
section
variable {P : Program} {w : World} {K : PySem.W.Frag} {mg : Str → Option Value} {base : Heap}
theorem fun_mk {x : Str} {st : Stmt} {dvs : List V} {kws : List (Str × V)} {N ps : List Str} {k : Nat} {spd : Spd} (pi : Option Nat) (Da : FunAt K mg x st dvs kws) (S : FnScope N ps (defScope st))
    (len : ∀ bs R E, spd bs R E → bs.length = ps.length) (hpk : ∀ bs R E, spd bs R E → PurK pi bs ∧ (pi = none → ∀ b ∈ bs, b.own = false))
    (hbody : ∀ (f : Addr) (cdv : Value) (A : Around) (outer : List Env) (s : Shared) (H : Hp) (E : XK) (W : Fix) (bs : List B) (R : B → Nat → Prop) (ED : Addr → List DD.D → Nat → Prop), A.guards = some [] →
      Room k (A.deeper (envOfC x (defScope st) s.heap.objs.size f cdv)) → TkE (cxOf (L2N.CX P w) P w K mg base N x (defScope st) f cdv A outer s H E) W (fun C ds δ => ∃ m, PC pi δ m ∧ ED C ds m) → spd bs R ED → Same W.F0 W.H0 →
      ∃ t, DSs (cxOf (L2N.CX P w) P w K mg base N x (defScope st) f cdv A outer s H E) W (defBody st) t ∧
        t { nx := fun δ => ∃ m, PC pi δ m ∧ R (.p .non) m, rt := fun b δ => b.isR = false ∧ ∃ m, PC pi δ m ∧ R b m } (startD N bs)) :
    ∃ f fd, GnOk P w K mg base (k + 1) f fd ps (toSp K spd) ∧ mg x = some (.ref f) ∧ FunD K x x (defArgs st) (defBody st) (defScope st) dvs kws f fd := by
  obtain ⟨f, fd, F, hm⟩ := Da.ex
  exact ⟨f, fd, gd_ofD pi F S len hpk (hbody f), hm, F⟩
end
section
variable {X : Cx} {W : Fix} {E0 : Addr → List D → Env' → Prop} {k k' n : Nat} {ps ks : List Str} {dds : List D} {spd : Spd} {x : Str} {p pos : Pos} {e : Expr} {es : List Expr} {kws : List Keyword} {t tk : TDA}
def dCallK (n m : Nat) (spd : Spd) (Ew : Addr → List D → Env' → Prop) (t tk : TDA) : TD := fun δ Q => t δ fun ds δ1 => tk δ1 fun es δ2 => ds.length = n ∧ es.length = m ∧ spd ((ds ++ es).map .p) (fun b _ => b.isU = false ∧ Q b δ2) fun C es _ => Ew C es δ2
end
end DD

set_option Elab.async false
set_option linter.all false
set_option maxRecDepth 100000
set_option maxHeartbeats 4000000
namespace DD
open PySem PySem.Spec PyProof.Rows L2

def Lk (K : PySem.W.Frag) (F H : Hp) (d : D) (v : V) : Prop := Rp K F d v ∨ ∃ a, v = .ref a ∧ Own K F H d a
section
variable {K : PySem.W.Frag} {W : Fix} {F H : Hp} {σ : L2.St} {δ : Env'}
theorem RB.lk {b : B} {v : V} (h : RB K W F H b v) (hb : b.isU = false) : Lk K F H b.d v := by
  cases b with
  | p d => exact .inl h
  | n ds =>
    obtain ⟨t, xs, rfl, h1, h2, _⟩ := h
    refine .inl (?_ : Rp K F (.tup ds) (.ref t))
    unfold Rp
    exact ⟨t, xs, rfl, h1, h2⟩
  | o d =>
    obtain ⟨a, rfl, _, _, h2⟩ := h
    exact .inr ⟨a, rfl, h2⟩
  | u w n => cases hb
  | s d => cases hb
  | t dss => cases hb
  | m dss => cases hb
theorem Lk.lst {ds : List D} {v : V} (e : Same F H) (h : Lk K F H (.lst ds) v) : ∃ a xs, v = .ref a ∧ H a = some (.lst xs) ∧ RpL K F ds xs := by
  rcases h with h | ⟨a, rfl, xs, h1, h2⟩
  · obtain ⟨a, xs, rfl, h1, h2⟩ := rpLst h
    exact ⟨a, xs, rfl, e _ _ h1, h2⟩
  · exact ⟨a, xs, rfl, h1, h2⟩
theorem Lk.dct {ks : List Key} {ds : List D} {v : V} (e : Same F H) (h : Lk K F H (.dct ks ds) v) : ∃ a xs, v = .ref a ∧ H a = some (.dK (ks.zip xs)) ∧ RpL K F ds xs ∧ ks.length = xs.length := by
  rcases h with h | ⟨a, rfl, xs, h1, h2⟩
  · unfold Rp at h
    obtain ⟨a, xs, rfl, h1, h2⟩ := h
    exact ⟨a, xs, rfl, e _ _ h1, h2⟩
  · exact ⟨a, xs, rfl, h1, h2⟩
theorem Lk.dcT {ks : List (List Key)} {ds : List D} {v : V} (e : Same F H) (h : Lk K F H (.dcT ks ds) v) : ∃ a xs, v = .ref a ∧ H a = some (.dT (ks.zip xs)) ∧ RpL K F ds xs ∧ ks.length = xs.length := by
  rcases h with h | ⟨a, rfl, xs, h1, h2⟩
  · unfold Rp at h
    obtain ⟨a, xs, rfl, h1, h2⟩ := h
    exact ⟨a, xs, rfl, e _ _ h1, h2⟩
  · exact ⟨a, xs, rfl, h1, h2⟩
def solid : D → Bool
  | .lst _ => false
  | .dct _ _ => false
  | .dcT _ _ => false
  | .ins _ _ _ => false
  | .iset _ _ => false
  | _ => true
theorem Lk.rp {d : D} {v : V} (h : Lk K F H d v) (hd : solid d = true) : Rp K F d v := by
  rcases h with h | ⟨a, _, h⟩
  · exact h
  · cases d <;> first | (cases hd; done) | exact h.elim
end

section
variable {κ : Type} [DecidableEq κ]
def lookG : List κ → List D → κ → Option D
  | k :: ks, d :: ds, j => if k = j then some d else lookG ks ds j
  | _, _, _ => none
def putG (ks : List κ) (ds : List D) (k : κ) (d : D) : List κ × List D :=
  if k ∈ ks then (ks, (ks.zip ds).map fun p => if p.1 = k then d else p.2) else (ks ++ [k], ds ++ [d])
theorem lookG_none : ∀ {ks : List κ} {ds : List D} {k : κ}, ks.length = ds.length → (lookG ks ds k = none ↔ k ∉ ks)
  | [], _, k, _ => by simp [lookG]
  | j :: ks, [], k, h => by simp at h
  | j :: ks, d :: ds, k, h => by
    unfold lookG
    by_cases e : j = k
    · rw [if_pos e, e]
      simp
    · rw [if_neg e, lookG_none (by simpa using h), List.mem_cons]
      constructor
      · rintro z (z1 | z1)
        · exact e z1.symm
        · exact z z1
      · exact fun z z1 => z (.inr z1)
variable {K : PySem.W.Frag} {F : Hp}
def GetR (K : PySem.W.Frag) (F : Hp) : Option D → Option V → Prop
  | some z, o => ∃ x, o = some x ∧ Rp K F z x
  | none, o => o = none
theorem lookG_val : ∀ {ks : List κ} {ds : List D} {xs : List V} {k : κ}, ks.length = xs.length → RpL K F ds xs →
    GetR K F (lookG ks ds k) (valV (ks.zip xs) k)
  | [], ds, xs, k, _, _ => by
    simp [lookG, valV, GetR]
  | j :: ks, [], xs, k, hl, r => by
    unfold RpL at r
    subst r
    simp at hl
  | j :: ks, d :: ds, xs, k, hl, r => by
    unfold RpL at r
    obtain ⟨x, xr, rfl, r1, r2⟩ := r
    rw [List.zip_cons_cons]
    unfold lookG
    by_cases e : j = k
    · rw [if_pos e]
      exact ⟨x, valV_pos e, r1⟩
    · rw [if_neg e, valV_neg e]
      exact lookG_val (by simpa using hl) r2
theorem rpL_upd {k : κ} {d : D} {x : V} (hx : Rp K F d x) : ∀ {ks : List κ} {ds : List D} {xs : List V}, ks.length = xs.length → RpL K F ds xs → RpL K F ((ks.zip ds).map fun p => if p.1 = k then d else p.2) ((ks.zip xs).map fun p => if p.1 = k then x else p.2)
  | [], ds, xs, _, _ => .nil
  | j :: ks, [], xs, hl, r => by
    unfold RpL at r
    subst r
    simp at hl
  | j :: ks, d' :: ds, xs, hl, r => by
    unfold RpL at r
    obtain ⟨y, yr, rfl, r1, r2⟩ := r
    rw [List.zip_cons_cons, List.zip_cons_cons, List.map_cons, List.map_cons]
    refine .cons ?_ (rpL_upd hx (by simpa using hl) r2)
    by_cases e : j = k
    · rw [if_pos e, if_pos e]
      exact hx
    · rw [if_neg e, if_neg e]
      exact r1
theorem any_mem {ks : List κ} {xs : List V} {k : κ} (hl : ks.length = xs.length) : ((ks.zip xs).any fun kv => decide (kv.1 = k)) = decide (k ∈ ks) := by
  rw [Bool.eq_iff_iff, List.any_eq_true, decide_eq_true_eq]
  constructor
  · rintro ⟨⟨j, x⟩, hm, e⟩
    have := of_decide_eq_true e
    rw [← show j = k from this]
    exact (List.of_mem_zip hm).1
  · intro h
    obtain ⟨i, hi, rfl⟩ := List.getElem_of_mem h
    have hx : i < xs.length := hl ▸ hi
    refine ⟨(ks[i], xs[i]), ?_, by simp⟩
    rw [List.mem_iff_getElem]
    exact ⟨i, by rw [List.length_zip]; omega, List.getElem_zip⟩
theorem zip_upd {k : κ} {x : V} : ∀ {ks : List κ} {xs : List V}, ks.length = xs.length → (ks.zip xs).map (fun kv => if kv.1 = k then (kv.1, x) else kv) = ks.zip ((ks.zip xs).map fun p => if p.1 = k then x else p.2)
  | [], _, _ => rfl
  | _ :: _, [], h => by simp at h
  | j :: ks, y :: xs, h => by
    rw [List.zip_cons_cons, List.map_cons, List.map_cons, List.zip_cons_cons, zip_upd (by simpa using h)]
    by_cases e : j = k
    · rw [if_pos e, if_pos e]
    · rw [if_neg e, if_neg e]
theorem putG_put {ks : List κ} {ds : List D} {xs : List V} {k : κ} {d : D} {x : V} (hl : ks.length = xs.length) (r : RpL K F ds xs) (hx : Rp K F d x) :
    ∃ ys, putK (ks.zip xs) k x = (putG ks ds k d).1.zip ys ∧ RpL K F (putG ks ds k d).2 ys ∧ (putG ks ds k d).1.length = ys.length := by
  unfold putK putG
  rw [any_mem hl]
  by_cases h : k ∈ ks
  · rw [if_pos (decide_eq_true h), if_pos h]
    refine ⟨(ks.zip xs).map fun p => if p.1 = k then x else p.2, ?_, rpL_upd hx hl r, ?_⟩
    · exact zip_upd hl
    · show ks.length = _
      rw [List.length_map, List.length_zip, hl]
      omega
  · rw [if_neg (by simpa using h), if_neg h]
    exact ⟨xs ++ [x], by rw [List.zip_append hl]; rfl, r.append (.cons hx .nil), by rw [List.length_append, List.length_append, hl]; rfl⟩
end

def keyL : List D → Option (List Key)
  | [] => some []
  | d :: ds => match keyD d, keyL ds with
    | some k, some ks => some (k :: ks)
    | _, _ => none
def keyT : D → Option (List Key)
  | .tup ds => keyL ds
  | _ => none
theorem keyL_vals {K : PySem.W.Frag} {F : Hp} : ∀ {ds : List D} {xs : List V} {ks : List Key}, RpL K F ds xs → keyL ds = some ks → xs = ks.map kV
  | [], xs, ks, r, h => by
    unfold RpL at r
    cases h
    rw [r]
    rfl
  | d :: ds, xs, ks, r, h => by
    unfold RpL at r
    obtain ⟨x, xr, rfl, r1, r2⟩ := r
    unfold keyL at h
    cases h1 : keyD d with
    | none =>
      rw [h1] at h
      cases h
    | some k =>
      cases h2 : keyL ds with
      | none =>
        rw [h1, h2] at h
        cases h
      | some ks' =>
        rw [h1, h2] at h
        cases h
        rw [rp_key r1 h1, keyL_vals r2 h2]
        rfl
def getD' : D → D → Option (Option D)
  | .dct ks ds, y => (keyD y).map fun k => lookG ks ds k
  | .dcT ks ds, y => (keyT y).map fun k => lookG ks ds k
  | _, _ => none
section
variable {K : PySem.W.Frag} {F H : Hp}
theorem lk_get {d y : D} {v u : V} {r : Option D} (e : Same F H) (h : Lk K F H d v) (hy : Rp K F y u) (g : getD' d y = some r) :
    ∃ a, v = .ref a ∧ ∃ o, DGet H a u o ∧ GetR K F r o := by
  cases d <;> first | (cases g; done) | skip
  · rename_i ks ds
    obtain ⟨a, xs, rfl, h1, h2, h3⟩ := h.dct e
    have g : (keyD y).map (fun k => lookG ks ds k) = some r := g
    cases hk : keyD y with
    | none =>
      rw [hk] at g
      cases g
    | some k =>
      rw [hk] at g
      cases g
      rw [rp_key hy hk]
      exact ⟨a, rfl, _, DGet.k h1, lookG_val (k := k) h3 h2⟩
  · rename_i ks ds
    obtain ⟨a, xs, rfl, h1, h2, h3⟩ := h.dcT e
    have g : (keyT y).map (fun k => lookG ks ds k) = some r := g
    cases hk : keyT y with
    | none =>
      rw [hk] at g
      cases g
    | some k =>
      rw [hk] at g
      cases g
      cases y <;> first | (cases hk; done) | skip
      rename_i ts
      have hk : keyL ts = some k := hk
      obtain ⟨b, ys, rfl, g1, g2⟩ := rpTupS hy
      rw [keyL_vals g2 hk] at g1
      exact ⟨a, rfl, _, DGet.t h1 (e _ _ g1), lookG_val (k := k) h3 h2⟩
end

def RL (K : PySem.W.Frag) (r : R2) (g : D → D → (D → Prop) → Prop) : Prop :=
  ∀ (F H : Hp) (x y : V) (c d : D) (Q : D → Prop) (Z : VK), Same F H → Lk K F H c x → Lk K F H d y → g c d Q → (∀ v k, Rp K F k v → Q k → Z v H) → r x y H Z
def slotD (i : Nat) (δ : Env') (Q : D → Prop) : Prop := ∃ b, δ[i]? = some (some b) ∧ b.isU = false ∧ Q b.d
def dNL (i : Nat) (g : D → D → (D → Prop) → Prop) (tb : TD) : TD := fun δ Q => slotD i δ (fun _ => True) ∧ dp tb δ fun y δ1 => slotD i δ1 fun c => g c y fun k => Q (.p k) δ1
def dNR (j : Nat) (g : D → D → (D → Prop) → Prop) (ta : TD) : TD := fun δ Q => dp ta δ fun c δ1 => slotD j δ1 fun y => g c y fun k => Q (.p k) δ1
section
variable {X : Cx} {W : Fix} {a b : Expr} {ta tb : TD} {i j : Nat} {x : Str} {p pos : Pos} {r : R2} {g : D → D → (D → Prop) → Prop}
theorem slot_lk {K : PySem.W.Frag} {F H : Hp} {σ : L2.St} {δ : Env'} {Q : D → Prop} (S : SD K W F H σ δ) (h : slotD i δ Q) : ∃ v d, σ[i]? = some (some v) ∧ Lk K F H d v ∧ Q d := by
  obtain ⟨b, h1, h2, q⟩ := h
  obtain ⟨v, h3, h4⟩ := S.get i b h1
  exact ⟨v, b.d, h3, h4.lk h2, q⟩
theorem twoNL {F H : Hp} {σ : L2.St} {δ : Env'} {Q : B → Env' → Prop} (hb : DE X W b tb) (hr : RL X.K r g) (S : SD X.K W F H σ δ) (q : dNL i g tb δ Q) {Z : VK} (hZ : ∀ v H', DQ X.K W F σ Q v H' → Z v H') :
    tOp r (tVar i) (cE X b) σ H Z := by
  obtain ⟨q0, q⟩ := q
  obtain ⟨v0, d0, h0, _, _⟩ := slot_lk S q0
  refine ⟨v0, h0, (hb.plain S q).imp fun y H2 h2 => ?_⟩
  obtain ⟨F2, d, δ2, e2, S2, r2, q2⟩ := h2
  obtain ⟨v, c, h3, h4, q3⟩ := slot_lk S2 q2
  rw [h0] at h3
  cases h3
  exact hr F2 H2 v0 y c d _ _ S2.fh h4 (.inl r2) q3 fun w k rk qk => hZ _ _ ⟨F2, .p k, δ2, e2, S2, rk, (fun z => by cases z), qk⟩
theorem twoNR {F H : Hp} {σ : L2.St} {δ : Env'} {Q : B → Env' → Prop} (ha : DE X W a ta) (hr : RL X.K r g) (S : SD X.K W F H σ δ) (q : dNR j g ta δ Q) {Z : VK} (hZ : ∀ v H', DQ X.K W F σ Q v H' → Z v H') :
    tOp r (cE X a) (tVar j) σ H Z := by
  refine (ha.plain S q).imp fun y H2 h2 => ?_
  obtain ⟨F2, c, δ2, e2, S2, r2, q2⟩ := h2
  obtain ⟨v, d, h3, h4, q3⟩ := slot_lk S2 q2
  exact ⟨v, h3, hr F2 H2 y v c d _ _ S2.fh (.inl r2) h4 q3 fun w k rk qk => hZ _ _ ⟨F2, .p k, δ2, e2, S2, rk, (fun z => by cases z), qk⟩⟩
theorem tB_of {F H : Hp} {σ : L2.St} {Q : Bool → Env' → Prop} {v : V} (h : DQ X.K W F σ (fun b δ' => ∃ k, b = .p (.bl k) ∧ Q k δ') v H) : ∃ k, v = .bl k ∧ TQ X.K W F σ Q k H := by
  obtain ⟨F3, b, δ3, e3, S3, r3, _, k, rfl, q3⟩ := h
  have r3 : Rp X.K F3 (.bl k) v := r3
  exact ⟨k, rpBl r3, F3, δ3, e3, S3, q3⟩
theorem de_cmpNL {op : CmpOp} (ho : OpR X (compareOp op) r) (hr : RL X.K r g) (hN : X.N[i]? = some x) (hv : Vis X.env.scope x) (hb : DE X W b tb) (hm : behindInMarks op b = false)
    (hd : (x == ("__debug__" : Str)) = false := by decide) (hcd : (x == ("__classdict__" : Str)) = false := by decide) : DE X W (.Compare (.Name x p) [op] [b] pos) (dNL i g tb) :=
  .of (pe_cmpR ho (pe_var (X := X) hN hv hd hcd) cE_pe hm) fun _ _ _ _ _ S q => twoNL hb hr S q fun _ _ h => h
theorem de_cmpNR {op : CmpOp} (ho : OpR X (compareOp op) r) (hr : RL X.K r g) (hN : X.N[j]? = some x) (hv : Vis X.env.scope x) (ha : DE X W a ta) (hm : behindInMarks op (.Name x p) = false)
    (hd : (x == ("__debug__" : Str)) = false := by decide) (hcd : (x == ("__classdict__" : Str)) = false := by decide) : DE X W (.Compare a [op] [.Name x p] pos) (dNR j g ta) :=
  .of (pe_cmpR ho cE_pe (pe_var (X := X) hN hv hd hcd) hm) fun _ _ _ _ _ S q => twoNR ha hr S q fun _ _ h => h
end
end DD

set_option Elab.async false
set_option linter.all false
set_option maxRecDepth 100000
set_option maxHeartbeats 4000000
namespace DD
open PySem PySem.Spec PyProof.Rows L2
section
variable {K : PySem.W.Frag} {F H : Hp}
theorem Lk.dp {d : D} {v : V} {c : PyData} (e : Same F H) (h : Lk K F H d v) (t : toPy d = some c) : Dp K H v c := by
  rcases h with h | ⟨a, rfl, h⟩
  · exact Rp.dp e d v c h t
  · cases d <;> first | exact h.elim | (cases t; done) | skip
    obtain ⟨xs, h1, h2⟩ := h
    unfold toPy at t
    rename_i ds
    cases q : toPyL ds with
    | none =>
      rw [q] at t
      cases t
    | some cs =>
      rw [q] at t
      cases t
      exact .lst (SqL.of h1) (RpL.dp e ds xs cs h2 q)
theorem Lk.flat {d : D} {v : V} (h : Lk K F H d v) (f : flatD d = true) : v = flatV' d ∧ flatV v = true := by
  refine rpFlat (F := F) (h.rp ?_) f
  cases d <;> first | rfl | cases f
def eqL (c d : D) (Q : D → Prop) : Prop := ∃ b, eqD c d = some b ∧ Q (.bl b)
def neL (c d : D) (Q : D → Prop) : Prop := ∃ b, eqD c d = some b ∧ Q (.bl (!b))
theorem rl_eq : RL K (rEqAll K) eqL := by
  intro F H x y c d Q Z e lc ld g hZ
  obtain ⟨b, hb, q⟩ := g
  rcases eqD_cases hb with ⟨f1, f2, f3, rfl⟩ | ⟨c', d', t1, t2, s1, s2, rfl⟩
  · obtain ⟨e1, g1⟩ := lc.flat f1
    obtain ⟨e2, g2⟩ := ld.flat f2
    refine .inl ⟨by rw [e1, e2]; exact f3, ?_⟩
    refine hZ _ (.bl _) (rp_bl) ?_
    rw [e1, e2]
    exact q
  · exact .inr ⟨c', d', lc.dp e t1, ld.dp e t2, s1, s2, hZ _ (.bl _) rp_bl q⟩
theorem rl_ne : RL K (rNeAll K) neL := by
  intro F H x y c d Q Z e lc ld g hZ
  obtain ⟨b, hb, q⟩ := g
  rcases eqD_cases hb with ⟨f1, f2, f3, rfl⟩ | ⟨c', d', t1, t2, s1, s2, rfl⟩
  · obtain ⟨e1, g1⟩ := lc.flat f1
    obtain ⟨e2, g2⟩ := ld.flat f2
    refine .inl ⟨by rw [e1, e2]; exact f3, ?_⟩
    refine hZ _ (.bl _) (rp_bl) ?_
    rw [e1, e2]
    exact q
  · exact .inr ⟨c', d', lc.dp e t1, ld.dp e t2, s1, s2, hZ _ (.bl _) rp_bl q⟩
def isInX (c d : D) : Option Bool := match getD' d c with
  | some r => some r.isSome
  | none => match d with
    | .lst ds => if (flatD c && ds.all flatD) = true then some (inD c ds) else none
    | .tup ds => if (flatD c && ds.all flatD) = true then some (inD c ds) else none
    | .cst ds => if (flatD c && ds.all flatD) = true then some (inD c ds) else none
    | .str z => (signOf c).map fun c => decide (c ∈ z.cps.toList)
    | _ => none
def rInX (K : PySem.W.Frag) (neg : Bool) : R2 := fun x y H Q => rInAll K neg x y H Q ∨ ∃ a o, y = .ref a ∧ DGet H a x o ∧ Q (.bl (if neg then !o.isSome else o.isSome)) H
theorem op_inX {X : Cx} (hu : X.A.units + 64 < cLine) : OpR X (compareOp .In) (rInX X.K false) := by
  intro pins s σ H x y v u Q I rx ry h
  rcases h with h | ⟨a, o, rfl, g, q⟩
  · exact op_inAll pins s σ H x y v u Q I rx ry h
  · cases ry
    exact d_in (by omega) I g rx fun s' I' => ⟨.bl _, H, I', rfl, q⟩
theorem op_notInX {X : Cx} (hu : X.A.units + 64 < cLine) : OpR X (compareOp .NotIn) (rInX X.K true) := by
  intro pins s σ H x y v u Q I rx ry h
  rcases h with h | ⟨a, o, rfl, g, q⟩
  · exact op_notInAll pins s σ H x y v u Q I rx ry h
  · cases ry
    exact d_notIn (by omega) I g rx fun s' I' => ⟨.bl _, H, I', rfl, q⟩
def inL (neg : Bool) (c d : D) (Q : D → Prop) : Prop := ∃ b, isInX c d = some b ∧ Q (.bl (if neg then !b else b))
theorem GetR.some_eq {r : Option D} {o : Option V} (h : GetR K F r o) : o.isSome = r.isSome := by
  cases r with
  | none =>
    have : o = none := h
    rw [this]
    rfl
  | some z =>
    obtain ⟨x, rfl, _⟩ := (h : ∃ x, o = some x ∧ Rp K F z x)
    rfl
theorem Lk.seq {d : D} {v : V} {ds : List D} (e : Same F H) (h : Lk K F H d v) (hd : d = .lst ds ∨ d = .tup ds ∨ d = .cst ds) : ∃ a xs, v = .ref a ∧ (SqL K H a xs ∨ SqT K H a xs) ∧ RpL K F ds xs := by
  rcases hd with rfl | rfl | rfl
  · obtain ⟨a, xs, rfl, h1, h2⟩ := h.lst e
    exact ⟨a, xs, rfl, .inl (SqL.of h1), h2⟩
  · obtain ⟨a, xs, rfl, h1, h2⟩ := rpTup (h.rp rfl)
    exact ⟨a, xs, rfl, .inr (sqT_mono e h1), h2⟩
  · obtain ⟨a, xs, rfl, h1, h2⟩ := rpCst (h.rp rfl)
    exact ⟨a, xs, rfl, .inr (sqT_mono e h1), h2⟩
theorem rl_in {neg : Bool} : RL K (rInX K neg) (inL neg) := by
  intro F H x y c d Q Z e lc ld g hZ
  obtain ⟨b, hb, q⟩ := g
  unfold isInX at hb
  cases hg : getD' d c with
  | some r =>
    rw [hg] at hb
    cases hb
    have rc : Rp K F c x := lc.rp (by
      cases d <;> first | (cases hg; done) | skip
      all_goals cases c <;> first | rfl | (cases hg; done))
    obtain ⟨a, rfl, o, h1, h2⟩ := lk_get e ld rc hg
    refine .inr ⟨a, o, rfl, h1, hZ _ (.bl _) rp_bl ?_⟩
    rw [h2.some_eq]
    exact q
  | none =>
    rw [hg] at hb
    have fin : ∀ ds : List D, (d = .lst ds ∨ d = .tup ds ∨ d = .cst ds) → (if (flatD c && ds.all flatD) = true then some (inD c ds) else none) = some b → rInX K neg x y H Z := fun ds hd hb => by
      by_cases h1 : (flatD c && ds.all flatD) = true
      · rw [if_pos h1] at hb
        cases hb
        rw [Bool.and_eq_true] at h1
        obtain ⟨p, xs, rfl, h2, h3⟩ := ld.seq e hd
        obtain ⟨e1, e2⟩ := lc.flat h1.1
        obtain ⟨e3, e4⟩ := rpL_flat h3 h1.2
        refine .inl (.inl ⟨p, xs, rfl, h2, e2, e4, hZ _ (.bl _) rp_bl ?_⟩)
        rw [e1, e3]
        exact q
      · rw [if_neg h1] at hb
        cases hb
    cases d <;> first | (cases hb; done) | skip
    · rename_i z
      have hb : (signOf c).map (fun c => decide (c ∈ z.cps.toList)) = some b := hb
      cases hs : signOf c with
      | none =>
        rw [hs] at hb
        cases hb
      | some n =>
        rw [hs] at hb
        cases hb
        have ec := sign_of hs
        subst ec
        exact .inl (.inr (.inl ⟨n, z, rpStr (lc.rp rfl), rpStr (ld.rp rfl), hZ _ (.bl _) rp_bl q⟩))
    · exact fin _ (.inl rfl) hb
    · exact fin _ (.inr (.inl rfl)) hb
    · exact fin _ (.inr (.inr rfl)) hb
def itemX (c y : D) : Option D := match getD' c y with
  | some r => r
  | none => match c with
    | .lst ds => match y with
      | .int i => atI ds i
      | _ => none
    | .tup ds => match y with
      | .int i => atI ds i
      | _ => none
    | .cst ds => match y with
      | .int i => atI ds i
      | _ => none
    | .str z => match y with
      | .int i => if z.length ≤ sizeLine then (atI z.cps.toList i).map fun c => D.str ⟨#[c]⟩ else none
      | _ => none
    | .scr ns => match y with
      | .int i => (atI ns i).map D.int
      | _ => none
    | _ => none
def rIxX (K : PySem.W.Frag) : R2 := fun x y H Q => rIx K x y H Q ∨ rIxDct x y H Q
def ixL (c y : D) (Q : D → Prop) : Prop := ∃ d, itemX c y = some d ∧ Q d
theorem rl_ix : RL K (rIxX K) ixL := by
  intro F H x y c d Q Z e lc ld g hZ
  obtain ⟨r, hb, q⟩ := g
  unfold itemX at hb
  cases hg : getD' c d with
  | some z =>
    rw [hg] at hb
    have hb : z = some r := hb
    subst hb
    have rd : Rp K F d y := ld.rp (by
      cases c <;> first | (cases hg; done) | skip
      all_goals cases d <;> first | rfl | (cases hg; done))
    obtain ⟨a, rfl, o, h1, x', rfl, h2⟩ := lk_get e lc rd hg
    exact .inr ⟨a, x', rfl, h1, hZ _ r h2 q⟩
  | none =>
    rw [hg] at hb
    have fin : ∀ (ds : List D) (i : Int), (c = .lst ds ∨ c = .tup ds ∨ c = .cst ds) → d = .int i → atI ds i = some r → rIxX K x y H Z := fun ds i hd hi hb2 => by
      obtain ⟨p, xs, rfl, h2, h3⟩ := lc.seq e hd
      subst hi
      have ey := rpInt (ld.rp rfl)
      subst ey
      obtain ⟨v, h4, h5⟩ := rpL_atI h3 hb2
      rcases h2 with h2 | h2
      · exact .inl (.inl ⟨p, xs, _, v, rfl, rfl, h2, h4, hZ _ r h5 q⟩)
      · exact .inl (.inr (.inl ⟨p, xs, _, v, rfl, rfl, h2, h4, hZ _ r h5 q⟩))
    cases c <;> first | (cases hb; done) | skip
    all_goals cases d <;> first | (cases hb; done) | skip
    · rename_i z i
      have hb : (if z.length ≤ sizeLine then (atI z.cps.toList i).map fun c => D.str ⟨#[c]⟩ else none) = some r := hb
      by_cases hz : z.length ≤ sizeLine
      · rw [if_pos hz] at hb
        cases e : atI z.cps.toList i with
        | none =>
          rw [e] at hb
          cases hb
        | some c =>
          rw [e] at hb
          cases hb
          exact .inl (.inr (.inr ⟨z, i, c, rpStr (lc.rp rfl), rpInt (ld.rp rfl), hz, e, hZ _ (.str ⟨#[c]⟩) rp_str q⟩))
      · rw [if_neg hz] at hb
        cases hb
    · exact fin _ _ (.inl rfl) rfl hb
    · exact fin _ _ (.inr (.inl rfl)) rfl hb
    · rename_i ns j
      have hb : (atI ns j).map D.int = some r := hb
      have rc : Rp K F (.scr ns) x := lc.rp rfl
      unfold Rp at rc
      obtain ⟨a, rfl, h1⟩ := rc
      cases e : atI ns j with
      | none =>
        rw [e] at hb
        cases hb
      | some m =>
        rw [e] at hb
        cases hb
        have em : atI (ns.map V.int) j = some (.int m) := by
          unfold atI at e ⊢
          rw [List.length_map]
          cases g : ixN ns.length j with
          | none =>
            rw [g] at e
            cases e
          | some l =>
            rw [g] at e
            have e : ns[l]? = some m := e
            show (ns.map V.int)[l]? = _
            rw [List.getElem?_map, e]
            rfl
        exact .inl (.inl ⟨a, _, _, _, rfl, rpInt (ld.rp rfl), (by assumption : Same F H).seq h1.seq, em, hZ _ (.int m) rp_int q⟩)
    · exact fin _ _ (.inr (.inr rfl)) rfl hb
def lenX : D → Option Nat
  | .lst ds => some ds.length
  | .tup ds => some ds.length
  | .cst ds => some ds.length
  | .dct ks _ => some ks.length
  | .dcT ks _ => some ks.length
  | .str s => if s.length ≤ sizeLine then some s.length else none
  | _ => none
def rLenX (K : PySem.W.Frag) : List V → Hp → VK → Prop := fun xs H Q => rLenAll K xs H Q ∨ (∃ a kvs, xs = [V.ref a] ∧ H a = some (.dK kvs) ∧ Q (.int kvs.length) H) ∨ rLenT xs H Q
theorem cr_lenX {X : Cx} : CallR X (.builtin "len") (rLenX X.K) := by
  intro pins s σ H xs us Q I r h
  rcases h with h | h | h
  · exact cr_lenAll pins s σ H xs us Q I r h
  · exact call_lenD pins s σ H xs us Q I r h
  · exact call_len_dT pins s σ H xs us Q I r h
theorem lk_len {d : D} {v : V} {n : Nat} {Z : VK} (e : Same F H) (h : Lk K F H d v) (hn : lenX d = some n) (hZ : Z (.int (n : Nat)) H) : rLenX K [v] H Z := by
  have fin : ∀ ds : List D, (d = .lst ds ∨ d = .tup ds ∨ d = .cst ds) → ds.length = n → rLenX K [v] H Z := fun ds hd hl => by
    obtain ⟨p, xs, rfl, h2, h3⟩ := h.seq e hd
    refine .inl (.inl ⟨p, xs, rfl, h2, ?_⟩)
    rw [h3.length, hl]
    exact hZ
  cases d <;> first | (cases hn; done) | skip
  · rename_i s
    have hn : (if s.length ≤ sizeLine then some s.length else none) = some n := hn
    by_cases hz : s.length ≤ sizeLine
    · rw [if_pos hz] at hn
      cases hn
      exact .inl (.inr ⟨s, by rw [rpStr (h.rp rfl)], hz, hZ⟩)
    · rw [if_neg hz] at hn
      cases hn
  · exact fin _ (.inl rfl) (Option.some.inj hn)
  · exact fin _ (.inr (.inl rfl)) (Option.some.inj hn)
  · cases hn
    obtain ⟨a, xs, rfl, h1, h2, h3⟩ := h.dct e
    refine .inr (.inl ⟨a, _, rfl, h1, ?_⟩)
    rw [List.length_zip, h3, Nat.min_self, ← h3]
    exact hZ
  · exact fin _ (.inr (.inr rfl)) (Option.some.inj hn)
  · cases hn
    obtain ⟨a, xs, rfl, h1, h2, h3⟩ := h.dcT e
    refine .inr (.inr ⟨a, _, rfl, h1, ?_⟩)
    rw [List.length_zip, h3, Nat.min_self, ← h3]
    exact hZ
end

section
variable {X : Cx} {W : Fix} {a b e f : Expr} {ta tb te tf : TD} {i j : Nat} {x y : Str} {p p2 pos apos : Pos} {r : R2} {g : D → D → (D → Prop) → Prop}
theorem de_cmpL {op : CmpOp} (i : Nat) (ho : OpR X (compareOp op) r) (hr : RL X.K r g) (hb : DE X W b tb) (hN : X.N[i]? = some x := by rfl) (hv : Vis X.env.scope x := by first | exact Or.inl rfl | exact Or.inr (Or.inl rfl) | exact Or.inr (Or.inr rfl)) (hm : behindInMarks op b = false := by rfl)
    (hd : (x == ("__debug__" : Str)) = false := by decide) (hcd : (x == ("__classdict__" : Str)) = false := by decide) : DE X W (.Compare (.Name x p) [op] [b] pos) (dNL i g tb) := de_cmpNL ho hr hN hv hb hm hd hcd
theorem dt_cmpL {op : CmpOp} (i : Nat) (ho : OpR X (compareOp op) r) (hr : RL X.K r g) (hb : DE X W b tb) (hN : X.N[i]? = some x := by rfl) (hv : Vis X.env.scope x := by first | exact Or.inl rfl | exact Or.inr (Or.inl rfl) | exact Or.inr (Or.inr rfl)) (hm : behindInMarks op b = false := by rfl)
    (hd : (x == ("__debug__" : Str)) = false := by decide) (hcd : (x == ("__classdict__" : Str)) = false := by decide) : DT X W (.Compare (.Name x p) [op] [b] pos) (dT (dNL i g tb)) :=
  ⟨fun F H σ δ Q S q => cT_of (pt_cmpR ho (pe_var (X := X) hN hv hd hcd) cE_pe hm) (twoNL (Q := fun b δ' => ∃ k, b = .p (.bl k) ∧ Q k δ') hb hr S q fun _ _ h => tB_of h)⟩
theorem de_cmpR {op : CmpOp} (j : Nat) (ho : OpR X (compareOp op) r) (hr : RL X.K r g) (ha : DE X W a ta) (hN : X.N[j]? = some x := by rfl) (hv : Vis X.env.scope x := by first | exact Or.inl rfl | exact Or.inr (Or.inl rfl) | exact Or.inr (Or.inr rfl)) (hm : behindInMarks op (.Name x p) = false := by rfl)
    (hd : (x == ("__debug__" : Str)) = false := by decide) (hcd : (x == ("__classdict__" : Str)) = false := by decide) : DE X W (.Compare a [op] [.Name x p] pos) (dNR j g ta) := de_cmpNR ho hr hN hv ha hm hd hcd
theorem dt_cmpR {op : CmpOp} (j : Nat) (ho : OpR X (compareOp op) r) (hr : RL X.K r g) (ha : DE X W a ta) (hN : X.N[j]? = some x := by rfl) (hv : Vis X.env.scope x := by first | exact Or.inl rfl | exact Or.inr (Or.inl rfl) | exact Or.inr (Or.inr rfl)) (hm : behindInMarks op (.Name x p) = false := by rfl)
    (hd : (x == ("__debug__" : Str)) = false := by decide) (hcd : (x == ("__classdict__" : Str)) = false := by decide) : DT X W (.Compare a [op] [.Name x p] pos) (dT (dNR j g ta)) :=
  ⟨fun F H σ δ Q S q => cT_of (pt_cmpR ho cE_pe (pe_var (X := X) hN hv hd hcd) hm) (twoNR (Q := fun b δ' => ∃ k, b = .p (.bl k) ∧ Q k δ') ha hr S q fun _ _ h => tB_of h)⟩
theorem de_ixN (i : Nat) (hu : X.A.units + 64 < cLine) (hb : DE X W b tb) (hs : PlainIx b) (hN : X.N[i]? = some x := by rfl) (hv : Vis X.env.scope x := by first | exact Or.inl rfl | exact Or.inr (Or.inl rfl) | exact Or.inr (Or.inr rfl))
    (hd : (x == ("__debug__" : Str)) = false := by decide) (hcd : (x == ("__classdict__" : Str)) = false := by decide) : DE X W (.Subscript (.Name x p) b pos) (dNL i ixL tb) :=
  .of (pe_ix (X := X) (ix_seq.or (ix_dct hu)) (pe_var (X := X) hN hv hd hcd) cE_pe hs) fun _ _ _ _ _ S q => twoNL hb rl_ix S q fun _ _ h => h
def dLenN (i : Nat) : TD := fun δ Q => slotD i δ fun d => ∃ n, lenX d = some n ∧ Q (.p (.int (n : Nat))) δ
theorem de_lenN (i : Nat) (hm : X.mg "len" = none) (hN : X.N[i]? = some x := by rfl) (hv : Vis X.env.scope x := by first | exact Or.inl rfl | exact Or.inr (Or.inl rfl) | exact Or.inr (Or.inr rfl)) (hg : Gl X "len" := by exact rfl)
    (hd : (x == ("__debug__" : Str)) = false := by decide) (hcd : (x == ("__classdict__" : Str)) = false := by decide) (he : starEach [.Name x p] X.env = (false, eval (.Name x p) X.env) :: starEach [] X.env := by rfl) (hpl : (backTo pos (starEach [] X.env)).any (·.1) = false := by rfl) :
    DE X W (.Call (.Name "len" p2) [.Name x p] [] pos) (dLenN i) :=
  .of (pe_callB (X := X) cr_lenX hg hm bt_len (pa_cons (pe_var (X := X) hN hv hd hcd) pa_nil he) (by decide) (by decide) he hpl) fun F H σ δ Q S q => by
    obtain ⟨v, d, h1, h2, n, hn, q⟩ := slot_lk S q
    exact ⟨v, h1, lk_len S.fh h2 hn ⟨F, .p (.int (n : Nat)), δ, Same.refl F, S, (show Rp X.K F (.int (n : Nat)) (.int (n : Nat)) from rp_int), (fun z => by cases z), q⟩⟩
def dGet2 (i : Nat) (te tf : TD) : TD := fun δ Q => slotD i δ (fun d => (∃ ks ds, d = .dct ks ds) ∨ ∃ ks ds, d = .dcT ks ds) ∧ dp te δ fun y δ1 => dp tf δ1 fun z δ2 => slotD i δ2 fun d => ∃ r, getD' d y = some r ∧ Q (.p (r.getD z)) δ2
end
end DD

set_option Elab.async false
set_option linter.all false
set_option maxRecDepth 100000
set_option maxHeartbeats 4000000
namespace DD
open PySem PySem.Spec PyProof.Rows L2
def setX (c y v : D) : Option D := match c with
  | .lst ds => match y with
    | .int k => (ixN ds.length k).map fun j => .lst (ds.set j v)
    | _ => none
  | .dct ks ds => (keyD y).bind fun k => if ks.length < sizeLine then some (.dct (putG ks ds k v).1 (putG ks ds k v).2) else none
  | .dcT ks ds => (keyT y).bind fun k => if ks.length < sizeLine then some (.dcT (putG ks ds k v).1 (putG ks ds k v).2) else none
  | _ => none
def rSetX : TSet := fun o i v H Q => L2.rSetL o i v H Q ∨ rSetD o i v H Q
theorem set_X {X : Cx} (hu : X.A.units + 64 < cLine) : PSet X rSetX := by
  intro pins s σ H o i v ov iv u Q I ro ri rv h
  rcases h with h | h
  · exact set_list pins s σ H o i v ov iv u Q I ro ri rv h
  · exact set_dict (by omega) pins s σ H o i v ov iv u Q I ro ri rv h
section
variable {K : PySem.W.Frag} {F H : Hp}
theorem own_set {c c' y d : D} {a : Addr} {u v : V} {Z : Hp → Prop} (e : Same F H) (h : Own K F H c a) (hy : Rp K F y u) (hd : Rp K F d v) (hc : setX c y d = some c') (hZ : ∀ o, Own K F (upd H a o) c' a → Z (upd H a o)) : rSetX (.ref a) u v H Z := by
  cases c <;> first | (cases hc; done) | skip
  · cases y <;> first | (cases hc; done) | skip
    rename_i ds k
    obtain ⟨xs, h1, h2⟩ := h
    have hc : (ixN ds.length k).map (fun j => D.lst (ds.set j d)) = some c' := hc
    cases hj : ixN ds.length k with
    | none =>
      rw [hj] at hc
      cases hc
    | some j =>
      rw [hj] at hc
      cases hc
      exact .inl ⟨a, xs, k, j, rfl, rpInt hy, h1, by rw [h2.length]; exact hj, hZ _ ⟨_, upd_same, RpL.set hd j h2⟩⟩
  · rename_i ks ds
    obtain ⟨xs, h1, h2, h3⟩ := h
    cases hk : keyD y with
    | none =>
      have hc : (keyD y).bind (fun k => if ks.length < sizeLine then some (D.dct (putG ks ds k d).1 (putG ks ds k d).2) else none) = some c' := hc
      rw [hk] at hc
      cases hc
    | some k =>
      have hc : (keyD y).bind (fun k => if ks.length < sizeLine then some (D.dct (putG ks ds k d).1 (putG ks ds k d).2) else none) = some c' := hc
      rw [hk] at hc
      have hc : (if ks.length < sizeLine then some (D.dct (putG ks ds k d).1 (putG ks ds k d).2) else none) = some c' := hc
      by_cases hl : ks.length < sizeLine
      · rw [if_pos hl] at hc
        cases hc
        obtain ⟨ys, g1, g2, g3⟩ := putG_put (k := k) h3 h2 hd
        rw [rp_key hy hk]
        refine .inr ⟨a, _, rfl, DPut.k h1 (by rw [List.length_zip, ← h3]; omega), hZ _ ?_⟩
        exact ⟨ys, by rw [upd_same, g1], g2, g3⟩
      · rw [if_neg hl] at hc
        cases hc
  · rename_i ks ds
    obtain ⟨xs, h1, h2, h3⟩ := h
    cases hk : keyT y with
    | none =>
      have hc : (keyT y).bind (fun k => if ks.length < sizeLine then some (D.dcT (putG ks ds k d).1 (putG ks ds k d).2) else none) = some c' := hc
      rw [hk] at hc
      cases hc
    | some k =>
      have hc : (keyT y).bind (fun k => if ks.length < sizeLine then some (D.dcT (putG ks ds k d).1 (putG ks ds k d).2) else none) = some c' := hc
      rw [hk] at hc
      have hc : (if ks.length < sizeLine then some (D.dcT (putG ks ds k d).1 (putG ks ds k d).2) else none) = some c' := hc
      by_cases hl : ks.length < sizeLine
      · rw [if_pos hl] at hc
        cases hc
        cases y <;> first | (cases hk; done) | skip
        rename_i ts
        obtain ⟨b, zs, rfl, b1, b2⟩ := rpTupS hy
        have hk : keyL ts = some k := hk
        rw [keyL_vals b2 hk] at b1
        obtain ⟨ys, g1, g2, g3⟩ := putG_put (k := k) h3 h2 hd
        refine .inr ⟨a, _, rfl, DPut.t h1 (e _ _ b1) (by rw [List.length_zip, ← h3]; omega), hZ _ ?_⟩
        exact ⟨ys, by rw [upd_same, g1], g2, g3⟩
      · rw [if_neg hl] at hc
        cases hc
end
def ownS (i : Nat) (δ : Env') : Prop := ∃ c, δ[i]? = some (some (.o c))
def dPutN (i : Nat) (tv ti : TD) : TSD := fun Z δ => dp tv δ fun d δ1 => ownS i δ1 ∧ dp ti δ1 fun y δ2 => ∃ c, δ2[i]? = some (some (.o c)) ∧ ∃ c', setX c y d = some c' ∧ Z.nx (δ2.set i (some (.o c')))
section
variable {X : Cx} {W : Fix} {v e : Expr} {tv te : TD} {i : Nat} {x : Str} {p p2 pos apos spos : Pos}
theorem ds_putN (i : Nat) (hu : X.A.units + 64 < cLine) (he : DE X W v tv) (hi : DE X W e te) (hN : X.N[i]? = some x := by rfl) (hv : Vis X.env.scope x := by first | exact Or.inl rfl | exact Or.inr (Or.inl rfl) | exact Or.inr (Or.inr rfl))
    (hd : (x == ("__debug__" : Str)) = false := by decide) (hcd : (x == ("__classdict__" : Str)) = false := by decide)
    (ha : ∀ u, assign (.Subscript (.Name x p) e p2) X.env u = (do
      let ov ← holding [u] (eval (.Name x p) X.env)
      let iv ← holding [u, ov] (eval e X.env)
      standAt p2
      holding [u, ov, iv] (setItem ov iv u)
      release [u, ov, iv] []) := by intro _; rfl)
    (hs : swapsWithSole [.Subscript (.Name x p) e p2] v pos.line X.env = pure false := by rfl) (hw : swappedStores [.Subscript (.Name x p) e p2] v X.env = pure none := by rfl)
    (h1 : (assignEach [.Subscript (.Name x p) e p2] X.env).map (·.2) = [assign (.Subscript (.Name x p) e p2) X.env] := by rfl) : DS X W (.Assign [.Subscript (.Name x p) e p2] v pos) (dPutN i tv te) :=
  .of (ps_asg (X := X) cE_pe (pg_sub (pe_var (X := X) hN hv hd hcd) cE_pe (set_X hu) ha) hs hw h1) fun F H σ δ D S q => by
    refine (he.plain S q).imp fun v H1 h1 => ?_
    obtain ⟨F1, d, δ1, e1, S1, r1, ⟨c0, hc0⟩, q1⟩ := h1
    obtain ⟨v0, hv0, a, rfl, hF0, hH0, hO0⟩ := S1.get i _ hc0
    refine ⟨.ref a, hv0, (hi.plain S1 q1).imp fun y H2 h2 => ?_⟩
    obtain ⟨F2, dy, δ2, e2, S2, r2, c, hc, c', hset, q2⟩ := h2
    obtain ⟨v1, hv1, a', rfl, hF1, hH1, hO1⟩ := S2.get i _ hc
    rw [hv0] at hv1
    cases hv1
    exact own_set S2.fh hO1 r2 (Rp.mono e2 _ _ r1) hset fun o ho => ⟨F2, _, S2.own_turn hc hv0 ho, q2⟩
def dRev (i : Nat) : TSD := fun Z δ => ∃ ds, δ[i]? = some (some (.o (.lst ds))) ∧ Z.nx (δ.set i (some (.o (.lst ds.reverse))))
def dClr (i : Nat) : TSD := fun Z δ => ∃ ds, δ[i]? = some (some (.o (.lst ds))) ∧ Z.nx (δ.set i (some (.o (.lst []))))
theorem RpL.reverse {K : PySem.W.Frag} {F : Hp} : ∀ {ds : List D} {xs : List V}, RpL K F ds xs → RpL K F ds.reverse xs.reverse
  | [], xs, r => by
    unfold RpL at r
    subst r
    exact .nil
  | d :: ds, xs, r => by
    unfold RpL at r
    obtain ⟨x, xr, rfl, r1, r2⟩ := r
    rw [List.reverse_cons, List.reverse_cons]
    exact r2.reverse.append (.cons r1 .nil)
def dPop (i : Nat) : TD := fun δ Q => ∃ ds d, δ[i]? = some (some (.o (.lst ds))) ∧ ds[ds.length - 1]? = some d ∧ Q (.p d) (δ.set i (some (.o (.lst ds.dropLast))))
theorem RpL.dropLast {K : PySem.W.Frag} {F : Hp} {ds : List D} {xs : List V} (r : RpL K F ds xs) : RpL K F ds.dropLast xs.dropLast := by
  rw [List.dropLast_eq_take, List.dropLast_eq_take, r.length]
  exact r.take _
def dPopAt (i : Nat) (te : TD) : TD := fun δ Q => (∃ ds, δ[i]? = some (some (.o (.lst ds)))) ∧ dp te δ fun y δ1 => ∃ ds k d, δ1[i]? = some (some (.o (.lst ds))) ∧ y = .int (k : Nat) ∧ k < 1000000 ∧ ds[k]? = some d ∧ Q (.p d) (δ1.set i (some (.o (.lst (ds.eraseIdx k)))))
def dExt (i : Nat) (te : TD) : TSD := fun Z δ => (∃ ds, δ[i]? = some (some (.o (.lst ds)))) ∧ dp te δ fun y δ1 => ∃ ds es, δ1[i]? = some (some (.o (.lst ds))) ∧ y = .lst es ∧ ds.length + es.length ≤ sizeLine ∧ Z.nx (δ1.set i (some (.o (.lst (ds ++ es)))))
def dAug (i : Nat) (f : Int → Int → Int) (te : TD) : TSD := fun Z δ => (∃ k, δ[i]? = some (some (.p (.int k)))) ∧ dp te δ fun y δ1 => ∃ k j, δ1[i]? = some (some (.p (.int k))) ∧ y = .int j ∧ Z.nx (δ1.set i (some (.p (.int (f k j)))))
end
end DD

set_option Elab.async false
set_option linter.all false
set_option maxRecDepth 100000
set_option maxHeartbeats 4000000
namespace DD
open PySem PySem.Spec PyProof.Rows L2
def dcL (g : TGD) (tt : TDT) (tk tv : TD) (vs : List Nat) (Q : List Key → List D → Env' → Prop) : List D → List Key → List D → Env' → Prop
  | [], ks, es, δ => Q ks es δ
  | d :: ds, ks, es, δ => g d δ fun δ1 => tt δ1 fun k δ2 => if k = true then dp tk δ2 fun y δ3 => dp tv δ3 fun z δ4 => ∃ c, keyD y = some c ∧ ks.length < sizeLine ∧ dcL g tt tk tv vs Q ds (putG ks es c z).1 (putG ks es c z).2 (wipeE δ4 vs) else dcL g tt tk tv vs Q ds ks es (wipeE δ2 vs)
def dDc (wi : TDI) (g : TGD) (tt : TDT) (tk tv : TD) (vs : List Nat) : TD := fun δ Q => wi δ fun ds δ1 => dcL g tt tk tv vs (fun ks es δ2 => Q (.o (.dct ks es)) δ2) ds [] [] (wipeE δ1 vs)
section
variable {X : Cx} {W : Fix} {kx vx tg iter : Expr} {ifs : List Expr} {scope : Scope} {own : List (Str × Nat)} {pos : Pos} {wi : TDI} {g : TGD} {tt : TDT} {tk tv : TD} {σ : L2.St} {F H : Hp} {δ : Env'} {Q : B → Env' → Prop}
theorem dc_run (hg : ∀ (s : Shared) (H : Hp) (C : Addr) (cl : List (Str × Addr)) (fp : List Addr) (W' : Fix), DGc (blkX X scope s H C cl fp) W' tg (own.map (·.2)) g)
    (ht : ∀ (s : Shared) (H : Hp) (C : Addr) (cl : List (Str × Addr)) (fp : List Addr) (W' : Fix), DTs (blkX X scope s H C cl fp) W' ifs tt)
    (hk : ∀ (s : Shared) (H : Hp) (C : Addr) (cl : List (Str × Addr)) (fp : List Addr) (W' : Fix), DE (blkX X scope s H C cl fp) W' kx tk)
    (he : ∀ (s : Shared) (H : Hp) (C : Addr) (cl : List (Str × Addr)) (fp : List Addr) (W' : Fix), DE (blkX X scope s H C cl fp) W' vx tv)
    (hi : DI X W tg iter wi) (S : SD X.K W F H σ δ) (q : dDc wi g tt tk tv (own.map (·.2)) δ Q) {Z : VK} (hZ : ∀ v H', DQ X.K W F σ Q v H' → Z v H') :
    tDc (cI X tg iter) (bG X scope tg) (bTs X scope ifs) (bE X scope kx) (bE X scope vx) (own.map (·.2)) σ H Z := by
  intro pins s I
  refine thn (hi.run F H σ δ _ S q pins s I) fun v s1 h1 => thn h1 fun itv s2 h2 => ?_
  obtain ⟨it, fp, tn, J, H1, e1, I1, T1, n1, f1, F1, ds, δ1, eF, S1, Y, q1⟩ := h2
  refine ⟨it, fp, tn, J, H1, e1, I1, T1, n1, f1, fun Dl hD => ?_⟩
  have hF1 : F1 Dl = none := S1.freshF hD
  have h0D : W.H0 Dl = none := S1.fresh0 hD
  have hF0 : W.F0 Dl = none := S1.f0.free hF1
  have hPD : W.P ≠ some Dl := fun z => by
    obtain ⟨_, ⟨o, ho⟩, _⟩ := S1.fp Dl z
    rw [hD] at ho
    cases ho
  refine ⟨fun i m H' => m = ds.length - i ∧ i ≤ ds.length ∧ ∃ F' δ' ks acc xs, Same F1 F' ∧ SD X.K (W.hold Dl (.dK (ks.zip xs))) F' H' (wipe σ (own.map (·.2))) δ' ∧ RpL X.K F' acc xs ∧ ks.length = xs.length ∧ (∀ (j : Nat) (b : B), δ'[j]? = some (some b) → j ∉ own.map (·.2)) ∧
      dcL g tt tk tv (own.map (·.2)) (fun ks acc δ2 => Q (.o (.dct ks acc)) δ2) (ds.drop i) ks acc δ', ⟨_, rfl, Nat.zero_le _, F1, wipeE δ1 (own.map (·.2)), [], [], [], Same.refl F1, ?_, .nil, rfl, fun j b h => (wipeE_some h).2, q1⟩, ?_⟩
  · refine (SD.newO (S1.wiped (vs := own.map (·.2))) hD).held upd_same h0D hF1 hPD fun j c e1 e2 e3 => ?_
    obtain ⟨v, h1, h2⟩ := (S1.wiped (vs := own.map (·.2))).get j c e1
    rw [e3] at h1
    cases h1
    obtain ⟨a, o, e, h4, _⟩ := h2.there e2
    cases e
    rw [hD] at h4
    cases h4
  rintro i m H' ⟨rfl, hil, F', δ', ks, acc, xs, e', S', ra, hkl, hv, q'⟩
  obtain ⟨y1, y2⟩ := Y _ F' H' _ δ' i S' e'
  by_cases hl : i < ds.length
  · have hd : ds[i]? = some ds[i] := List.getElem?_eq_getElem hl
    rw [List.drop_eq_getElem_cons hl] at q'
    obtain ⟨hgo, hy⟩ := y1 _ hd
    refine .inr ⟨hgo, fun H2 => ∃ F' δ' ks acc xs, Same F1 F' ∧ SD X.K (W.hold Dl (.dK (ks.zip xs))) F' H2 (wipe σ (own.map (·.2))) δ' ∧ RpL X.K F' acc xs ∧ ks.length = xs.length ∧ (∀ (j : Nat) (b : B), δ'[j]? = some (some b) → j ∉ own.map (·.2)) ∧
      dcL g tt tk tv (own.map (·.2)) (fun ks acc δ2 => Q (.o (.dct ks acc)) δ2) (ds.drop (i + 1)) ks acc δ', fun H2 h2 => ⟨_, by omega, rfl, hl, h2⟩, fun x H2 hyl => ?_⟩
    obtain ⟨F2, e2, S2, rx, _⟩ := hy x H2 hyl
    intro s0 H0 C cl fp pins s u I ru
    refine thn ((hg s0 H0 C cl fp _).run F2 H2 _ δ' _ x _ S2 rx q' pins s u I ru) fun _ s' h3 => ?_
    obtain ⟨σ3, H3, I3, w3, F3, δ3, e3, S3, q3⟩ := h3
    refine ⟨σ3, H3, I3, ?_, fun s0 H0 C cl fp pins s I => ?_⟩
    · rw [w3]
      apply List.ext_getElem?
      intro j
      by_cases em : j ∈ own.map (·.2)
      · have n1 : ∀ (ρ : L2.St) (x : V), (wipe ρ (own.map (·.2)))[j]? ≠ some (some x) := fun ρ x z => (wipe_some z).2 em
        have l1 : (wipe (wipe σ (own.map (·.2))) (own.map (·.2))).length = (wipe σ (own.map (·.2))).length := wipe_length _ _
        by_cases hj : j < (wipe σ (own.map (·.2))).length
        · rw [List.getElem?_eq_getElem hj, List.getElem?_eq_getElem (by rw [l1]; exact hj)]
          cases z1 : (wipe (wipe σ (own.map (·.2))) (own.map (·.2)))[j]'(by rw [l1]; exact hj) with
          | some x => exact absurd (by rw [List.getElem?_eq_getElem (by rw [l1]; exact hj), z1]) (n1 _ x)
          | none =>
            cases z2 : (wipe σ (own.map (·.2)))[j]'hj with
            | some x => exact absurd (by rw [List.getElem?_eq_getElem hj, z2]) (n1 _ x)
            | none => rfl
        · rw [List.getElem?_eq_none (by omega), List.getElem?_eq_none (by omega)]
      · rw [wipe_off em]
    refine thn ((ht s0 H0 C cl fp _).run F3 H3 σ3 δ3 _ S3 q3 pins s I) fun b s4 h4 => ?_
    obtain ⟨H4, I4, F4, δ4, e4, S4, q4⟩ := h4
    refine ⟨H4, I4, ?_⟩
    have back : ∀ {F5 H5 : Hp} {δ5 : Env'} {o : HO}, SD X.K (W.hold Dl o) F5 H5 σ3 δ5 → SD X.K (W.hold Dl o) F5 H5 (wipe σ (own.map (·.2))) (wipeE δ5 (own.map (·.2))) := fun {F5 H5 δ5 o} S5 => by
      have z := S5.wiped (vs := own.map (·.2))
      rw [w3] at z
      refine z.slots ?_ fun j b h => ?_
      · rw [wipe_length, wipe_length, wipe_length]
      · rw [wipe_off (wipeE_some h).2, wipe_off (wipeE_some h).2, wipe_off (wipeE_some h).2]
    cases b with
    | false =>
      simp only [Bool.false_eq_true, if_false] at q4 ⊢
      exact ⟨F4, _, ks, acc, xs, ((e'.trans e2).trans e3).trans e4, back S4, RpL.mono ((e2.trans e3).trans e4) _ _ ra, hkl, fun j b h => (wipeE_some h).2, q4⟩
    | true =>
      simp only [if_true] at q4 ⊢
      intro s0 H0 C cl fp pins s I
      refine thn ((hk s0 H0 C cl fp _).plain S4 q4 pins s I) fun u s5 h5 => ?_
      obtain ⟨y, H5, I5, ry, F5, d5, δ5, e5, S5, r5, q5⟩ := h5
      refine ⟨y, H5, I5, ry, fun s0 H0 C cl fp pins s I => ?_⟩
      refine thn ((he s0 H0 C cl fp _).plain S5 q5 pins s I) fun u2 s6 h6 => ?_
      obtain ⟨z, H6, I6, rz, F6, d6, δ6, e6, S6, r6, c, hc, hz, q6⟩ := h6
      obtain ⟨S7, hD7, hF7, hn7⟩ := S6.unheld h0D hF0 hPD
      have ra6 : RpL X.K F6 acc xs := RpL.mono ((((e2.trans e3).trans e4).trans e5).trans e6) _ _ ra
      obtain ⟨ys, g1, g2, g3⟩ := putG_put (k := c) hkl ra6 r6
      have S8 : SD X.K (W.hold Dl (.dK ((putG ks acc c d6).1.zip ys))) F6 (upd H6 Dl (.dK ((putG ks acc c d6).1.zip ys))) σ3 δ6 := (S7.turn h0D hF7 hn7).held upd_same h0D hF7 hPD hn7
      refine ⟨z, H6, I6, rz, ks.zip xs, c, rp_key r5 hc, hD7, by rw [List.length_zip, ← hkl]; omega, F6, _, _, _, ys, ((((e'.trans e2).trans e3).trans e4).trans e5).trans e6, ?_, g2, g3, fun j b h => (wipeE_some h).2, q6⟩
      rw [g1]
      exact back S8
  · have e0 : i = ds.length := by omega
    subst e0
    rw [List.drop_length] at q'
    refine .inl ⟨y2 (List.getElem?_eq_none (Nat.le_refl _)), hZ _ _ ?_⟩
    obtain ⟨S6, hD6, hF6, hn6⟩ := S'.unheld h0D hF0 hPD
    have S7 : SD X.K W F' H' σ δ' := S6.slots (wipe_length σ _).symm fun j b h => (wipe_off (hv j b h)).symm
    refine ⟨F', .o (.dct ks acc), δ', eF.trans e', S7, ⟨Dl, rfl, hF6, h0D, xs, hD6, ra, hkl⟩, fun _ j c h1 h2 => ?_, q'⟩
    rw [← wipe_off (σ := σ) (hv j c h1)]
    exact hn6 j c h1 h2
theorem de_dc (hc : X.calm = true) (hN : X.N.Nodup) (hi : DI X W tg iter wi) (ok : BlkOk X.N X.env.scope scope own)
    (hg : ∀ (s : Shared) (H : Hp) (C : Addr) (cl : List (Str × Addr)) (fp : List Addr) (W' : Fix), DGc (blkX X scope s H C cl fp) W' tg (own.map (·.2)) g)
    (ht : ∀ (s : Shared) (H : Hp) (C : Addr) (cl : List (Str × Addr)) (fp : List Addr) (W' : Fix), DTs (blkX X scope s H C cl fp) W' ifs tt)
    (hk : ∀ (s : Shared) (H : Hp) (C : Addr) (cl : List (Str × Addr)) (fp : List Addr) (W' : Fix), DE (blkX X scope s H C cl fp) W' kx tk)
    (he : ∀ (s : Shared) (H : Hp) (C : Addr) (cl : List (Str × Addr)) (fp : List Addr) (W' : Fix), DE (blkX X scope s H C cl fp) W' vx tv) (hs : ∀ x, foldedSetIterable iter X.env x = pure x := by intro _; rfl) :
    DE X W (.DictComp kx vx [⟨tg, iter, ifs, 0⟩] scope pos) (dDc wi g tt tk tv (own.map (·.2))) :=
  .of (pe_dc (X := X) hc hN cI_pi ok (fun s H C cl fp => ⟨fun pins s' _ _ _ u _ I r h => h s H C cl fp pins s' u I r⟩) (fun s H C cl fp => ⟨fun pins s' _ _ _ I h => h s H C cl fp pins s' I⟩) (fun s H C cl fp => ⟨fun pins s' _ _ _ I h => h s H C cl fp pins s' I⟩) (fun s H C cl fp => ⟨fun pins s' _ _ _ I h => h s H C cl fp pins s' I⟩) hs)
    fun F H σ δ Q S q => dc_run hg ht hk he hi S q fun _ _ h => h
theorem putG_new {κ : Type} [DecidableEq κ] {ks : List κ} {es : List D} {k : κ} {d : D} (h : k ∉ ks) : putG ks es k d = (ks ++ [k], es ++ [d]) := by
  unfold putG
  rw [if_neg h]
end
end DD

set_option Elab.async false
set_option linter.all false
set_option maxRecDepth 100000
set_option maxHeartbeats 4000000
namespace DD
open PySem PySem.Spec PyProof.Rows L2
section
variable {X : Cx} {W : Fix} {ek e : Expr} {tk tv : TE} {pos : Pos}
def tDispT (tk tv : TE) : TE := fun σ H Q => ∀ p, H p = none → tk σ (upd H p (.dT [])) fun y H1 => tv σ H1 fun z H2 => H2 p = some (.dT []) ∧ ∃ b k, y = .ref b ∧ H2 b = some (.tup (k.map kV)) ∧ Q (.ref p) (upd H2 p (.dT [(k, z)]))
theorem pe_dispT (hu : X.A.units + 64 < cLine) (hk : PE X ek tk) (hv : PE X e tv) : PE X (.Dict [some ek] [e] pos) (tDispT tk tv) := by
  refine ⟨fun pins s σ H Q I q => ?_⟩
  have hn := I.hok.fresh (Nat.le_refl s.heap.objs.size)
  have I1 := I.laid (a := s.heap.objs.size) (o := .dT []) (h' := s.heap.push { cls := .type "dict", data := .dict #[] }) (t' := s.toks) (fun _ _ q => Heap.get?_push_of_some _ q) (Nat.le_refl _) (dt_empty s.heap I.big)
  have hroom : (tupleKind (mixKind X.prog X.w)).room X.A := (show X.A.units < cLine by omega)
  rw [arm_eval_Dict, zip_pairTrees [some ek] [e] X.env pos rfl rfl, dictDisplay_pairs (pairTrees [some ek] [e] X.env pos) (by simp [pairTrees]) (by simp [pairTrees])]
  refine wpAny_bind (wpAny_standAt (wpAny_bind (wpAny_subDictH (knd := tupleKind (mixKind X.prog X.w)) (Q := fun d s' => wpAny (model X.prog X.w) X.A (pure (Value.ref d)) (EP X pins σ Q) X.xe s') hroom (by simp [pairTrees]) ?_)))
  refine pairTrees_cons_walk (thn (hk.run pins _ σ _ _ I1 (q _ hn)) fun yv s2 ⟨y, H2, I2, ry, q2⟩ => thn (hv.run pins s2 σ H2 _ I2 q2) fun zv s3 ⟨z, H3, I3, rz, e3, b, k, ey, eb, q3⟩ => pairTrees_nil_walk ?_)
  subst ey
  cases (show yv = Value.ref b from ry)
  obtain ⟨z1, hd, xs, rel, dd⟩ := dt_of I3.hok e3
  cases rel
  refine ⟨[(k, b, zv)], ⟨rfl, rfl, key_of I3.hok eb, trivial⟩, dd, fun h' tk dd' hs => wpAny_pure ⟨.ref s.heap.objs.size, _, ?_, rfl, q3⟩⟩
  obtain ⟨qo, es, ep, hq, h2, h3, h4, _, h5⟩ := dd'
  refine d_write I3 (by rw [e3]; exact True.intro) hs ⟨qo, hq⟩ ⟨by show 1 ≤ sizeLine; decide, hd, [(k, b, zv)], .cons ⟨rfl, ?_, rz⟩ .nil, qo, es, ep, hq, h2, h3, h4, h5⟩
  rw [upd_ne (ne_of eb e3 (fun z => nomatch z))]
  exact eb
end
end DD

set_option Elab.async false
set_option linter.all false
set_option maxRecDepth 100000
set_option maxHeartbeats 4000000
namespace DD
open PySem PySem.Spec PyProof.Rows L2
mutual
/-- no list, no dict within -/
def noLD : D → Bool
  | .lst _ => false
  | .dct _ _ => false
  | .dcT _ _ => false
  | .tup ds => noLDs ds
  | .cst ds => noLDs ds
  | .ins _ _ ds => noLDs ds
  | .exc _ ds => noLDs ds
  | _ => true
def noLDs : List D → Bool
  | [] => true
  | d :: ds => noLD d && noLDs ds
end
def noLB : B → Bool
  | .p d => noLD d
  | .o (.lst ds) => noLDs ds
  | .o (.ins _ _ ds) => noLDs ds
  | _ => false
def lend1 (k : Bool) : Option B → Option B
  | none => none
  | some (.p d) => some (.p d)
  | some (.o d) => if k = true then some (.p d) else none
  | some (.u _ _) => none
  | some (.n ds) => some (.n ds)
  | some (.s _) => none
  | some (.t _) => none
  | some (.m dss) => some (.m dss)
def lendE (n : Nat) (is : List Nat) : Env' → Env'
  | [] => []
  | o :: δ => lend1 (decide (n ∈ is)) o :: lendE (n + 1) is δ
theorem lendE_len {is : List Nat} : ∀ {δ : Env'} {n : Nat}, (lendE n is δ).length = δ.length
  | [], _ => rfl
  | _ :: δ, n => by
    show (lendE (n + 1) is δ).length + 1 = _
    rw [lendE_len]
    rfl
theorem lendE_at {is : List Nat} : ∀ {δ : Env'} {n i : Nat}, (lendE n is δ)[i]? = (δ[i]?).map (lend1 (decide (n + i ∈ is)))
  | [], _, _ => by simp [lendE]
  | o :: δ, n, 0 => by simp [lendE]
  | o :: δ, n, i + 1 => by
    show (lendE (n + 1) is δ)[i]? = _
    rw [lendE_at, List.getElem?_cons_succ, show n + 1 + i = n + (i + 1) by omega]
theorem lendE_get {is : List Nat} {δ : Env'} {n i : Nat} {b : B} (h : (lendE n is δ)[i]? = some (some b)) : (δ[i]? = some (some b) ∧ b.own = false) ∨ ∃ d, δ[i]? = some (some (.o d)) ∧ n + i ∈ is ∧ b = .p d := by
  rw [lendE_at] at h
  cases e : δ[i]? with
  | none =>
    rw [e] at h
    cases h
  | some o =>
    rw [e] at h
    have h : lend1 (decide (n + i ∈ is)) o = some b := Option.some.inj h
    cases o with
    | none => cases h
    | some c =>
      cases c with
      | p d =>
        cases h
        exact .inl ⟨rfl, rfl⟩
      | n ds =>
        cases h
        exact .inl ⟨rfl, rfl⟩
      | u w m => cases h
      | s d => cases h
      | t dss => cases h
      | m dss =>
        cases h
        exact .inl ⟨rfl, rfl⟩
      | o d =>
        have h : (if decide (n + i ∈ is) = true then some (B.p d) else none) = some b := h
        by_cases hn : n + i ∈ is
        · rw [if_pos (decide_eq_true hn)] at h
          cases h
          exact .inr ⟨d, rfl, hn, rfl⟩
        · rw [if_neg (by simpa using hn)] at h
          cases h
section
variable {K : PySem.W.Frag} {W : Fix} {F H : Hp} {σ : L2.St} {δ : Env'} {is : List Nat}
def Lent (σ : L2.St) (δ : Env') (is : List Nat) (a : Addr) : Prop := ∃ j d, j ∈ is ∧ δ[j]? = some (some (.o d)) ∧ σ[j]? = some (some (.ref a))
def isLD : D → Bool
  | .lst _ => true
  | .dct _ _ => true
  | .dcT _ _ => true
  | _ => false
def LentOk (δ : Env') (is : List Nat) : Prop := ∀ j d, j ∈ is → δ[j]? = some (some (.o d)) → isLD d = true
def Kept (σ : L2.St) (δ : Env') (is : List Nat) (a : Addr) : Prop := ∃ j c, ¬ (j ∈ is ∧ ∃ d, c = .o d) ∧ δ[j]? = some (some c) ∧ c.own = true ∧ σ[j]? = some (some (.ref a))
open Classical in
noncomputable def lendF (H F : Hp) (σ : L2.St) (δ : Env') (is : List Nat) : Hp := fun a => if Lent σ δ is a then H a else F a
open Classical in
noncomputable def cutF (F : Hp) (σ : L2.St) (δ : Env') (is : List Nat) : Hp := fun a => if Lent σ δ is a then none else F a
open Classical in
noncomputable def lendW (W : Fix) (H : Hp) (σ : L2.St) (δ : Env') (is : List Nat) : Fix :=
  { F0 := W.F0, H0 := fun a => if Kept σ δ is a ∨ W.P = some a then H a else W.H0 a, P := none, E := fun _ _ _ => False, T := fun a => W.T a && (if Kept σ δ is a ∨ W.P = some a then H a else W.H0 a).isSome,
    tm := fun a h => Option.isSome_iff_exists.mp (Bool.and_eq_true_iff.mp h).2 }
theorem Lent.at (S : SD K W F H σ δ) {a : Addr} (h : Lent σ δ is a) : ∃ d, Own K F H d a ∧ F a = none ∧ W.H0 a = none ∧ W.P ≠ some a ∧ ¬ Kept σ δ is a := by
  obtain ⟨j, d, h1, h2, h3⟩ := h
  obtain ⟨v, e1, a', e2, h4, h5, h6⟩ := S.get j _ h2
  rw [h3] at e1
  cases e1
  cases e2
  refine ⟨d, h6, h4, h5, fun z => ?_, fun ⟨k, c, n1, n2, n3, n4⟩ => ?_⟩
  · obtain ⟨_, _, o, ho⟩ := S.fp a z
    rw [h5] at ho
    cases ho
  · by_cases e : k = j
    · subst e
      rw [h2] at n2
      cases n2
      exact n1 ⟨h1, d, rfl⟩
    · exact S.sep k j c _ _ e n2 n3 h2 rfl n4 h3
theorem Kept.at (S : SD K W F H σ δ) {a : Addr} (h : Kept σ δ is a) : F a = none ∧ ∃ o, H a = some o := by
  obtain ⟨k, c, n1, n2, n3, n4⟩ := h
  obtain ⟨v, e1, e2⟩ := S.get k _ n2
  rw [n4] at e1
  cases e1
  obtain ⟨a', o, e, h1, h2⟩ := e2.there n3
  cases e
  exact ⟨h2, o, h1⟩
open Classical in
theorem SD.lend (S : SD K W F H σ δ) : SD K (lendW W H σ δ is) (lendF H F σ δ is) H σ (lendE 0 is δ) := by
  have e : Same F (lendF H F σ δ is) := fun a o h => by
    unfold lendF
    rw [if_neg (fun z => by
      obtain ⟨_, _, h2, _⟩ := z.at S
      rw [h] at h2
      cases h2)]
    exact h
  refine ⟨S.f0.trans e, fun a o h _ => ?_, fun a o h => ?_, fun a o h => ?_, (fun a h => by cases h), (by rw [lendE_len]; exact S.len), fun i b h => ?_, fun i j b c v ne h1 h2 h3 h4 h5 => ?_⟩
  · have h : (if Kept σ δ is a ∨ W.P = some a then H a else W.H0 a) = some o := h
    by_cases z : Kept σ δ is a ∨ W.P = some a
    · rw [if_pos z] at h
      exact h
    · rw [if_neg z] at h
      exact S.h0 a o h fun q => z (.inr q)
  · unfold lendF at h
    by_cases z : Lent σ δ is a
    · rw [if_pos z] at h
      exact h
    · rw [if_neg z] at h
      exact S.fh a o h
  · unfold lendF at h
    by_cases z : Lent σ δ is a
    · obtain ⟨_, _, _, h5, h6, h7⟩ := z.at S
      refine .inr ?_
      show (if Kept σ δ is a ∨ W.P = some a then H a else W.H0 a) = none
      rw [if_neg (fun q => q.elim h7 h6)]
      exact h5
    · rw [if_neg z] at h
      rcases S.fr a o h with q | q
      · exact .inl q
      · refine .inr ?_
        show (if Kept σ δ is a ∨ W.P = some a then H a else W.H0 a) = none
        rw [if_neg]
        · exact q
        · rintro (k | k)
          · have := (k.at S).1
            rw [h] at this
            cases this
          · have := (S.fp a k).1
            rw [h] at this
            cases this
  · rcases lendE_get h with ⟨h1, h2⟩ | ⟨d, h1, h2, rfl⟩
    · obtain ⟨v, e1, e2⟩ := S.get i b h1
      refine ⟨v, e1, ?_⟩
      cases b with
      | p d => exact Rp.mono e _ _ e2
      | n ds =>
        obtain ⟨t, xs, rfl, g1, g2, g3⟩ := e2
        refine ⟨t, xs, rfl, e _ _ g1, RpL.mono e _ _ g2, fun a ha => ?_⟩
        obtain ⟨⟨ys, g4⟩, g5⟩ := g3 a ha
        refine ⟨⟨ys, e _ _ g4⟩, ?_⟩
        show (if Kept σ δ is a ∨ W.P = some a then H a else W.H0 a) = none
        rw [if_neg]
        · exact g5
        · rintro (k | k)
          · have := (k.at S).1
            rw [g4] at this
            cases this
          · have := (S.fp a k).1
            rw [g4] at this
            cases this
      | o d => cases h2
      | u w m => cases h2
      | s d => cases h2
      | t dss => exact e2.elim
      | m dss =>
        obtain ⟨t, as, rfl, g1, g2, g3, g4⟩ := e2
        refine ⟨t, as, rfl, e _ _ g1, g2, g3, fun k a ds q1 q2 => ?_⟩
        obtain ⟨z0, z1, z2, ys, z3, z4⟩ := g4 k a ds q1 q2
        have hh : (if Kept σ δ is a ∨ W.P = some a then H a else W.H0 a) = some (.lst ys) := by
          split
          · exact S.h0 a _ z3 z2
          · exact z3
        exact ⟨Bool.and_eq_true_iff.mpr ⟨z0, by rw [hh]; rfl⟩, z1, (fun z => by cases z), ys, hh, RpL.mono e _ _ z4⟩
    · obtain ⟨v, e1, a, rfl, g1, g2, g3⟩ := S.get i _ h1
      refine ⟨.ref a, e1, ?_⟩
      obtain ⟨o, ho⟩ := g3.some
      have z := own_frozen g3 ho g1
      refine Rp.mono (fun b u q => ?_) d (.ref a) z
      by_cases eb : b = a
      · subst eb
        rw [upd_same] at q
        cases q
        unfold lendF
        rw [if_pos ⟨i, d, by simpa using h2, h1, e1⟩]
        exact ho
      · rw [upd_ne eb] at q
        exact e _ _ q
  · rcases lendE_get h1 with ⟨_, z⟩ | ⟨d, _, _, rfl⟩
    · rw [h2] at z
      cases z
    · cases h2
def softO : HO → Prop
  | .lst _ => True
  | .dK _ => True
  | .dT _ => True
  | _ => False
theorem Lent.soft (S : SD K W F H σ δ) (ok : LentOk δ is) {a : Addr} {o : HO} (h : Lent σ δ is a) (ho : H a = some o) : softO o := by
  obtain ⟨j, d, h1, h2, h3⟩ := h
  obtain ⟨v, e1, a', e2, h4, h5, h6⟩ := S.get j _ h2
  rw [h3] at e1
  cases e1
  cases e2
  have k := ok j d h1 h2
  cases d <;> first | (cases k; done) | skip
  · obtain ⟨xs, g, _⟩ := h6
    rw [ho] at g
    cases g
    trivial
  · obtain ⟨xs, g, _⟩ := h6
    rw [ho] at g
    cases g
    trivial
  · obtain ⟨xs, g, _⟩ := h6
    rw [ho] at g
    cases g
    trivial
open Classical in
theorem cut_keep {F' : Hp} (hs : ∀ a o, Lent σ δ is a → F' a = some o → softO o) {a : Addr} {o : HO} (h : F' a = some o) (n : ¬ softO o) : cutF F' σ δ is a = some o := by
  unfold cutF
  rw [if_neg fun z => n (hs a o z h)]
  exact h
mutual
/-- data without lists and dicts do not need what is lent -/
theorem noLD_cut {F' : Hp} (hs : ∀ a o, Lent σ δ is a → F' a = some o → softO o) : ∀ (d : D) (v : V), noLD d = true → Rp K F' d v → Rp K (cutF F' σ δ is) d v
  | .non, v, _, h => h
  | .bl _, v, _, h => h
  | .int _, v, _, h => h
  | .str _, v, _, h => h
  | .ty _, v, _, h => h
  | .ref _, v, _, h => h
  | .lst _, v, n, _ => by cases n
  | .dct _ _, v, n, _ => by cases n
  | .dcT _ _, v, n, _ => by cases n
  | .tup ds, v, n, h => by
    unfold Rp at h ⊢
    obtain ⟨a, xs, rfl, h1, h2⟩ := h
    exact ⟨a, xs, rfl, cut_keep hs h1 (fun z => z), noLDs_cut hs ds xs n h2⟩
  | .cst ds, v, n, h => by
    unfold Rp at h ⊢
    obtain ⟨a, xs, rfl, h1, h2⟩ := h
    refine ⟨a, xs, rfl, ?_, noLDs_cut hs ds xs n h2⟩
    rcases h1 with (h1 | ⟨o, h1⟩) | h1
    · exact .inl (.inl (cut_keep hs h1 fun z => z))
    · exact .inl (.inr ⟨o, cut_keep hs h1 fun z => z⟩)
    · exact .inr h1
  | .ins C ns ds, v, n, h => by
    unfold Rp at h ⊢
    obtain ⟨a, dx, xs, rfl, h1, h2, h3⟩ := h
    exact ⟨a, dx, xs, rfl, cut_keep hs h1 (fun z => z), noLDs_cut hs ds xs n h2, h3⟩
  | .iset S n, v, _, h => by
    unfold Rp at h ⊢
    obtain ⟨a, rfl, h1⟩ := h
    exact ⟨a, rfl, cut_keep hs h1 fun z => z⟩
  | .exc C ds, v, n, h => by
    unfold Rp at h ⊢
    obtain ⟨a, dx, x, xs, rfl, h1, h2, h3, h4⟩ := h
    exact ⟨a, dx, x, xs, rfl, cut_keep hs h1 (fun z => z), cut_keep hs h2 (fun z => z), h3, noLDs_cut hs ds xs n h4⟩
  | .scr ns, v, _, h => by
    unfold Rp at h ⊢
    obtain ⟨a, rfl, h1⟩ := h
    refine ⟨a, rfl, ?_⟩
    rcases h1 with ⟨o, h1⟩ | h1
    · exact .inl ⟨o, cut_keep hs h1 fun z => z⟩
    · exact .inr h1
theorem noLDs_cut {F' : Hp} (hs : ∀ a o, Lent σ δ is a → F' a = some o → softO o) : ∀ (ds : List D) (xs : List V), noLDs ds = true → RpL K F' ds xs → RpL K (cutF F' σ δ is) ds xs
  | [], xs, _, h => h
  | d :: ds, xs, n, h => by
    unfold RpL at h ⊢
    obtain ⟨x, r, rfl, h1, h2⟩ := h
    obtain ⟨n1, n2⟩ := Bool.and_eq_true_iff.mp n
    exact ⟨x, r, rfl, noLD_cut hs d x n1 h1, noLDs_cut hs ds r n2 h2⟩
end
end
def lentB (n : Nat) (is : List Nat) : Env' → Bool
  | [] => true
  | some (.o d) :: δ => (!decide (n ∈ is) || isLD d) && lentB (n + 1) is δ
  | _ :: δ => lentB (n + 1) is δ
theorem lentB_ok {is : List Nat} : ∀ {δ : Env'} {n : Nat}, lentB n is δ = true → ∀ j d, n + j ∈ is → δ[j]? = some (some (.o d)) → isLD d = true
  | [], _, _, j, d, _, h => by cases h
  | o :: δ, n, h, 0, d, hj, e => by
    simp at e
    subst e
    have h := (Bool.and_eq_true_iff.mp (show ((!decide (n ∈ is) || isLD d) && lentB (n + 1) is δ) = true from h)).1
    rw [decide_eq_true (show n ∈ is from hj)] at h
    simpa using h
  | o :: δ, n, h, j + 1, d, hj, e => by
    have h2 : lentB (n + 1) is δ = true := by
      cases o with
      | none => exact h
      | some c =>
        cases c with
        | o d' => exact (Bool.and_eq_true_iff.mp (show ((!decide (n ∈ is) || isLD d') && lentB (n + 1) is δ) = true from h)).2
        | p _ => exact h
        | u _ _ => exact h
        | n _ => exact h
        | s _ => exact h
        | t _ => exact h
        | m _ => exact h
    exact lentB_ok h2 j d (by rw [show n + 1 + j = n + (j + 1) by omega]; exact hj) (by simpa using e)
def dLend (is : List Nat) (t : TD) : TD := fun δ Q => lentB 0 is δ = true ∧ t (lendE 0 is δ) fun b δ' => δ' = lendE 0 is δ ∧ noLB b = true ∧ Q b δ
open Classical in
theorem de_lend {X : Cx} {W : Fix} {e : Expr} {t : TD} (is : List Nat) (h : ∀ W, DE X W e t) : DE X W e (dLend is t) := by
  refine ⟨fun F H σ δ Q S q => ?_⟩
  obtain ⟨ok, q⟩ := q
  have ok : LentOk δ is := fun j d hj => lentB_ok ok j d (by rw [Nat.zero_add]; exact hj)
  refine ((h _).run _ H σ _ _ (S.lend (is := is)) q).imp fun v H' z => ?_
  obtain ⟨F', b, δ', e1, S', r, _, rfl, nb, q⟩ := z
  have eF : Same F (lendF H F σ δ is) := fun a o h => by
    unfold lendF
    rw [if_neg (fun z => by
      obtain ⟨_, _, h2, _⟩ := z.at S
      rw [h] at h2
      cases h2)]
    exact h
  have inF : ∀ a, Lent σ δ is a → ∃ o, H a = some o ∧ F' a = some o ∧ H' a = some o := fun a z => by
    obtain ⟨d, hO, _⟩ := z.at S
    obtain ⟨o, ho⟩ := hO.some
    have e2 : lendF H F σ δ is a = some o := by
      unfold lendF
      rw [if_pos z]
      exact ho
    exact ⟨o, ho, e1 _ _ e2, S'.fh _ _ (e1 _ _ e2)⟩
  have hs : ∀ a o, Lent σ δ is a → F' a = some o → softO o := fun a o z h => by
    obtain ⟨o', g1, g2, _⟩ := inF a z
    rw [h] at g2
    cases g2
    exact z.soft S ok g1
  have keep : ∀ a, Kept σ δ is a ∨ W.P = some a → H' a = H a := fun a z => by
    have hex : ∃ o, H a = some o := by
      rcases z with z | z
      · exact (z.at S).2
      · exact (S.fp a z).2.1
    obtain ⟨o, ho⟩ := hex
    rw [ho]
    refine S'.h0 a o ?_ (fun w => by cases w)
    show (if Kept σ δ is a ∨ W.P = some a then H a else W.H0 a) = some o
    rw [if_pos z]
    exact ho
  have cutS : Same F (cutF F' σ δ is) := fun a o h => by
    unfold cutF
    rw [if_neg (fun z => by
      obtain ⟨_, _, h2, _⟩ := z.at S
      rw [h] at h2
      cases h2)]
    exact e1 _ _ (eF _ _ h)
  have ownOld : ∀ {j : Nat} {d : D} {a : Addr}, δ[j]? = some (some (.o d)) → σ[j]? = some (some (.ref a)) → H' a = H a := fun {j d a} h1 h2 => by
    by_cases hj : j ∈ is
    · obtain ⟨o, g1, _, g3⟩ := inF a ⟨j, d, hj, h1, h2⟩
      rw [g1, g3]
    · exact keep a (.inl ⟨j, .o d, fun z => hj z.1, h1, rfl, h2⟩)
  have cutN : ∀ a, F a = none → (Lent σ δ is a ∨ Kept σ δ is a ∨ W.P = some a) → cutF F' σ δ is a = none := fun a hF z => by
    unfold cutF
    by_cases zl : Lent σ δ is a
    · rw [if_pos zl]
    · rw [if_neg zl]
      have z := z.resolve_left zl
      cases q : F' a with
      | none => rfl
      | some o =>
        rcases S'.fr a o q with g | g
        · have := S.f0 a o g
          rw [hF] at this
          cases this
        · have g : (if Kept σ δ is a ∨ W.P = some a then H a else W.H0 a) = none := g
          rw [if_pos z] at g
          have hex : ∃ o, H a = some o := by
            rcases z with z | z
            · exact (z.at S).2
            · exact (S.fp a z).2.1
          obtain ⟨o', ho⟩ := hex
          rw [g] at ho
          cases ho
  have S2 : SD X.K W (cutF F' σ δ is) H' σ δ := by
    refine ⟨S.f0.trans cutS, fun a o g n => ?_, fun a o g => ?_, fun a o g => ?_, fun a g => ?_, S.len, fun i c g => ?_, S.sep⟩
    · by_cases z : Kept σ δ is a ∨ W.P = some a
      · rw [keep a z]
        exact S.h0 a o g n
      · refine S'.h0 a o ?_ (fun w => by cases w)
        show (if Kept σ δ is a ∨ W.P = some a then H a else W.H0 a) = some o
        rw [if_neg z]
        exact g
    · unfold cutF at g
      by_cases z : Lent σ δ is a
      · rw [if_pos z] at g
        cases g
      · rw [if_neg z] at g
        exact S'.fh a o g
    · unfold cutF at g
      by_cases z : Lent σ δ is a
      · rw [if_pos z] at g
        cases g
      · rw [if_neg z] at g
        rcases S'.fr a o g with w | w
        · exact .inl w
        · have w : (if Kept σ δ is a ∨ W.P = some a then H a else W.H0 a) = none := w
          by_cases y : Kept σ δ is a ∨ W.P = some a
          · rw [if_pos y] at w
            have hex : ∃ o, H a = some o := by
              rcases y with y | y
              · exact (y.at S).2
              · exact (S.fp a y).2.1
            obtain ⟨o', ho⟩ := hex
            rw [w] at ho
            cases ho
          · rw [if_neg y] at w
            exact .inr w
    · obtain ⟨h1, h2, h3⟩ := S.fp a g
      refine ⟨cutN a h1 (.inr (.inr g)), ?_, h3⟩
      rw [keep a (.inr g)]
      exact h2
    · obtain ⟨v, h1, h2⟩ := S.get i c g
      refine ⟨v, h1, ?_⟩
      cases c with
      | p d => exact Rp.mono cutS _ _ h2
      | n ds =>
        obtain ⟨t, xs, rfl, g1, g2, g3⟩ := h2
        exact ⟨t, xs, rfl, cutS _ _ g1, RpL.mono cutS _ _ g2, fun a ha => by
          obtain ⟨⟨ys, g4⟩, g5⟩ := g3 a ha
          exact ⟨⟨ys, cutS _ _ g4⟩, g5⟩⟩
      | t dss => exact h2.elim
      | m dss =>
        obtain ⟨t, as, rfl, g1, g2, g3, g4⟩ := h2
        refine ⟨t, as, rfl, cutS _ _ g1, g2, g3, fun k a ds q1 q2 => ?_⟩
        obtain ⟨z0, z1, z2, ys, z3, z4⟩ := g4 k a ds q1 q2
        exact ⟨z0, z1, z2, ys, z3, RpL.mono cutS _ _ z4⟩
      | o d =>
        obtain ⟨a, rfl, g1, g2, g3⟩ := h2
        have hl : Lent σ δ is a ∨ Kept σ δ is a := by
          by_cases hj : i ∈ is
          · exact .inl ⟨i, d, hj, g, h1⟩
          · exact .inr ⟨i, .o d, fun z => hj z.1, g, rfl, h1⟩
        refine ⟨a, rfl, cutN a g1 (hl.elim .inl fun z => .inr (.inl z)), g2, own_keep (d := d) g3 cutS fun o ho => ?_⟩
        rw [ownOld g h1]
        exact ho
      | u w m =>
        obtain ⟨a, x, y, z, rfl, g1, g2, g3, g4⟩ := h2
        have hk : Kept σ δ is a := ⟨i, _, (fun z => by obtain ⟨_, d, e⟩ := z; cases e), g, rfl, h1⟩
        refine ⟨a, x, y, z, rfl, cutN a g1 (.inr (.inl hk)), g2, ?_, g4⟩
        rw [keep a (.inl hk)]
        exact g3
      | s d =>
        obtain ⟨a, rfl, g1, g2, g3⟩ := h2
        have hk : Kept σ δ is a := ⟨i, _, (fun z => by obtain ⟨_, d', e⟩ := z; cases e), g, rfl, h1⟩
        refine ⟨a, rfl, cutN a g1 (.inr (.inl hk)), g2, own_keep (d := d) g3 cutS fun o ho => ?_⟩
        rw [keep a (.inl hk)]
        exact ho
  have sepN : ∀ {a : Addr}, F' a = none → (lendW W H σ δ is).H0 a = none → ∀ (j : Nat) (c : B), δ[j]? = some (some c) → c.own = true → σ[j]? ≠ some (some (.ref a)) := fun {a} g1 g2 j c h1 h2 h3 => by
    by_cases hj : j ∈ is ∧ ∃ d, c = .o d
    · obtain ⟨hj, d, rfl⟩ := hj
      obtain ⟨o, _, g4, _⟩ := inF a ⟨j, d, hj, h1, h3⟩
      rw [g1] at g4
      cases g4
    · have hk : Kept σ δ is a := ⟨j, c, hj, h1, h2, h3⟩
      have g2 : (if Kept σ δ is a ∨ W.P = some a then H a else W.H0 a) = none := g2
      rw [if_pos (.inl hk)] at g2
      obtain ⟨o, ho⟩ := (hk.at S).2
      rw [g2] at ho
      cases ho
  have fresh0 : ∀ {a : Addr}, (lendW W H σ δ is).H0 a = none → W.H0 a = none := fun {a} g => by
    have g : (if Kept σ δ is a ∨ W.P = some a then H a else W.H0 a) = none := g
    by_cases y : Kept σ δ is a ∨ W.P = some a
    · rw [if_pos y] at g
      have hex : ∃ o, H a = some o := by
        rcases y with y | y
        · exact (y.at S).2
        · exact (S.fp a y).2.1
      obtain ⟨o', ho⟩ := hex
      rw [g] at ho
      cases ho
    · rw [if_neg y] at g
      exact g
  cases b with
  | p d => exact ⟨_, .p d, δ, cutS, S2, noLD_cut hs d v nb r, (fun z => by cases z), q⟩
  | n ds => cases nb
  | u w m => cases nb
  | s d => cases nb
  | t dss => cases nb
  | m dss => cases nb
  | o d =>
    obtain ⟨a, rfl, g1, g2, g3⟩ := r
    have hcut : cutF F' σ δ is a = none := by
      unfold cutF
      split
      · rfl
      · exact g1
    refine ⟨_, .o d, δ, cutS, S2, ⟨a, rfl, hcut, fresh0 g2, ?_⟩, fun _ => sepN g1 g2, q⟩
    cases d <;> first | (cases nb; done) | skip
    · obtain ⟨xs, k1, k2⟩ := g3
      exact ⟨xs, k1, noLDs_cut hs _ _ nb k2⟩
    · obtain ⟨dx, xs, k1, k2, k3⟩ := g3
      exact ⟨dx, xs, k1, noLDs_cut hs _ _ nb k2, k3⟩
end DD

set_option Elab.async false
set_option linter.all false
set_option maxRecDepth 100000
set_option maxHeartbeats 4000000
namespace DD
open PySem PySem.Spec PyProof.Rows L2
section
variable {X : Cx} {W : Fix} {ek e : Expr} {tk tv : TD} {pos : Pos}
def dDctT (tk tv : TD) : TD := fun δ Q => dp tk δ fun y δ1 => dp tv δ1 fun d δ2 => ∃ k, keyT y = some k ∧ Q (.o (.dcT [k] [d])) δ2
theorem de_dctT (hu : X.A.units + 64 < cLine) (hk : ∀ W, DE X W ek tk) (hv : ∀ W, DE X W e tv) : DE X W (.Dict [some ek] [e] pos) (dDctT tk tv) :=
  .of (pe_dispT (X := X) (tk := cE X ek) (tv := cE X e) hu cE_pe cE_pe) fun F H σ δ Q S q p hp => by
    have S1 := S.newO (o := .dT []) hp
    have h0 := S.fresh0 hp
    have hF := S.freshF hp
    have hP : W.P ≠ some p := fun z => by
      obtain ⟨_, ⟨o, z2⟩, _⟩ := S.fp p z
      rw [hp] at z2
      cases z2
    have Sh := S1.held (o := .dT []) upd_same h0 hF hP fun j c h1 h2 h3 => by
      obtain ⟨u, h4, h5⟩ := S.get j c h1
      rw [h3] at h4
      cases h4
      obtain ⟨a', o, z, h6, _⟩ := h5.there h2
      cases z
      rw [hp] at h6
      cases h6
    refine ((hk (W.hold p (.dT []))).plain Sh q).imp fun v H1 h1 => ?_
    obtain ⟨F1, y, δ1, e1, S2, r1, q1⟩ := h1
    refine ((hv (W.hold p (.dT []))).plain S2 q1).imp fun v2 H2 h2 => ?_
    obtain ⟨F2, d, δ2, e2, S3, r2, k, hk, q2⟩ := h2
    obtain ⟨S4, h3, hF1, hn⟩ := S3.unheld h0 (S.f0.free hF) hP
    cases y <;> first | (cases hk; done) | skip
    obtain ⟨b, xs, rfl, g1, g2⟩ := rpTupS (Rp.mono e2 _ _ r1)
    rw [keyL_vals g2 hk] at g1
    refine ⟨h3, b, k, rfl, S4.fh _ _ g1, ?_⟩
    exact ⟨F2, .o (.dcT [k] [d]), δ2, e1.trans e2, S4.turn h0 hF1 hn, ⟨p, rfl, hF1, h0, [v2], upd_same, .cons r2 .nil, rfl⟩, fun _ => hn, q2⟩
end
def dedup (ns : List Int) : List Int := firstMet (fun i => ns.getD i 0) ns.length
section
variable {X : Cx} {W : Fix} {a : Expr} {ta : TD} {p p2 q pos : Pos}
def tLenSetA (K : PySem.W.Frag) (ta : TE) : TE := fun σ H Q => ta σ H fun x H1 => ∃ (l : Addr) (ns : List Int), x = .ref l ∧ SqL K H1 l (ns.map V.int) ∧ ns.length ≤ 4094 ∧ Q (.int ((dedup ns).length : Nat)) H1
theorem dedup_len (ns : List Int) : (dedup ns).length ≤ ns.length := by
  have aux : ∀ i, (firstMet (fun i => ns.getD i 0) i).length ≤ i := fun i => by
    induction i with
    | zero => exact Nat.le_refl _
    | succ i ih =>
      rw [firstMet_succ]
      unfold step_dedup
      split
      · omega
      · rw [List.length_append, List.length_singleton]
        omega
  exact aux ns.length
theorem pe_lenSetA {ta : TE} (hc : X.calm = true) (hg : Gl X "len") (hm : X.mg "len" = none) (hg2 : Gl X "set") (hm2 : X.mg "set" = none) (ha : PE X a ta)
    (na : starEach [a] X.env = (false, eval a X.env) :: starEach [] X.env := by rfl) : PE X (.Call (.Name "len" p) [.Call (.Name "set" p2) [a] [] q] [] pos) (tLenSetA X.K ta) := by
  refine ⟨fun pins s σ H Q I h => ?_⟩
  refine Call_ (ld_blt I hg hm PySem.boot_len ?_)
  refine PyProof.Rows.callWith_builtin1 (PyProof.Rows.args_cons ?_ rfl) rfl rfl
  refine Call_ (ld_blt I hg2 hm2 PyProof.Rows.boot_set ?_)
  refine PyProof.Rows.callWith_type1 (PyProof.Rows.args_cons (thn (ha.run pins s σ H _ I h) fun v s1 ⟨x, H1, I1, r1, q1⟩ => PyProof.Rows.args_nil ?_) na) na rfl
  obtain ⟨l, ns, rfl, hq, h1, q1⟩ := q1
  cases r1
  obtain ⟨its, r, pl, hz⟩ := I1.list hq
  have hl : its.toArray.size = ns.length := by rw [List.size_toArray, ← r.length, List.length_map]
  refine call_set_list (I1.ok.hd hc) pl.isList (ns := ns) (by simpa using intsAre_of r) (by unfold scanBound; omega) fun h' tk hS hk => ?_
  rw [hl] at hS
  refine PyProof.Rows.args_nil ?_
  obtain ⟨o, es, ep, t, ho, hex, hd, _, _, _, hf, hn⟩ := hS
  have I2 : Inv X pins σ H1 { s1 with heap := h', toks := tk } := I1.kept fun b o e => hk b o (Heap.lt_size e) e
  have hb : (dedup ns).length ≤ ns.length := dedup_len ns
  have hn' : (dedup ns).length = _ := hn.symm
  exact call_len_set ho hex hd hf (by rw [hn]; show (((dedup ns).length : Nat) : Int) < _; omega) ⟨.int ((dedup ns).length : Nat), H1, I2.tok _, ⟨_, by rw [hn]; rfl⟩, q1⟩
def dLenSetA (ta : TD) : TD := fun δ Q => dp ta δ fun d δ1 => ∃ ns : List Int, d = .lst (ns.map D.int) ∧ ns.length ≤ 4094 ∧ Q (.p (.int ((dedup ns).length : Nat))) δ1
theorem de_lenSetA (hc : X.calm = true) (hm : X.mg "len" = none) (hm2 : X.mg "set" = none) (h : DE X W a ta) (hg : Gl X "len" := by exact rfl) (hg2 : Gl X "set" := by exact rfl)
    (na : starEach [a] X.env = (false, eval a X.env) :: starEach [] X.env := by rfl) : DE X W (.Call (.Name "len" p) [.Call (.Name "set" p2) [a] [] q] [] pos) (dLenSetA ta) :=
  .of (pe_lenSetA (X := X) hc hg hm hg2 hm2 cE_pe na) fun F H σ δ Q S z => by
    refine (h.plain S z).imp fun v H1 h1 => ?_
    obtain ⟨F1, d, δ1, e1, S1, r1, ns, rfl, hl, q1⟩ := h1
    obtain ⟨l, ys, rfl, h3, h4⟩ := rpLst r1
    rw [RpL.int h4] at h3
    exact ⟨l, ns, rfl, SqL.of (S1.fh _ _ h3), hl, (mkP (Q := fun b => Q b δ1) S1 rp_int q1).fix e1⟩
end
end DD

set_option Elab.async false
set_option linter.all false
set_option maxRecDepth 100000
set_option maxHeartbeats 4000000
namespace DD
open PySem PySem.Spec PyProof.Rows L2
theorem while_inv {tc : TDT} {tb : TSD} {Z : EndsD} (I : Nat → Env' → Prop)
    (step : ∀ m δ, I m δ → ∀ N : Env' → Prop, (∀ m' δ', m' < m → I m' δ' → N δ') → tc δ fun k δ1 => if k = true then tb { Z with nx := N, ct := N, bk := Z.nx } δ1 else Z.nx δ1) {m : Nat} {δ : Env'} (h : I m δ) : dWhile tc tb Z δ := by
  have key : ∀ m δ, I m δ → ∀ f, m ≤ f → whileN tc tb Z (f + 1) δ := by
    intro m
    induction m using Nat.strongRecOn with
    | _ m ih =>
      intro δ h f hf
      show tc δ fun k δ1 => if k = true then tb { Z with nx := whileN tc tb Z f, ct := whileN tc tb Z f, bk := Z.nx } δ1 else Z.nx δ1
      refine step m δ h _ fun m' δ' hm hi => ?_
      cases f with
      | zero => omega
      | succ f => exact ih m' hm δ' hi f (by omega)
  exact ⟨m + 1, key m δ h m (Nat.le_refl _)⟩
theorem forL_run {α : Type} (f : α → D) (I : List α → Env' → Prop) {g : TGD} {tb : TSD} {Z : EndsD} : ∀ {l pre : List α} {δ : Env'},
    (∀ (p : List α) (a : α) (r : List α) (δ : Env'), pre ++ l = p ++ a :: r → I p δ → ∀ N : Env' → Prop, (∀ δ', I (p ++ [a]) δ' → N δ') → g (f a) δ fun δ1 => tb { Z with nx := N, ct := N, bk := Z.nx } δ1) →
    (∀ δ, I (pre ++ l) δ → Z.nx δ) → I pre δ → forL g tb Z (l.map f) δ
  | [], pre, δ, _, hd, h => hd δ (by rw [List.append_nil]; exact h)
  | a :: l, pre, δ, hs, hd, h => by
    show g (f a) δ fun δ1 => tb { Z with nx := forL g tb Z (l.map f), ct := forL g tb Z (l.map f), bk := Z.nx } δ1
    refine hs pre a l δ rfl h _ fun δ' h' => ?_
    exact forL_run f I (l := l) (pre := pre ++ [a]) (fun p b r δ e => hs p b r δ (by rw [← e, List.append_assoc]; rfl)) (fun δ h => hd δ (by rw [List.append_assoc] at h; exact h)) h'
theorem upto_map {n : Nat} : upto 0 n = (List.range n).map fun i => D.int (i : Nat) := by
  unfold upto
  congr 1
  funext i
  rw [Int.zero_add]
theorem lcL_mapA {α : Type} {g : TGD} {tt : TDT} {te : TD} {vs : List Nat} {Q : List D → Env' → Prop} {δ : Env'} (f : α → D) (t : α → Bool) (h : α → D) (e1 e2 : α → Env') : ∀ {l : List α} {acc : List D},
    (∀ a ∈ l, ∀ (Y : D → Env' → Prop) (N : Env' → Prop), (t a = true → Y (h a) (e1 a)) → (t a = false → N (e2 a)) → g (f a) δ fun δ1 => tt δ1 fun k δ2 => if k = true then dp te δ2 Y else N δ2) →
    (∀ a ∈ l, wipeE (e1 a) vs = δ ∧ wipeE (e2 a) vs = δ) → acc.length + l.length ≤ sizeLine → Q (acc ++ (l.filter t).map h) δ → lcL g tt te vs Q (l.map f) acc δ
  | [], acc, _, _, _, q => by
    have q : Q (acc ++ []) δ := q
    rw [List.append_nil] at q
    exact q
  | a :: l, acc, hs, hw, hz, q => by
    obtain ⟨w1, w2⟩ := hw a List.mem_cons_self
    rw [List.length_cons] at hz
    refine hs a List.mem_cons_self _ _ (fun hf => ⟨by omega, ?_⟩) fun hf => ?_
    · rw [w1]
      refine lcL_mapA f t h e1 e2 (fun d' hd' => hs d' (List.mem_cons_of_mem _ hd')) (fun d' hd' => hw d' (List.mem_cons_of_mem _ hd')) (by rw [List.length_append, List.length_singleton]; omega) ?_
      rw [List.filter_cons_of_pos hf, List.map_cons] at q
      rw [List.append_assoc]
      exact q
    · rw [w2]
      refine lcL_mapA f t h e1 e2 (fun d' hd' => hs d' (List.mem_cons_of_mem _ hd')) (fun d' hd' => hw d' (List.mem_cons_of_mem _ hd')) (by omega) ?_
      rw [List.filter_cons_of_neg (by rw [hf]; decide)] at q
      exact q
theorem lcL_allA {α : Type} {g : TGD} {tt : TDT} {te : TD} {vs : List Nat} {Q : List D → Env' → Prop} {δ : Env'} (f h : α → D) (e1 : α → Env') {l : List α} {acc : List D}
    (hs : ∀ a ∈ l, ∀ (Y : D → Env' → Prop) (N : Env' → Prop), Y (h a) (e1 a) → g (f a) δ fun δ1 => tt δ1 fun k δ2 => if k = true then dp te δ2 Y else N δ2)
    (hw : ∀ a ∈ l, wipeE (e1 a) vs = δ) (hz : acc.length + l.length ≤ sizeLine) (q : Q (acc ++ l.map h) δ) : lcL g tt te vs Q (l.map f) acc δ :=
  lcL_mapA f (fun _ => true) h e1 e1 (fun a ha Y N y n => hs a ha Y N (y rfl)) (fun a ha => ⟨hw a ha, hw a ha⟩) hz (by rw [show l.filter (fun _ => true) = l from List.filter_eq_self.mpr fun _ _ => rfl]; exact q)
theorem dcL_mapA {α : Type} {g : TGD} {tt : TDT} {tk tv : TD} {vs : List Nat} {Q : List Key → List D → Env' → Prop} {δ : Env'} (f kd fv : α → D) (fk : α → Key) (e1 : α → Env') : ∀ {l : List α} {ks : List Key} {es : List D},
    (∀ a ∈ l, ∀ (Y : D → D → Env' → Prop) (N : Env' → Prop), Y (kd a) (fv a) (e1 a) → g (f a) δ fun δ1 => tt δ1 fun k δ2 => if k = true then dp tk δ2 fun y δ3 => dp tv δ3 fun z δ4 => Y y z δ4 else N δ2) →
    (∀ a ∈ l, keyD (kd a) = some (fk a) ∧ wipeE (e1 a) vs = δ) → ks.length + l.length ≤ sizeLine → (∀ a ∈ l, fk a ∉ ks) → (l.map fk).Nodup → Q (ks ++ l.map fk) (es ++ l.map fv) δ → dcL g tt tk tv vs Q (l.map f) ks es δ
  | [], ks, es, _, _, _, _, _, q => by
    have q : Q (ks ++ []) (es ++ []) δ := q
    rw [List.append_nil, List.append_nil] at q
    exact q
  | d :: ds, ks, es, hs, hw, hz, hn, hd, q => by
    obtain ⟨w1, w2⟩ := hw d List.mem_cons_self
    rw [List.length_cons] at hz
    refine hs d List.mem_cons_self (fun y z δ4 => ∃ c, keyD y = some c ∧ ks.length < sizeLine ∧ dcL g tt tk tv vs Q (ds.map f) (putG ks es c z).1 (putG ks es c z).2 (wipeE δ4 vs)) (fun δ2 => dcL g tt tk tv vs Q (ds.map f) ks es (wipeE δ2 vs)) ⟨fk d, w1, by omega, ?_⟩
    rw [w2, putG_new (hn d List.mem_cons_self)]
    rw [List.map_cons, List.nodup_cons] at hd
    refine dcL_mapA f kd fv fk e1 (fun d' hd' => hs d' (List.mem_cons_of_mem _ hd')) (fun d' hd' => hw d' (List.mem_cons_of_mem _ hd')) (by rw [List.length_append, List.length_singleton]; omega) (fun d' hd' => ?_) hd.2 ?_
    · rw [List.mem_append, List.mem_singleton]
      rintro (z | z)
      · exact hn d' (List.mem_cons_of_mem _ hd') z
      · exact hd.1 (List.mem_map.mpr ⟨d', hd', z⟩)
    · rw [List.append_assoc, List.append_assoc]
      exact q
theorem enumD_map {α : Type} {f : α → D} : ∀ {l : List α} {k : Nat}, enumD k (l.map f) = (l.zipIdx k).map fun p => D.tup [.int (p.2 : Nat), f p.1]
  | [], _ => rfl
  | a :: l, k => by
    show D.tup [.int (k : Nat), f a] :: enumD (k + 1) (l.map f) = _
    rw [enumD_map, List.zipIdx_cons, List.map_cons]
theorem zipIdx_fst {α β : Type} (g : α → β) : ∀ {l : List α} {k : Nat}, (l.zipIdx k).map (fun p => g p.1) = l.map g
  | [], _ => rfl
  | a :: l, k => by rw [List.zipIdx_cons, List.map_cons, List.map_cons, zipIdx_fst g]
theorem zipIdx_snd {α β : Type} (g : Nat → β) : ∀ {l : List α} {k : Nat}, (l.zipIdx k).map (fun p => g p.2) = (List.range' k l.length).map g
  | [], _ => rfl
  | a :: l, k => by
    rw [List.zipIdx_cons, List.map_cons, zipIdx_snd g, List.length_cons]
    rfl
section
variable {X : Cx} {W : Fix} {pos : Pos}
def dDctT0 : TD := fun δ Q => Q (.o (.dcT [] [])) δ
theorem de_dctT0 : DE X W (.Dict [] [] pos) dDctT0 := .of (pe_dnewT (X := X)) fun F H σ δ Q S q p hp => .mkO (d := .dcT [] []) S hp ⟨[], upd_same, .nil, rfl⟩ q
end
theorem lookG_map {α κ : Type} [DecidableEq κ] {f : α → κ} {g : α → D} (hf : ∀ a b, f a = f b → a = b) : ∀ {l : List α} {a : α}, a ∈ l → lookG (l.map f) (l.map g) (f a) = some (g a)
  | b :: l, a, h => by
    show (if f b = f a then some (g b) else lookG (l.map f) (l.map g) (f a)) = some (g a)
    by_cases e : f b = f a
    · rw [if_pos e, hf b a e]
    · rw [if_neg e]
      rcases List.mem_cons.mp h with rfl | h
      · exact absurd rfl e
      · exact lookG_map hf h
theorem lookG_not {κ : Type} [DecidableEq κ] {k : κ} : ∀ {ks : List κ} {ds : List D}, k ∉ ks → lookG ks ds k = none
  | [], _, _ => by simp [lookG]
  | _ :: _, [], _ => by simp [lookG]
  | j :: ks, d :: ds, h => by
    rw [List.mem_cons, not_or] at h
    unfold lookG
    rw [if_neg (fun z => h.1 z.symm)]
    exact lookG_not h.2
theorem lookG_at {κ : Type} [DecidableEq κ] {k : κ} {d : D} : ∀ {ks : List κ} {ds : List D} {i : Nat}, ks.Nodup → ks[i]? = some k → ds[i]? = some d → lookG ks ds k = some d
  | [], _, i, _, h, _ => by simp at h
  | j :: ks, [], i, _, _, h => by simp at h
  | j :: ks, d' :: ds, 0, _, h, g => by
    simp at h g
    subst h g
    unfold lookG
    rw [if_pos rfl]
  | j :: ks, d' :: ds, i + 1, n, h, g => by
    rw [List.nodup_cons] at n
    rw [List.getElem?_cons_succ] at h g
    unfold lookG
    rw [if_neg (fun z => n.1 (by rw [z]; exact List.mem_of_getElem? h))]
    exact lookG_at n.2 h g
theorem atI_map {α : Type} {f : α → D} {l : List α} {i : Nat} {a : α} (h : l[i]? = some a) : atI (l.map f) (i : Int) = some (f a) := atI_nat (by rw [List.getElem?_map, h]; rfl)
end DD

set_option Elab.async false
set_option linter.all false
set_option maxRecDepth 100000
set_option maxHeartbeats 4000000
namespace DD
open PySem PySem.Spec PyProof.Rows L2
def rNil (K : PySem.W.Frag) (t : Bool) : R2 := fun x y H Q => ∃ a b xs, x = .ref a ∧ y = .ref b ∧ SqL K H a xs ∧ SqL K H b [] ∧ Q (.bl (xs.isEmpty == t)) H
theorem nil_sizes {its itb : List Value} {xs : List V} (rv : Vals xs its) (rb : Vals [] itb) : itb.toArray.size = 0 ∧ (its.toArray.size = 0 ↔ xs.isEmpty = true) := by
  constructor
  · cases rb
    rfl
  · cases rv
    · exact ⟨fun _ => rfl, fun _ => rfl⟩
    · exact ⟨fun z => (by cases z), fun z => (by cases z)⟩
theorem op_eqNil {X : Cx} (hu : X.A.units + 64 < cLine) : OpR X (compareOp .Eq) (rNil X.K true) := by
  intro pins s σ H x y v u Q I rx ry h
  obtain ⟨a, b, xs, rfl, rfl, h1, h2, q⟩ := h
  cases rx
  cases ry
  obtain ⟨its, rv, ⟨o, n, ho, hc, _, hd⟩, _⟩ := I.list h1
  obtain ⟨itb, rb, ⟨o2, n2, ho2, hc2, _, hd2⟩, _⟩ := I.list h2
  obtain ⟨z1, z2⟩ := nil_sizes rv rb
  have l1 : s.heap.IsList a its.toArray := ⟨o, ho, hc, n, hd⟩
  have l2 : s.heap.IsList b itb.toArray := ⟨o2, ho2, hc2, n2, hd2⟩
  by_cases hz : its.toArray.size = 0
  · rw [z2.mp hz] at q
    have e : (List.range its.toArray.size).all (fun _ => true) = true := by rw [hz]; rfl
    refine SeqAt.eq_listAt (e := fun _ => true) l1 l2 (by omega) (by omega) (fun j h1 _ => by omega) ?_
    rw [e]
    exact ⟨.bl _, H, I, rfl, q⟩
  · have e : xs.isEmpty = false := by
      cases w : xs.isEmpty with
      | false => rfl
      | true => exact absurd (z2.mpr w) hz
    rw [e] at q
    exact SeqAt.eq_list_lengthsAt l1 l2 (by rw [z1]; exact bne_iff_ne.mpr hz) (by omega) ⟨.bl _, H, I, rfl, q⟩
theorem op_neNil {X : Cx} (hu : X.A.units + 64 < cLine) : OpR X (compareOp .NotEq) (rNil X.K false) := by
  intro pins s σ H x y v u Q I rx ry h
  obtain ⟨a, b, xs, rfl, rfl, h1, h2, q⟩ := h
  cases rx
  cases ry
  obtain ⟨its, rv, ⟨o, n, ho, hc, _, hd⟩, _⟩ := I.list h1
  obtain ⟨itb, rb, ⟨o2, n2, ho2, hc2, _, hd2⟩, _⟩ := I.list h2
  obtain ⟨z1, z2⟩ := nil_sizes rv rb
  have l1 : s.heap.IsList a its.toArray := ⟨o, ho, hc, n, hd⟩
  have l2 : s.heap.IsList b itb.toArray := ⟨o2, ho2, hc2, n2, hd2⟩
  by_cases hz : its.toArray.size = 0
  · rw [z2.mp hz] at q
    have e : (List.range its.toArray.size).all (fun _ => true) = true := by rw [hz]; rfl
    refine SeqAt.RcNeAt.lists (e := fun _ => true) l1 l2 (by omega) (by omega) (fun j h1 _ => by omega) _ _ _ _ ?_
    rw [e]
    exact ⟨.bl _, H, I, rfl, q⟩
  · have e : xs.isEmpty = false := by
      cases w : xs.isEmpty with
      | false => rfl
      | true => exact absurd (z2.mpr w) hz
    rw [e] at q
    exact SeqAt.RcNeAt.lists_lengths l1 l2 (by rw [z1]; exact bne_iff_ne.mpr hz) (by omega) _ _ _ _ ⟨.bl _, H, I, rfl, q⟩
def nilG (t : Bool) : D → D → (B → Prop) → Prop := fun x y Q => ∃ ds, x = .lst ds ∧ y = .lst [] ∧ Q (.p (.bl (ds.isEmpty == t)))
theorem rd_nil {K : PySem.W.Frag} {t : Bool} : RD K (rNil K t) (nilG t) := by
  intro W F H σ δ x y c d Q Z S rc rd g hZ
  obtain ⟨ds, rfl, rfl, q⟩ := g
  obtain ⟨a, xs, rfl, h1, h2⟩ := rpLst rc
  obtain ⟨b, ys, rfl, h3, h4⟩ := rpLst rd
  cases h4
  refine ⟨a, b, xs, rfl, rfl, SqL.of (S.fh _ _ h1), SqL.of (S.fh _ _ h3), hZ _ _ (mkP (d := .bl _) S rp_bl ?_)⟩
  have e : xs.isEmpty = ds.isEmpty := by
    have := h2.length
    cases xs <;> cases ds <;> first | rfl | cases this
  rw [e]
  exact q
def nilL (t : Bool) (c d : D) (Q : D → Prop) : Prop := ∃ ds, c = .lst ds ∧ d = .lst [] ∧ Q (.bl (ds.isEmpty == t))
theorem forL_ds (I : List D → Env' → Prop) {g : TGD} {tb : TSD} {Z : EndsD} {l : List D} {δ : Env'}
    (h : ∀ (p : List D) (a : D) (r : List D) (δ : Env'), l = p ++ a :: r → I p δ → ∀ N : Env' → Prop, (∀ δ', I (p ++ [a]) δ' → N δ') → g a δ fun δ1 => tb { Z with nx := N, ct := N, bk := Z.nx } δ1)
    (hd : ∀ δ, I l δ → Z.nx δ) (h0 : I [] δ) : forL g tb Z l δ := by
  have := forL_run (fun x => x) I (g := g) (tb := tb) (Z := Z) (l := l) (pre := []) (δ := δ) (fun p a r δ e => h p a r δ (by rw [List.nil_append] at e; exact e)) (fun δ => hd δ) h0
  rw [List.map_id'] at this
  exact this
end DD

set_option Elab.async false
set_option linter.all false
set_option maxRecDepth 100000
set_option maxHeartbeats 4000000
namespace DD
open PySem PySem.Spec PyProof.Rows L2
section
variable {prog : Program} {w : World} {A : Around} {E : Value → Shared → Prop} {s : Shared} {K : PySem.W.Frag} {x C f : Addr} {ox : Obj} {od : Option Obj} {b : Value} {op : Operator} {Q : Value → Shared → Prop}
theorem own_try (KX : K.In s.heap) (I : PySem.W.InstAt s.heap x ox C od) {name : Str} (hs : PySem.W.findIn K (.ref C) name = some (some (.ref f))) (hf : PySem.W.isFn K (.ref f) = true)
    (h : wpAny (model prog w) A (call (.ref f) [.ref x, b]) (PySem.W.CmpBack Q) E s) : wpAny (model prog w) A (tryMethod (.ref x) name b) (fun r s' => ∃ v, r = some v ∧ Q v s') E s := PySem.W.ksp_try KX I hs hf h
theorem own_fills (KX : K.In s.heap) (hc : PySem.W.selfFirst K C = true) {nm : String} (hs : PySem.W.findIn K (.ref C) (PySem.dunder nm) = some (some (.ref f))) : PySem.W.Looks (model prog w) s.heap (fillsNumberSlot (.ref C) nm) true := by
  obtain ⟨cd, rest, h1, h2⟩ := PySem.W.ksp_first hc
  exact PySem.W.fills_K KX h1 h2 hs
theorem bin_one (KX : K.In s.heap) (I : PySem.W.InstAt s.heap x ox C od) (ty : PySem.W.Looks (model prog w) s.heap (typeOf b) (.ref C)) (hc : PySem.W.selfFirst K C = true)
    (hs : PySem.W.findIn K (.ref C) (PySem.dunder op.info.2) = some (some (.ref f))) (hf : PySem.W.isFn K (.ref f) = true)
    (go : wpAny (model prog w) A (call (.ref f) [.ref x, b]) (PySem.W.CmpBack Q) E s) : wpAny (model prog w) A (binaryOp op (.ref x) b) Q E s := by
  have one := own_try KX I hs hf go
  have fl := own_fills (prog := prog) (w := w) KX hc hs
  have tx := I.type (M := model prog w)
  unfold binaryOp
  apply wpAny_holding
  apply wpAny_bind
  unfold binaryOp1
  apply wpAny_bind
  refine tx.here ?_
  apply wpAny_bind
  refine ty.here ?_
  apply wpAny_bind
  refine fl.here ?_
  rw [if_pos (beq_self_eq_true (Value.ref C))]
  apply wpAny_bind
  apply wpAny_pure
  simp only [Bool.and_false, Bool.false_and, if_neg Bool.false_ne_true]
  apply wpAny_bind
  apply wpAny_pure
  simp only [if_neg Bool.false_ne_true]
  apply wpAny_bind
  refine wpAny_mono one (fun r s' z => ?_) fun _ _ e => e
  obtain ⟨v, rfl, hq⟩ := z
  exact wpAny_pure (wpAny_pure hq)
theorem bin_built {T mn sg : String} {fo ro rc : Option Value} (io : op.info = (sg, mn)) (KX : K.In s.heap) (I : PySem.W.InstAt s.heap x ox C od) (ty : PySem.W.Looks (model prog w) s.heap (typeOf b) (.type T)) (hc : PySem.W.selfFirst K C = true)
    (hs : PySem.W.findIn K (.ref C) (PySem.dunder mn) = some (some (.ref f))) (hf : PySem.W.isFn K (.ref f) = true)
    (hr : PySem.W.findIn K (.ref C) (dunderR mn) = some rc) (hp : rc = none ∨ ∃ g : Addr, rc = some (.ref g))
    (b1 : PySem.W.findIn K (.type T) (PySem.dunder mn) = some fo) (b2 : PySem.W.findIn K (.type T) (dunderR mn) = some ro) (ns : PySem.W.subIn K (.type T) (.ref C) = some false)
    (go : wpAny (model prog w) A (call (.ref f) [.ref x, b]) (PySem.W.CmpBack Q) E s) : wpAny (model prog w) A (binaryOp op (.ref x) b) Q E s := by
  obtain ⟨hh, g, d, tt, os⟩ := s
  have KX : K.In hh := KX
  have k2 : PySem.W.Looks (model prog w) hh (typeOf b) (.type T) := ty
  have one := own_try KX I hs hf go
  have k3 : PySem.W.Looks (model prog w) hh (fillsNumberSlot (.ref C) mn) true := own_fills (prog := prog) (w := w) (s := ⟨hh, g, d, tt, os⟩) KX hc hs
  have k1 : PySem.W.Looks (model prog w) hh (typeOf (.ref x)) (.ref C) := I.type (M := model prog w)
  have k4 : PySem.W.Looks (model prog w) hh (fillsNumberSlot (.type T) mn) ((fo.isSome && !isSeqSlot fo) || (ro.isSome && !isSeqSlot ro)) := PySem.W.ksp_fillsT KX b1 b2
  have k5 : PySem.W.Looks (model prog w) hh (isSubtype (.type T) (.ref C)) false := PySem.W.looks_subIn KX ns
  have k6 : PySem.W.Looks (model prog w) hh (numberSlotInPython (.ref C) mn) true := PySem.W.ksp_inPy KX hs hr hp
  have k7 : PySem.W.Looks (model prog w) hh (numberSlotInPython (.type T) mn) false := PySem.W.Looks.of_pure rfl
  have k8 : PySem.W.Looks (model prog w) hh (typeLookup (.type T) (dunderR mn)) ro := PySem.W.looks_findIn KX b2
  generalize ((fo.isSome && !isSeqSlot fo) || (ro.isSome && !isSeqSlot ro)) = rt at k4
  have ne : (Value.ref C == Value.type T) = false := by
    rw [Bool.eq_false_iff]
    intro z
    cases beq_iff_eq.mp z
  simp only [binaryOp, io]
  apply wpAny_holding
  apply wpAny_bind
  unfold binaryOp1
  apply wpAny_bind
  refine k1.at ?_
  apply wpAny_bind
  refine k2.at ?_
  apply wpAny_bind
  refine k3.at ?_
  simp only [ne, if_neg Bool.false_ne_true]
  have fin : ∀ (r : Option Value) (s' : Shared), (∃ v, r = some v ∧ Q v s') → True := fun _ _ _ => trivial
  cases rt with
  | false =>
    repeat ((fail_if_success (with_reducible show wpAny _ _ (tryMethod _ _ _) _ _ _)); lk)
    refine wpAny_mono one (fun r s' z => ?_) fun _ _ e => e
    obtain ⟨v, rfl, hq⟩ := z
    repeat ((fail_if_success (with_reducible exact hq)); lk)
    exact hq
  | true =>
    repeat ((fail_if_success (with_reducible show wpAny _ _ (tryMethod _ _ _) _ _ _)); lk)
    refine wpAny_mono one (fun r s' z => ?_) fun _ _ e => e
    obtain ⟨v, rfl, hq⟩ := z
    repeat ((fail_if_success (with_reducible exact hq)); lk)
    exact hq
theorem inv_own (KX : K.In s.heap) (I : PySem.W.InstAt s.heap x ox C od) (hs : PySem.W.findIn K (.ref C) "__invert__" = some (some (.ref f))) (hf : PySem.W.isFn K (.ref f) = true)
    (go : wpAny (model prog w) A (call (.ref f) [.ref x]) Q E s) : wpAny (model prog w) A (unaryOp .Invert (.ref x)) Q E s := by
  unfold unaryOp
  apply wpAny_holding
  apply wpAny_bind
  refine PySem.W.special_fn KX I hs (beq_iff_eq.mp hf) (wpAny_mono go (fun _ _ z => ?_) fun _ _ e => e)
  exact wpAny_pure z
end

structure BinK (K : PySem.W.Frag) (C : Addr) (mn : String) : Prop where
  self : PySem.W.selfFirst K C = true
  rv : PySem.W.findIn K (.ref C) (dunderR mn) = some none
  ty : (tyNames.all fun t => (PySem.W.findIn K (.type t) (PySem.dunder mn)).isSome && (PySem.W.findIn K (.type t) (dunderR mn)).isSome && PySem.W.subIn K (.type t) (.ref C) == some false) = true
inductive TyB (K : PySem.W.Frag) (C : Addr) : D → Prop where
  | dat {d : D} (h : dat d = true) : TyB K C d
  | ins {ns : List Str} {ds : List D} (h : InsOk K C) : TyB K C (.ins C ns ds)
section
variable {X : Cx} {W : Fix} {k k' : Nat} {C : Addr} {op : Operator} {m : Str} {spd : Spd} {E0 : Addr → List D → Env' → Prop} {a b : Expr} {ta tb : TD} {pos : Pos}
def rBinI (C : Addr) (K : PySem.W.Frag) (sp : Sp) (E : XK) : R2 := fun x y H Q => ∃ a dx fs t, x = .ref a ∧ H a = some (.ins C dx fs) ∧ TyX K H y t ∧ (t = .ref C ∨ ∃ T, t = .type T ∧ T ∈ tyNames) ∧ sp [x, y] H Q E
theorem op_binI {sg mn : String} (io : op.info = (sg, mn)) {f : Addr} {fd : FuncData} {sp : Sp} {E : XK} (gu : X.A.guards = some []) (hr : Room k X.A) (cl : Cls X.K C) (bk : BinK X.K C mn) (hm : Meth X.K C (PySem.dunder mn) f)
    (G : GnOk X.prog X.w X.K X.mg X.base k f fd ["self", "other"] sp) (hb : Binds X.K fd ["self", "other"] []) {pins : List (Addr × Obj)} {s : Shared} {σ : L2.St} {H : Hp} {x y : V} {u v : Value} {Q : VK} (hx : ∀ (e : Value) (s' : Shared), L2N.CX X.prog X.w X.stack H s E e s' → X.xe e s')
    (I : Inv X pins σ H s) (rx : RelV x u) (ry : RelV y v) (h : rBinI C X.K sp E x y H Q) : wpAny (model X.prog X.w) X.A (binaryOp op u v) (EP X pins σ Q) X.xe s := by
  obtain ⟨a, dx, fs, t, rfl, ha, ty, tk, q⟩ := h
  obtain rfl : u = Value.ref a := rx
  obtain ⟨mA, O, _⟩ := ins_get I.hok ha
  obtain ⟨od, J, _⟩ := O.look
  obtain ⟨P, z, hp, _⟩ := kit_of I ry ty
  have go : wpAny (model X.prog X.w) X.A (call (.ref f) [.ref a, v]) (PySem.W.CmpBack (EP X pins σ Q)) X.xe s := wpAny_mono (run_g (dvs := []) (dfs := []) (us := [.ref a, v]) (vs := [.ref a, y]) G gu hr hb .nil hx I (.cons rfl (.cons ry .nil)) (by rw [List.append_nil]; exact q)) (fun r s' hq => by
    obtain ⟨w, H', I', rw', q'⟩ := hq
    by_cases hr : r = .notImplemented
    · subst hr
      cases w <;> first | exact rw'.elim | exact nomatch rw' | (obtain ⟨_, z⟩ := rw'; exact nomatch z)
    · unfold PySem.W.CmpBack
      split
      · exact hr rfl
      · exact ⟨w, H', I', rw', q'⟩) fun _ _ e => e
  have hs := hm.at_
  rcases tk with rfl | ⟨T, rfl, hT⟩
  · refine bin_one I.kIn J (z.ty _ _ I.kIn hp) bk.self ?_ hm.fn go
    rw [io]
    exact hs
  · have e := List.all_eq_true.mp bk.ty T hT
    rw [Bool.and_eq_true, Bool.and_eq_true] at e
    obtain ⟨⟨e1, e2⟩, e3⟩ := e
    obtain ⟨fo, e1⟩ := Option.isSome_iff_exists.mp e1
    obtain ⟨ro, e2⟩ := Option.isSome_iff_exists.mp e2
    exact bin_built io I.kIn J (z.ty _ _ I.kIn hp) bk.self hs hm.fn bk.rv (.inl rfl) e1 e2 (beq_iff_eq.mp e3) go
def dBin (K : PySem.W.Frag) (C : Addr) (spd : Spd) (Ew : Addr → List D → Env' → Prop) (ta tb : TD) : TD := fun δ Q => dp ta δ fun x δ1 => dp tb δ1 fun y δ2 => (∃ ns ds, x = .ins C ns ds) ∧ TyB K C y ∧ spd [.p x, .p y] (fun b _ => b.isU = false ∧ Q b δ2) fun C' es _ => Ew C' es δ2
theorem bin_run {Es : L2.St → XK} {Ew : Addr → List D → Env' → Prop} {sg mn : String} (io : op.info = (sg, mn)) (c : MethC X.prog X.w X.K X.mg X.base C (PySem.dunder mn) k ["self", "other"] spd) (bk : BinK X.K C mn) (gu : X.A.guards = some []) (hr : Room k X.A) (ha : DE X W a ta) (hb : DE X W b tb)
    (hx : ∀ σ, PassesAt (L2N.CX X.prog X.w) X σ (Es σ)) (hE : ∀ (F1 F' H' : Hp) (σ : L2.St) (δ : Env') (C' : Addr) (es : List D) (cls : Value) (d : Option Addr), SD X.K W F' H' σ δ → ExcRep X.K F' C' es cls d → Ew C' es δ → Es σ cls d H') : DE X W (.BinOp a op b pos) (dBin X.K C spd Ew ta tb) := by
  obtain ⟨f, fd, cl, hm, G, bb⟩ := c.ex
  refine ⟨fun F H σ δ Q S q pins s I => wpAny_BinOp (binT (R := fun x y H2 => rBinI C X.K (toSp X.K spd) (Es σ) x y H2 (DQ X.K W F σ Q)) cE_pe cE_pe I ?_ fun v u s2 x y H2 I2 rx ry q => op_binI io gu hr cl bk hm G bb (fun e s' cc => hx σ pins H2 s2 e s' I2 cc) I2 rx ry q)⟩
  refine (ha.plain S q).imp fun x H1 h1 => ?_
  obtain ⟨F1, c, δ1, e1, S1, r1, q1⟩ := h1
  refine (hb.plain S1 q1).imp fun y H2 h2 => ?_
  obtain ⟨F2, d, δ2, e2, S2, r2, ⟨ns, ds, rfl⟩, ty, q2⟩ := h2
  have r0 := Rp.mono e2 _ _ r1
  have r3 := r0
  unfold Rp at r3
  obtain ⟨a', dx, zs, rfl, g1, _⟩ := r3
  have tt : ∃ t, TyX X.K H2 y t ∧ (t = .ref C ∨ ∃ T, t = .type T ∧ T ∈ tyNames) := by
    cases ty with
    | dat h =>
      unfold dat at h
      obtain ⟨T, hT⟩ := Option.isSome_iff_exists.mp h
      exact ⟨_, rp_tyX S2.fh r2 hT, .inr ⟨T, rfl, ty_mem hT⟩⟩
    | ins h =>
      unfold Rp at r2
      obtain ⟨a2, dx2, zs2, rfl, g2, _⟩ := r2
      exact ⟨_, .base (.ins (S2.fh _ _ g2) h.c h.ha h.hn h.htk h.hm), .inl rfl⟩
  obtain ⟨t, t1, t2⟩ := tt
  refine ⟨a', dx, _, t, rfl, S2.fh _ _ g1, t1, t2, F2, none, [.p (.ins C ns ds), .p d], _, _, S2.fh, .cons r0 (.cons r2 .nil), (fun p e => by cases e), q2, fun v H' F' b m af r z => ?_, fun cls dd H' F' C' es m af er z => ?_⟩
  · obtain ⟨r5, r6⟩ := RB.of_res S2 z.1 r
    exact ⟨F', b, δ2, (e1.trans e2).trans af.ff, S2.after af, r5, r6, z.2⟩
  · exact hE F2 F' H' σ δ2 C' es cls dd (S2.after af) er z
theorem de_bin {sg mn : String} (c : MethC X.prog X.w X.K X.mg X.base C (PySem.dunder mn) k ["self", "other"] spd) (bk : BinK X.K C mn) (gu : X.A.guards = some []) (hr : Room k' X.A) (ha : DE X W a ta) (hb : DE X W b tb) (io : op.info = (sg, mn) := by rfl) (hk : k ≤ k' := by decide) :
    DE X W (.BinOp a op b pos) (dBin X.K C spd (fun _ _ _ => False) ta tb) :=
  bin_run (Es := fun _ _ _ _ => False) io c bk gu (hr.mono hk) ha hb (fun σ => pass_none) fun _ _ _ _ _ _ _ _ _ _ _ z => z.elim
def dInv (C : Addr) (spd : Spd) (ta : TD) : TD := fun δ Q => dp ta δ fun x δ1 => (∃ ns ds, x = .ins C ns ds) ∧ spd [.p x] (fun b _ => b.isU = false ∧ Q b δ1) fun _ _ _ => False
theorem de_inv (c : MethC X.prog X.w X.K X.mg X.base C "__invert__" k ["self"] spd) (gu : X.A.guards = some []) (hr : Room k' X.A) (ha : DE X W a ta) (hk : k ≤ k' := by decide) : DE X W (.UnaryOp .Invert a pos) (dInv C spd ta) := by
  obtain ⟨f, fd, cl, hm, G, bb⟩ := c.ex
  have ur : UnR X (unaryOp .Invert) (fun x H Q => ∃ a dx fs, x = .ref a ∧ H a = some (.ins C dx fs) ∧ toSp X.K spd [x] H Q fun _ _ _ => False) := by
    intro pins s σ H x u Q I rx h
    obtain ⟨a, dx, fs, rfl, ea, q⟩ := h
    obtain rfl : u = Value.ref a := rx
    obtain ⟨mA, O, _⟩ := ins_get I.hok ea
    obtain ⟨od, J, _⟩ := O.look
    exact inv_own I.kIn J hm.at_ hm.fn (run_g (dvs := []) (dfs := []) (us := [.ref a]) (vs := [.ref a]) G gu (hr.mono hk) bb .nil (fun e s' cc => pass_none pins H s e s' I cc) I (.cons rfl .nil) q)
  refine .of (pe_un ur cE_pe) fun F H σ δ Q S q => ?_
  refine (ha.plain S q).imp fun x H1 h1 => ?_
  obtain ⟨F1, c, δ1, e1, S1, r1, ⟨ns, ds, rfl⟩, q1⟩ := h1
  have r0 := r1
  unfold Rp at r1
  obtain ⟨a', dx, zs, rfl, g1, _⟩ := r1
  refine ⟨a', dx, _, rfl, S1.fh _ _ g1, F1, none, [.p (.ins C ns ds)], _, _, S1.fh, .cons r0 .nil, (fun p e => by cases e), q1, fun v H' F' b m af r z => ?_, fun cls dd H' F' C' es m af er z => z.elim⟩
  obtain ⟨r5, r6⟩ := RB.of_res S1 z.1 r
  exact ⟨F', b, δ1, e1.trans af.ff, S1.after af, r5, r6, z.2⟩
end
end DD

set_option Elab.async false
set_option linter.all false
set_option maxRecDepth 100000
set_option maxHeartbeats 4000000
namespace DD
open PySem PySem.Spec PyProof.Rows L2
section
variable {X : Cx} {W : Fix} {k k' : Nat} {C : Addr} {op : CmpOp} {m : Str} {spd : Spd} {E0 : Addr → List D → Env' → Prop} {a b : Expr} {ta tb : TD} {pos : Pos}
def IsRich (op : CmpOp) : Prop := ∀ {M : Model} {A : Around} {E : Value → Shared → Prop} {s : Shared} {a b : Value} {Q : Value → Shared → Prop}, wpAny M A (richCompare op a b) Q E s → wpAny M A (compareOp op a b) Q E s
theorem rich_LtE : IsRich .LtE := PySem.W.cmp_ofLtE
theorem rich_Lt : IsRich .Lt := PySem.W.cmp_ofLt
theorem rich_GtE : IsRich .GtE := PySem.W.cmp_ofGtE
theorem rich_Gt : IsRich .Gt := PySem.W.cmp_ofGt
theorem rich_Eq : IsRich .Eq := PySem.W.cmp_ofEq
def rCmpX (C : Addr) (K : PySem.W.Frag) (sp : Sp) (E : XK) : R2 := fun x y H Q => ∃ a dx fs t, x = .ref a ∧ H a = some (.ins C dx fs) ∧ TyX K H y t ∧ PySem.W.notFirst K C t = true ∧ sp [x, y] H (fun v H' => (∃ b, v = .bl b) ∧ Q v H') E
theorem op_cmpX (hop : IsRich op) (hm : (cmpInfo op).2.1 = m) {f : Addr} {fd : FuncData} {sp : Sp} {E : XK}
    (gu : X.A.guards = some []) (hr : Room k X.A) (h1 : PySem.W.findIn X.K (.ref C) m = some (some (.ref f))) (h2 : PySem.W.isFn X.K (.ref f) = true) (G : GnOk X.prog X.w X.K X.mg X.base k f fd ["self", "other"] sp) (hb : Binds X.K fd ["self", "other"] [])
    {pins : List (Addr × Obj)} {s : Shared} {σ : L2.St} {H : Hp} {x y : V} {u v : Value} {Q : VK} (hx : ∀ (e : Value) (s' : Shared), L2N.CX X.prog X.w X.stack H s E e s' → X.xe e s')
    (I : Inv X pins σ H s) (rx : RelV x u) (ry : RelV y v) (h : rCmpX C X.K sp E x y H Q) : wpAny (model X.prog X.w) X.A (compareOp op u v) (EP X pins σ Q) X.xe s := by
  obtain ⟨a, dx, fs, t, rfl, ha, ty, nf, q⟩ := h
  obtain rfl : u = Value.ref a := rx
  obtain ⟨mA, O, _⟩ := ins_get I.hok ha
  obtain ⟨od, J, _⟩ := O.look
  obtain ⟨P, z, hp, _⟩ := kit_of I ry ty
  subst hm
  refine hop (cmp_own (hr.units0) I.kIn J (z.ty _ _ I.kIn hp) nf h1 h2 (wpAny_mono (run_g (dvs := []) (dfs := []) (us := [.ref a, v]) (vs := [.ref a, y]) G gu hr hb .nil hx I (.cons rfl (.cons ry .nil)) (by rw [List.append_nil]; exact q)) (fun r s' hq => ?_) fun _ _ e => e))
  obtain ⟨w, H', I', rw', ⟨b, rfl⟩, q'⟩ := hq
  obtain rfl : r = Value.bool b := rw'
  exact ⟨.bl b, H', I', rfl, q'⟩
def dCmpX (K : PySem.W.Frag) (C : Addr) (spd : Spd) (Ew : Addr → List D → Env' → Prop) (ta tb : TD) : TD := fun δ Q => dp ta δ fun x δ1 => dp tb δ1 fun y δ2 => (∃ ns ds, x = .ins C ns ds) ∧ TyF K C y ∧ spd [.p x, .p y] (fun b _ => ∃ k, b = .p (.bl k) ∧ Q b δ2) fun C' es _ => Ew C' es δ2
theorem cmp_run {Es : L2.St → XK} {Ew : Addr → List D → Env' → Prop} (hop : IsRich op) (hm : (cmpInfo op).2.1 = m) (c : CmpC X.prog X.w X.K X.mg X.base C m k spd) (gu : X.A.guards = some []) (hr : Room k X.A) (ha : DE X W a ta) (hb : DE X W b tb)
    (hx : ∀ σ, PassesAt (L2N.CX X.prog X.w) X σ (Es σ)) (hE : ∀ (F' H' : Hp) (σ : L2.St) (δ : Env') (C' : Addr) (es : List D) (cls : Value) (d : Option Addr), SD X.K W F' H' σ δ → ExcRep X.K F' C' es cls d → Ew C' es δ → Es σ cls d H') (hmk : behindInMarks op b = false) : DE X W (.Compare a [op] [b] pos) (dCmpX X.K C spd Ew ta tb) := by
  obtain ⟨f, fd, h1, h2, G, bb⟩ := c.ex
  refine ⟨fun F H σ δ Q S q pins s I => wpAny_Compare1 (binT (R := fun x y H2 => rCmpX C X.K (toSp X.K spd) (Es σ) x y H2 (DQ X.K W F σ Q)) cE_pe cE_pe I ?_ fun v u s2 x y H2 I2 rx ry q => op_cmpX hop hm gu hr h1 h2 G bb (fun e s' cc => hx σ pins H2 s2 e s' I2 cc) I2 rx ry q) hmk⟩
  refine (ha.plain S q).imp fun x H1 h1 => ?_
  obtain ⟨F1, c1, δ1, e1, S1, r1, q1⟩ := h1
  refine (hb.plain S1 q1).imp fun y H2 h2 => ?_
  obtain ⟨F2, d, δ2, e2, S2, r2, ⟨ns, ds, rfl⟩, ty, q2⟩ := h2
  have r0 := Rp.mono e2 _ _ r1
  have r3 := r0
  unfold Rp at r3
  obtain ⟨a', dx, zs, rfl, g1, _⟩ := r3
  obtain ⟨t, g2, g3⟩ := ty.ty S2.fh r2
  refine ⟨a', dx, _, t, rfl, S2.fh _ _ g1, g2, g3, F2, none, [.p (.ins C ns ds), .p d], _, _, S2.fh, .cons r0 (.cons r2 .nil), (fun p e => by cases e), q2, fun v H' F' b m af r z => ?_, fun cls dd H' F' C' es m af er z => ?_⟩
  · obtain ⟨k, rfl, q'⟩ := z
    have r : Rp X.K F' (.bl k) v := r
    have e := rpBl r
    subst e
    exact ⟨⟨k, rfl⟩, F', .p (.bl k), δ2, (e1.trans e2).trans af.ff, S2.after af, r, (fun z => by cases z), q'⟩
  · exact hE F' H' σ δ2 C' es cls dd (S2.after af) er z
theorem de_cmpO (hop : IsRich op) (c : CmpC X.prog X.w X.K X.mg X.base C m k spd) (gu : X.A.guards = some []) (hr : Room k' X.A) (ha : DE X W a ta) (hb : DE X W b tb) (hm : (cmpInfo op).2.1 = m := by decide +kernel) (hk : k ≤ k' := by decide) (hmk : behindInMarks op b = false := by rfl) :
    DE X W (.Compare a [op] [b] pos) (dCmpX X.K C spd (fun _ _ _ => False) ta tb) :=
  cmp_run (Es := fun _ _ _ _ => False) hop hm c gu (hr.mono hk) ha hb (fun σ => pass_none) (fun _ _ _ _ _ _ _ _ _ _ z => z.elim) hmk
end
section
variable {prog : Program} {w : World} {A : Around} {E : Value → Shared → Prop} {h : Heap} {g : Array GenState} {d : Drawn} {t : Nat} {os : OsState} {C x f : Addr} {Bn : String} {bm : List Value} {v tv : Value} {K : PySem.W.Frag}
theorem ne_entry (X : h.OwnEqNoNe x C f Bn bm) (hu : A.units < cLine) {Q : Fin → Shared → Prop}
    (go : wpAny (model prog w) A (call (.ref f) [.ref x, v]) (fun r s' => ∃ b, r = .bool b ∧ Q (.done (.ret (.bool (!b)))) s') E ⟨h, g, d, t, os⟩) :
    wpAny (model prog w) A (Builtin.«object.__ne__» ⟨[.ref x, v], []⟩) Q E ⟨h, g, d, t, os⟩ := by
  have own := X.ownEq
  unfold Builtin.«object.__ne__»
  repeat (first
    | with_reducible apply wpAny_cRoomFor hu
    | (apply wpAny_bind (m := callSpecialIfBound? (.ref x) (Str.ofString "__eq__") [v])
       refine wpAny_callSpecialIfBound?_own own (wpAny_mono go (fun r s' z => ?_) fun _ _ e => e)
       obtain ⟨b, rfl, hq⟩ := z
       repeat (first | exact hq | exact wpAny_pure hq | exact wpAny_truthy_bool hq | (apply wpAny_bind (m := truthy (.bool _)); apply wpAny_truthy_bool) | wp_step))
    | wp_step)
theorem ne_any (FB : CmpFacts Bn bm) (X : h.OwnEqNoNe x C f Bn bm) (KX : K.In h) (hv : PySem.W.Looks (model prog w) h (typeOf v) tv) (nf : PySem.W.notFirst K C tv = true) (hu : A.units + 1 < cLine) {Q : Value → Shared → Prop}
    (go : wpAny (model prog w) A.in1 (call (.ref f) [.ref x, v]) (fun r s' => ∃ b, r = .bool b ∧ Q (.bool (!b)) s') E ⟨h, g, d, t, os⟩) :
    wpAny (model prog w) A (compareOp .NotEq (.ref x) v) Q E ⟨h, g, d, t, os⟩ := by
  obtain ⟨o, of, nm, q, N, bs, hdct, sn, sub, ab, col, dd, k0, k1, k2, k3, k5, newId, mN, yv, hx, hc, hC, hn, _, _, _, _, _, hne⟩ := id X
  have one : wpAny (model prog w) A (tryCompare (.ref x) "__ne__" v) (fun r s' => ∃ b, r = some (.bool b) ∧ Q (.bool b) s') E ⟨h, g, d, t, os⟩ := by
    simp only [tryCompare]
    apply wpAny_bind
    refine wpAny_callSpecialIfBound?_inst hx hc hC hn hne FB.mro FB.ne ?_
    refine wpAny_call (codeAny_call_builtin FB.ne.plain F.cmpEntry_ne (wpAny_check_slot_inst F.cmpKind_ne F.cmpSplit_ne (F.cmpArgs_ne _ _) FB.hasObject hx hc hC (ne_entry (A := A.in1) X hu (wpAny_mono go (fun r s' z => ?_) fun _ _ e => e))))
    obtain ⟨b, rfl, hq⟩ := z
    first | exact ⟨b, rfl, wpAny_pure ⟨_, rfl, hq⟩⟩ | exact ⟨b, rfl, wpAny_pure (wpAny_pure ⟨_, rfl, hq⟩)⟩ | exact ⟨b, rfl, ⟨_, rfl, hq⟩⟩
  unfold compareOp richCompare
  simp only [oneThing_ref]
  apply wpAny_holding
  apply wpAny_bind
  apply wpAny_cRoomFor (Nat.lt_of_succ_lt hu)
  rw [cmpInfo_NotEq]
  dsimp only
  apply wpAny_bind
  apply wpAny_typeOf_ref hx
  rw [hc]
  apply wpAny_bind
  refine hv.at ?_
  have fin : ∀ (r : Option Value) (s' : Shared), (∃ b, r = some (.bool b) ∧ Q (.bool b) s') → ∃ b, r = some (.bool b) ∧ Q (.bool b) s' := fun _ _ z => z
  split
  · rename_i q
    have e : PySem.W.subIn K tv (.ref C) = some false := by
      rcases Bool.or_eq_true_iff.mp nf with e | e
      · rw [beq_iff_eq.mp e] at q
        simp at q
      · exact beq_iff_eq.mp e
    apply wpAny_bind
    refine (PySem.W.looks_subIn KX e).at ?_
    simp only [Bool.false_eq_true, if_false]
    apply wpAny_bind
    refine wpAny_mono one (fun r s' z => ?_) fun _ _ e => e
    obtain ⟨b, rfl, hq⟩ := z
    exact wpAny_pure hq
  · apply wpAny_bind
    apply wpAny_pure
    simp only [Bool.false_eq_true, if_false]
    apply wpAny_bind
    refine wpAny_mono one (fun r s' z => ?_) fun _ _ e => e
    obtain ⟨b, rfl, hq⟩ := z
    exact wpAny_pure hq
end
section
variable {X : Cx} {W : Fix} {k k' : Nat} {C : Addr} {spd : Spd} {a b : Expr} {ta tb : TD} {pos : Pos}
def rNeA (C : Addr) (K : PySem.W.Frag) (sp : Sp) : R2 := fun x y H Q => ∃ a dx fs t, x = .ref a ∧ H a = some (.ins C dx fs) ∧ TyX K H y t ∧ PySem.W.notFirst K C t = true ∧ sp [x, y] H (fun v H' => ∃ b, v = .bl b ∧ Q (.bl (!b)) H') fun _ _ _ => False
theorem op_neA {f : Addr} {fd : FuncData} {sp : Sp} (gu : X.A.guards = some []) (hr : Room (k + 1) X.A) (ne : NeC X.K C) (h1 : PySem.W.findIn X.K (.ref C) "__eq__" = some (some (.ref f))) (G : GnOk X.prog X.w X.K X.mg X.base k f fd ["self", "other"] sp) (hb : Binds X.K fd ["self", "other"] []) :
    OpR X (compareOp .NotEq) (rNeA C X.K sp) := by
  intro pins s σ H x y u v Q I rx ry h
  obtain ⟨a, dx, fs, t, rfl, ha, ty, nf, q⟩ := h
  obtain rfl : u = Value.ref a := rx
  obtain ⟨f', N, nm, qn, bs, sn, sub, ab, col, dd, k0, k1, k2, k3, k5, newId, hC, hN, he, hne, hf, of, hof, hoc⟩ := ne.ex
  rw [h1] at hf
  cases hf
  obtain ⟨mA, O, _⟩ := ins_get I.hok ha
  obtain ⟨od, J, _⟩ := O.look
  obtain ⟨P, z, hp, _⟩ := kit_of I ry ty
  have hv := z.ty (model X.prog X.w) _ I.kIn hp
  have hns : s.heap.Ns N (s.heap.nsMap N) := Heap.Ns.of_isNs (PySem.W.isNs_of_in I.kIn hN)
  have eqm : s.heap.nsMap N "__eq__" = some (.ref f) := by
    obtain ⟨o, es, ep, ho, hd, _, hfnd⟩ := hns
    unfold PySem.W.nsIn at he
    split at he
    · rename_i c d es' n' sl z
      have := I.kIn _ _ z
      rw [ho] at this
      cases this
      cases hd
      split at he
      · rename_i e hx
        have e2 := Option.some.inj (Option.some.inj he)
        rw [← hfnd]
        unfold nsFind findBy
        rw [← Array.find?_toList, hx]
        show some e.val = _
        rw [e2]
      · split at he <;> cases he
    · cases he
  have nem : s.heap.nsMap N "__ne__" = none := PySem.W.ns_none_of I.kIn hns hne
  have X0 : s.heap.OwnEqNoNe a C f "object" [.type "object"] := ⟨_, of, nm, qn, N, bs, true, sn, sub, ab, col, dd, k0, k1, k2, k3, k5, newId, s.heap.nsMap N, _, J.at_, J.cls, I.kIn _ _ hC, hns, eqm, I.kIn _ _ hof, hoc, F.cmp_object.mro, F.cmp_object.eq.lookup, nem⟩
  have hu := hr.units
  have run : wpAny (model X.prog X.w) X.A.in1 (call (.ref f) [.ref a, v]) (fun r s' => ∃ b, r = .bool b ∧ EP X pins σ Q (.bool (!b)) s') X.xe s := by
    have b2 := hb s [.ref a, v] I.kIn rfl
    refine wpAny_call (codeAny_mono (G.run X.A.in1 X.stack s H ⟨[.ref a, v], []⟩ [.ref a, v] [.ref a, y] _ _ (by rw [in1_guards]; exact gu) hr.in1 I.env0.in1 b2 (.cons rfl (.cons ry .nil)) q) fun r s' hq => ?_)
    cases r with
    | error er =>
      obtain ⟨_, _, _, _, _, _, _, _, _, _, _, _, z⟩ := hq
      exact z.elim
    | ok fl =>
      cases fl with
      | ret u =>
        obtain ⟨v, H', I3, rv, b, rfl, q3⟩ := I.after hq
        obtain rfl : u = Value.bool b := rv
        exact ⟨b, rfl, .bl (!b), H', I3, rfl, q3⟩
      | next => exact False.elim hq
      | brk => exact False.elim hq
      | cont => exact False.elim hq
  have kin := I.kIn
  obtain ⟨hp', g, d, tk, os⟩ := s
  exact ne_any (K := X.K) F.cmp_object X0 kin hv nf (by omega) run
def neAG (K : PySem.W.Frag) (C : Addr) (spd : Spd) : D → D → (B → Prop) → Prop := fun x y Q => (∃ ns ds, x = .ins C ns ds) ∧ TyF K C y ∧ spd [.p x, .p y] (fun b _ => ∃ k, b = .p (.bl k) ∧ Q (.p (.bl (!k)))) fun _ _ _ => False
theorem rd_neA {K : PySem.W.Frag} : RD K (rNeA C K (toSp K spd)) (neAG K C spd) := by
  intro W F H σ δ x y c d Q Z S rc rd g hZ
  obtain ⟨⟨ns, ds, rfl⟩, ty, q⟩ := g
  have rc' := rc
  unfold Rp at rc
  obtain ⟨a, dx, zs, rfl, g1, _⟩ := rc
  obtain ⟨t, g2, g3⟩ := ty.ty S.fh rd
  refine ⟨a, dx, _, t, rfl, S.fh _ _ g1, g2, g3, F, none, [.p (.ins C ns ds), .p d], _, _, S.fh, .cons rc' (.cons rd .nil), (fun p e => by cases e), q, fun v H' F' b m af r z => ?_, fun cls dd H' F' C es m _ _ z => z.elim⟩
  obtain ⟨k, rfl, q'⟩ := z
  have r : Rp K F' (.bl k) v := r
  have e := rpBl r
  exact ⟨k, e, hZ _ _ ⟨F', .p (.bl (!k)), δ, af.ff, S.after af, rp_bl (K := K) (F := F'), (fun z => by cases z), rfl, q'⟩⟩
theorem dt_neA (c : CmpC X.prog X.w X.K X.mg X.base C "__eq__" k spd) (n : NeC X.K C) (gu : X.A.guards = some []) (hr : Room k' X.A) (ha : DE X W a ta) (hb : DE X W b tb) (hk : k + 1 ≤ k' := by decide) (hm : behindInMarks .NotEq b = false := by rfl) : DT X W (.Compare a [.NotEq] [b] pos) (dT (dOp (neAG X.K C spd) ta tb)) := by
  obtain ⟨f, fd, h1, h2, G, bb⟩ := c.ex
  exact dt_cmp (op_neA gu (hr.mono hk) n h1 G bb) rd_neA ha hb hm
end
section
variable {prog : Program} {w : World} {A : Around} {E : Value → Shared → Prop} {s : Shared}
theorem truthy_own {M : Model} {K : PySem.W.Frag} {x C f : Addr} {ox : Obj} {od : Option Obj} {Q : Bool → Shared → Prop} (KX : K.In s.heap) (I : PySem.W.InstAt s.heap x ox C od) (hs : PySem.W.findIn K (.ref C) "__bool__" = some (some (.ref f))) (hf : PySem.W.isFn K (.ref f) = true)
    (go : wpAny M A (call (.ref f) [.ref x]) (fun r s' => ∃ b, r = .bool b ∧ Q b s') E s) : wpAny M A (truthy (.ref x)) Q E s := by
  unfold truthy
  apply wpAny_bind (m := callSpecial? (.ref x) (Str.ofString "__bool__"))
  refine PySem.W.special_fn KX I hs (beq_iff_eq.mp hf) (wpAny_mono go (fun r s' z => ?_) fun _ _ e => e)
  obtain ⟨b, rfl, hq⟩ := z
  exact wpAny_pure hq
end
end DD

set_option Elab.async false
set_option linter.all false
set_option maxRecDepth 100000
set_option maxHeartbeats 4000000
namespace DD
open PySem PySem.Spec PyProof.Rows L2
def Ex (k : Nat) (c d : D) : Prop := ∃ x y, toPy c = some x ∧ toPy d = some y ∧ x.canLay0 = true ∧ y.canLay0 = true ∧ x.depth ≤ k ∧ y.depth ≤ k ∧ (PyData.eqv x y = true ↔ c = d)
theorem Ex.mono {k k' : Nat} {c d : D} (h : Ex k c d) (hk : k ≤ k') : Ex k' c d := by
  obtain ⟨x, y, h1, h2, h3, h4, h5, h6, h7⟩ := h
  exact ⟨x, y, h1, h2, h3, h4, Nat.le_trans h5 hk, Nat.le_trans h6 hk, h7⟩
theorem Ex.eq {k : Nat} {c d : D} (hk : k ≤ 60) (h : Ex k c d) : ∃ b, eqD c d = some b ∧ (b = true ↔ c = d) := by
  obtain ⟨x, y, h1, h2, h3, h4, h5, h6, h7⟩ := h
  unfold eqD
  split
  · rename_i hf
    refine ⟨_, rfl, ?_⟩
    rw [Bool.and_eq_true, Bool.and_eq_true] at hf
    obtain ⟨⟨f1, f2⟩, f3⟩ := hf
    rw [decide_eq_true_eq]
    constructor
    · intro e
      cases c <;> first | cases f1; done | skip
      all_goals (cases d <;> first | cases f2; done | (cases e; done) | (cases e; rfl) | skip)
    · intro e
      rw [e]
  · have s1 : SeqAt.shaped x = true := by
      unfold SeqAt.shaped
      rw [h3, decide_eq_true (show x.depth ≤ 64 by omega)]
      rfl
    have s2 : SeqAt.shaped y = true := by
      unfold SeqAt.shaped
      rw [h4, decide_eq_true (show y.depth ≤ 64 by omega)]
      rfl
    rw [h1, h2, Option.bind_some, Option.bind_some, s1, s2]
    exact ⟨_, if_pos (by rfl), h7⟩
theorem Ex.of_sh {k : Nat} {c d : D} (hc : Sh k c) (hd : Sh k d) (h : ∀ x y, toPy c = some x → toPy d = some y → (PyData.eqv x y = true ↔ c = d)) : Ex k c d := by
  obtain ⟨x, h1, h2, h3⟩ := hc
  obtain ⟨y, g1, g2, g3⟩ := hd
  exact ⟨x, y, h1, g1, h2, g2, h3, g3, h x y h1 g1⟩
theorem ex_int {i j : Int} : Ex 0 (.int i) (.int j) := .of_sh sh_int sh_int fun x y h g => by
  cases h
  cases g
  simp only [PyData.eqv, beq_iff_eq, D.int.injEq]
theorem ex_bl {i j : Bool} : Ex 0 (.bl i) (.bl j) := .of_sh sh_bl sh_bl fun x y h g => by
  cases h
  cases g
  simp only [PyData.eqv, beq_iff_eq, D.bl.injEq]
def kindD : D → Nat
  | .non => 1
  | .bl _ => 2
  | .int _ => 2
  | .str _ => 3
  | .lst _ => 4
  | .tup _ => 5
  | _ => 0
def kindP : PyData → Nat
  | .none => 1
  | .bool _ => 2
  | .int _ => 2
  | .str _ => 3
  | .list _ => 4
  | .tuple _ => 5
  | .dict _ => 6
theorem kind_py {c : D} {x : PyData} (h : toPy c = some x) : kindP x = kindD c := by
  cases c <;> first | (cases h; done) | (cases h; rfl) | skip
  all_goals
    simp only [toPy] at h
    obtain ⟨xs, _, rfl⟩ := Option.map_eq_some_iff.mp h
    rfl
theorem kind_eqv {x y : PyData} (h : PyData.eqv x y = true) : kindP x = kindP y := by
  cases x <;> cases y <;> first | rfl | (simp [PyData.eqv] at h; done)
theorem ex_kind {k : Nat} {c d : D} (hc : Sh k c) (hd : Sh k d) (h : kindD c ≠ kindD d) : Ex k c d := .of_sh hc hd fun x y hx hy =>
  ⟨fun e => absurd ((kind_py hx).symm.trans ((kind_eqv e).trans (kind_py hy))) h, fun e => absurd (by rw [e]) h⟩
theorem ex_all {k : Nat} : ∀ {cs ds : List D}, (∀ c ∈ cs, ∀ d ∈ ds, Ex k c d) → (∀ c ∈ cs, Sh k c) → (∀ d ∈ ds, Sh k d) → ∀ xs ys, toPyL cs = some xs → toPyL ds = some ys → (PyData.eqvAll xs ys = true ↔ cs = ds)
  | [], [], _, _, _, xs, ys, hx, hy => by
    cases hx
    cases hy
    simp only [PyData.eqvAll]
  | [], d :: ds, _, _, hd, xs, ys, hx, hy => by
    cases hx
    unfold toPyL at hy
    obtain ⟨y, _, hy⟩ := Option.bind_eq_some_iff.mp hy
    obtain ⟨yr, _, rfl⟩ := Option.map_eq_some_iff.mp hy
    simp [PyData.eqvAll]
  | c :: cs, [], _, _, _, xs, ys, hx, hy => by
    cases hy
    unfold toPyL at hx
    obtain ⟨y, _, hx⟩ := Option.bind_eq_some_iff.mp hx
    obtain ⟨yr, _, rfl⟩ := Option.map_eq_some_iff.mp hx
    simp [PyData.eqvAll]
  | c :: cs, d :: ds, h, hc, hd, xs, ys, hx, hy => by
    unfold toPyL at hx hy
    obtain ⟨x, hx1, hx⟩ := Option.bind_eq_some_iff.mp hx
    obtain ⟨xr, hx2, rfl⟩ := Option.map_eq_some_iff.mp hx
    obtain ⟨y, hy1, hy⟩ := Option.bind_eq_some_iff.mp hy
    obtain ⟨yr, hy2, rfl⟩ := Option.map_eq_some_iff.mp hy
    have ih := ex_all (fun c' h' d' g' => h c' (List.mem_cons_of_mem _ h') d' (List.mem_cons_of_mem _ g')) (fun c' h' => hc c' (List.mem_cons_of_mem _ h')) (fun d' h' => hd d' (List.mem_cons_of_mem _ h')) xr yr hx2 hy2
    obtain ⟨x', y', e1, e2, _, _, _, _, e3⟩ := h c List.mem_cons_self d List.mem_cons_self
    rw [hx1] at e1
    rw [hy1] at e2
    cases e1
    cases e2
    simp only [PyData.eqvAll, Bool.and_eq_true, List.cons.injEq]
    rw [e3, ih]
theorem ex_tup {k : Nat} {cs ds : List D} (h : ∀ c ∈ cs, ∀ d ∈ ds, Ex k c d) (hc : ∀ c ∈ cs, Sh k c) (hd : ∀ d ∈ ds, Sh k d) : Ex (k + 1) (.tup cs) (.tup ds) := .of_sh (sh_tup hc) (sh_tup hd) fun x y hx hy => by
  simp only [toPy] at hx hy
  obtain ⟨xs, hx1, rfl⟩ := Option.map_eq_some_iff.mp hx
  obtain ⟨ys, hy1, rfl⟩ := Option.map_eq_some_iff.mp hy
  simp only [PyData.eqv, D.tup.injEq]
  exact ex_all h hc hd xs ys hx1 hy1
end DD

set_option Elab.async false
set_option linter.all false
set_option maxRecDepth 100000
set_option maxHeartbeats 4000000

set_option Elab.async false
set_option linter.all false
set_option maxRecDepth 100000
set_option maxHeartbeats 4000000

set_option Elab.async false
set_option linter.all false
set_option maxRecDepth 100000
set_option maxHeartbeats 4000000
namespace DD
open PySem PySem.Spec PyProof.Rows L2
theorem bt_min : bootBuiltins "min" = some (.builtin "min") := by decide +kernel
theorem bt_sum : bootBuiltins "sum" = some (.builtin "sum") := by decide +kernel
def sumG : List D → (B → Prop) → Prop := fun ds Q => ∃ ns : List Int, ds = [.lst (ns.map D.int)] ∧ Q (.p (.int ns.sum))
theorem rc_sum {K : PySem.W.Frag} : RC K (rSum K) sumG := by
  intro W F H σ δ xs ds Q Z S r g hZ
  obtain ⟨ns, rfl, q⟩ := g
  obtain ⟨v, rfl, rv⟩ := rpL1 r
  obtain ⟨a, zs, rfl, h2, h3⟩ := rpLst rv
  rw [RpL.int h3] at h2
  exact ⟨a, ns, rfl, SqL.of (S.fh _ _ h2), hZ _ _ (mkP S rp_int q)⟩
def minG : List D → (B → Prop) → Prop := fun ds Q => ∃ i j : Int, ds = [.int i, .int j] ∧ Q (.p (.int (if j < i then j else i)))
theorem rc_min {K : PySem.W.Frag} : RC K (fun xs H Q => ∃ i j, xs = [.int i, .int j] ∧ Q (.int (if j < i then j else i)) H) minG := by
  intro W F H σ δ xs ds Q Z S r g hZ
  obtain ⟨i, j, rfl, q⟩ := g
  obtain ⟨v, w, rfl, rv, rw'⟩ := rpL2 r
  exact ⟨i, j, by rw [rpInt rv, rpInt rw'], hZ _ _ (mkP S rp_int q)⟩
section
variable {X : Cx} {W : Fix}
structure DE1 (X : Cx) (W : Fix) (e : Expr) (t : TD) : Prop where
  run : ∀ (F H : Hp) (σ : L2.St) (δ : Env') (Q : B → Env' → Prop), SD X.K W F H σ δ → t δ Q → ∀ (pins : List (Addr × Obj)) (s : Shared), 1 ≤ s.toks → Inv X pins σ H s → wpAny (model X.prog X.w) X.A (eval e X.env) (EP X pins σ (DQ X.K W F σ Q)) X.xe s
theorem DE1.plain {e : Expr} {t : TD} {F H : Hp} {σ : L2.St} {δ : Env'} {Q : D → Env' → Prop} {pins : List (Addr × Obj)} {s : Shared} (h : DE1 X W e t) (S : SD X.K W F H σ δ) (q : dp t δ Q) (h1 : 1 ≤ s.toks) (I : Inv X pins σ H s) :
    wpAny (model X.prog X.w) X.A (eval e X.env) (EP X pins σ fun v H1 => ∃ (F1 : Hp) (d : D) (δ1 : Env'), Same F F1 ∧ SD X.K W F1 H1 σ δ1 ∧ Rp X.K F1 d v ∧ Q d δ1) X.xe s :=
  thn (h.run F H σ δ _ S q pins s h1 I) fun u s1 ⟨v, H1, I1, r1, q1⟩ => ⟨v, H1, I1, r1, let ⟨F1, b, δ1, e1, S1, rb, qb⟩ := DQ.plain q1; ⟨F1, b.d, δ1, e1, S1, rb, qb⟩⟩
end
end DD

set_option Elab.async false
set_option linter.all false
set_option maxRecDepth 100000
set_option maxHeartbeats 4000000
namespace DD
open PySem PySem.Spec PyProof.Rows L2
def clr1 : Option B → Option B
  | some (.m _) => none
  | o => o
def clrM (δ : Env') : Env' := δ.map clr1
section
variable {K : PySem.W.Frag} {W W' : Fix} {F H : Hp} {σ : L2.St} {δ : Env'}
def clrZ (Z : EndsD) : EndsD where
  nx := fun δ => Z.nx (clrM δ)
  rt := fun b δ => b.isR = false ∧ Z.rt b (clrM δ)
  bk := fun δ => Z.bk (clrM δ)
  ct := fun δ => Z.ct (clrM δ)
end
def FreshS (K : PySem.W.Frag) (W : Fix) (F H : Hp) (σ : L2.St) (δ : Env') (dss : List (List D)) (v : V) : Prop := ∃ (t : Addr) (as : List Addr), v = .ref t ∧ F t = some (.tup (as.map V.ref)) ∧ as.Nodup ∧ as.length = dss.length ∧
  (∀ (k : Nat) (a : Addr) (ds : List D), as[k]? = some a → dss[k]? = some ds → F a = none ∧ W.H0 a = none ∧ ∃ ys, H a = some (.lst ys) ∧ RpL K F ds ys) ∧
  ∀ a ∈ as, ∀ (j : Nat) (c : B), δ[j]? = some (some c) → c.own = true → σ[j]? ≠ some (some (.ref a))
theorem FreshS.fresh {K : PySem.W.Frag} {W : Fix} {F H : Hp} {σ : L2.St} {δ : Env'} {dss : List (List D)} {v : V} (h : FreshS K W F H σ δ dss v) : Fresh K W F H dss v := by
  obtain ⟨t, as, h1, h2, h3, h4, h5, _⟩ := h
  exact ⟨t, as, h1, h2, h3, h4, h5⟩
def MQt (K : PySem.W.Frag) (W : Fix) (F : Hp) (σ : L2.St) (Q : B → Env' → Prop) : VK := fun v H' =>
  DQ K W F σ (fun b δ' => b.isU = false ∧ Q b δ') v H' ∨ ∃ (F' : Hp) (δ' : Env') (dss : List (List D)), Same F F' ∧ SD K W F' H' σ δ' ∧ FreshS K W F' H' σ δ' dss v ∧ Q (.t dss) δ'
section
variable {K : PySem.W.Frag} {W : Fix} {F H F' H' : Hp} {σ : L2.St} {δ : Env'} {b : B} {v : V} {m : Nat}
theorem MQt.of_res {Q : B → Env' → Prop} {F0 : Hp} (S : SD K W F H σ δ) (e : Same F0 F) (a : Aft F H none m F' H') (hr : b.isR = false) (r : Res K H F' H' b v) (q : Q b δ) : MQt K W F0 σ Q v H' := by
  by_cases hu : b.isU = false
  · obtain ⟨r1, r2⟩ := RB.of_res S hu r
    exact .inl ⟨F', b, δ, e.trans a.ff, S.after a, r1, r2, hu, q⟩
  · cases b <;> first | (exact absurd rfl hu) | (cases hr; done) | skip
    rename_i dss
    obtain ⟨t, as, h1, h2, h3, h4, h5⟩ := r
    refine .inr ⟨F', δ, dss, e.trans a.ff, S.after a, ⟨t, as, h1, h2, h3, h4, fun k a' ds q1 q2 => ?_, fun a' ha j c e1 e2 e3 => ?_⟩, q⟩
    · obtain ⟨z1, z2, z3⟩ := h5 k a' ds q1 q2
      exact ⟨z1, S.fresh0 z2, z3⟩
    · obtain ⟨k, hk⟩ := List.mem_iff_getElem?.mp ha
      have hl : k < dss.length := by
        rw [← h4]
        exact (List.getElem?_eq_some_iff.mp hk).1
      obtain ⟨_, z2, _⟩ := h5 k a' _ hk (List.getElem?_eq_getElem hl)
      obtain ⟨u, g1, g2⟩ := S.get j c e1
      rw [e3] at g1
      cases g1
      obtain ⟨a2, o, e, g3, _⟩ := g2.there e2
      cases e
      rw [z2] at g3
      cases g3
end
section
variable {X : Cx} {W : Fix} {k k' : Nat} {C : Addr} {m x : Str} {ps : List Str} {spd : Spd} {o e : Expr} {es : List Expr} {te : TD} {t : TDA} {p apos pos : Pos}
def dMethM (C : Addr) (m : Str) (spd : Spd) (te : TD) (t : TDA) : TD := fun δ Q => dp te δ fun d δ1 => (∃ ns ds, d = .ins C ns ds ∧ m ∉ ns) ∧ t δ1 fun es δ2 => spd ((d :: es).map .p) (fun b _ => b.isR = false ∧ Q b δ2) fun _ _ _ => False
def dCallM (spd : Spd) (t : TDA) : TD := fun δ Q => t δ fun ds δ1 => spd (ds.map .p) (fun b _ => b.isR = false ∧ Q b δ1) fun _ _ _ => False
end
section
variable {X : Cx} {W : Fix} {e a b : Expr} {te : TD} {t : TDB} {k : Nat} {p pos : Pos}
def dRetP (t : TDB) : TSD := fun Z δ => t δ fun bs δ1 => ∃ d1 d2, bs = [.o (.lst d1), .o (.lst d2)] ∧ Z.rt (.t [d1, d2]) δ1
end
end DD

set_option Elab.async false
set_option linter.all false
set_option maxRecDepth 100000
set_option maxHeartbeats 4000000
namespace DD
open PySem PySem.Spec PyProof.Rows L2
def isM1 : Option B → Bool
  | some (.m _) => true
  | _ => false
def noM (δ : Env') : Bool := δ.all fun o => !isM1 o
def onlyM (i : Nat) (δ : Env') : Bool := noM (δ.set i none)
def B.told : B → B
  | .t dss => .m dss
  | b => b
section
variable {X : Cx} {W : Fix} {e : Expr} {rest : List Stmt} {te : TD} {u : TSD} {E1 : Addr → List D → Env' → Prop} {pos : Pos}
def dTold (i : Nat) (te : TD) (u : TSD) : TSD := fun Z δ => te δ fun b δ1 => noM δ1 = true ∧ u (clrZ Z) (δ1.set i (some b.told))
end
section
variable {X : Cx} {W : Fix} {x : Str} {i k : Nat} {kI : Int} {e : Expr} {c : V} {d : D} {p p1 p2 apos cpos pos : Pos} {j : Nat} {rest : List Stmt} {u : TSD}
def dChg (i k : Nat) (f : List D → List D) (u : TSD) : TSD := fun Z δ => ∃ dss ds, δ[i]? = some (some (.m dss)) ∧ onlyM i δ = true ∧ dss[k]? = some ds ∧ ds.length + 1 ≤ sizeLine ∧ u Z (δ.set i (some (.m (dss.set k (f ds)))))
def dListM (i k : Nat) : TD := fun δ Q => ∃ dss ds, δ[i]? = some (some (.m dss)) ∧ dss[k]? = some ds ∧ Q (.o (.lst ds)) δ
end
end DD

set_option Elab.async false
set_option linter.all false
set_option maxRecDepth 100000
set_option maxHeartbeats 4000000
namespace DD
open PySem PySem.Spec PyProof.Rows L2
def isPl : Option B → Bool
  | none => true
  | some (.p _) => true
  | some (.n _) => true
  | _ => false
def plainB (i : Nat) (δ : Env') : Bool := (δ.set i none).all isPl
def lstsD (dss : List (List D)) : D := .tup (dss.map D.lst)
def dLendM (i : Nat) (t : TD) : TD := fun δ Q => ∃ dss, δ[i]? = some (some (.m dss)) ∧ plainB i δ = true ∧ t (δ.set i (some (.p (lstsD dss)))) fun b δ' => δ' = δ.set i (some (.p (lstsD dss))) ∧ (∃ d, b = .p d ∧ noLD d = true) ∧ Q b δ
end DD

set_option Elab.async false
set_option linter.all false
set_option maxRecDepth 100000
set_option maxHeartbeats 4000000
namespace DD
open PySem PySem.Spec PyProof.Rows L2
section
variable {X : Cx} {W : Fix} {b : Expr} {tb : TD} {i k : Nat} {kI : Int} {x : Str} {p p1 p2 pos : Pos} {j : Nat} {r : R2} {g : D → D → (D → Prop) → Prop}
def dNM (i k : Nat) (g : D → D → (D → Prop) → Prop) (tb : TD) : TD := fun δ Q => ∃ dss ds, δ[i]? = some (some (.m dss)) ∧ dss[k]? = some ds ∧ dp tb δ fun y δ1 => δ1[i]? = some (some (.m dss)) ∧ g (.lst ds) y fun c => Q (.p c) δ1
end
end DD

set_option Elab.async false
set_option linter.all false
set_option maxRecDepth 100000
set_option maxHeartbeats 4000000
namespace DD
open PySem PySem.Spec PyProof.Rows L2
def B.plain : B → B
  | .t dss => .p (lstsD dss)
  | b => b
def dOfM (t : TD) : TD := fun δ Q => t δ fun b δ1 => Q b.plain δ1
end DD

set_option Elab.async false
set_option linter.all false
set_option maxRecDepth 100000
set_option maxHeartbeats 4000000
namespace DD
open PySem PySem.Spec PyProof.Rows L2
section
variable {X : Cx} {W : Fix} {k k' : Nat} {x : Str} {ps : List Str} {spd : Spd} {e : Expr} {es : List Expr} {t : TDB} {p pos : Pos}
def dCallQ (spd : Spd) (t : TDB) : TD := fun δ Q => t δ fun bs δ1 => ∃ (a b c : Int) (n : Nat) (ds : List D), bs = .o (.lst [.int a, .int b, .int c]) :: ds.map .p ∧ PWF n a b c ∧ spd (.u true n :: ds.map .p) (fun b _ => b.isU = false ∧ Q b δ1) fun _ _ _ => False
end
end DD

set_option Elab.async false
set_option linter.all false
set_option maxRecDepth 100000
set_option maxHeartbeats 4000000
namespace DD
open PySem PySem.Spec PyProof.Rows L2
def eqAG (K : PySem.W.Frag) (C : Addr) (spd : Spd) : D → D → (B → Prop) → Prop := fun x y Q => (∃ ns ds, x = .ins C ns ds) ∧ TyF K C y ∧ spd [.p x, .p y] (fun b _ => ∃ k, b = .p (.bl k) ∧ Q (.p (.bl k))) fun _ _ _ => False
theorem rd_eqA {K : PySem.W.Frag} {C : Addr} {spd : Spd} : RD K (rCmpX C K (toSp K spd) fun _ _ _ => False) (eqAG K C spd) := by
  intro W F H σ δ x y c d Q Z S rc rd g hZ
  obtain ⟨⟨ns, ds, rfl⟩, ty, q⟩ := g
  have rc' := rc
  unfold Rp at rc
  obtain ⟨a, dx, zs, rfl, g1, _⟩ := rc
  obtain ⟨t, g2, g3⟩ := ty.ty S.fh rd
  refine ⟨a, dx, _, t, rfl, S.fh _ _ g1, g2, g3, F, none, [.p (.ins C ns ds), .p d], _, _, S.fh, .cons rc' (.cons rd .nil), (fun p e => by cases e), q, fun v H' F' b m af r z => ?_, fun cls dd H' F' C es m _ _ z => z.elim⟩
  obtain ⟨k, rfl, q'⟩ := z
  have r : Rp K F' (.bl k) v := r
  have e := rpBl r
  exact ⟨⟨k, e⟩, hZ _ _ ⟨F', .p (.bl k), δ, af.ff, S.after af, r, (fun z => by cases z), rfl, q'⟩⟩
theorem dt_cmpO {X : Cx} {W : Fix} {a b : Expr} {op : CmpOp} {pos : Pos} {ta tb : TD} {C : Addr} {m : Str} {k k' : Nat} {spd : Spd} (hop : IsRich op) (c : CmpC X.prog X.w X.K X.mg X.base C m k spd) (gu : X.A.guards = some []) (hr : Room k' X.A) (ha : DE X W a ta) (hb : DE X W b tb) (hm : (cmpInfo op).2.1 = m := by decide +kernel) (hk : k ≤ k' := by decide) (hmk : behindInMarks op b = false := by rfl) :
    DT X W (.Compare a [op] [b] pos) (dT (dOp (eqAG X.K C spd) ta tb)) := by
  obtain ⟨f, fd, h1, h2, G, bb⟩ := c.ex
  refine dt_cmp (r := rCmpX C X.K (toSp X.K spd) fun _ _ _ => False) (fun pins s σ H x y v u Q I rx ry h => ?_) rd_eqA ha hb hmk
  exact op_cmpX hop hm gu (hr.mono hk) h1 h2 G bb (fun e s' cc => (pass_none (X := X) (σ := σ)) pins H s e s' I cc) I rx ry h
end DD

set_option Elab.async false
set_option linter.all false
set_option maxRecDepth 100000
set_option maxHeartbeats 4000000

set_option Elab.async false
set_option linter.all false
set_option maxRecDepth 100000
set_option maxHeartbeats 4000000

set_option Elab.async false
set_option linter.all false
set_option maxRecDepth 100000
set_option maxHeartbeats 4000000

set_option Elab.async false
set_option linter.all false
set_option maxRecDepth 100000
set_option maxHeartbeats 4000000

set_option Elab.async false
set_option linter.all false
set_option maxRecDepth 100000
set_option maxHeartbeats 4000000
namespace DD
open PySem PySem.Spec PyProof.Rows L2
open PySem.AutoSeq1 (wpAny_loadPart')
theorem meets_enum_tup (l : Addr) (items : Array Value) (n : Nat) (dct : Option Addr) (sl : Array (Option Value)) :
    Meets (Builtin.«enumerate.__new__» ⟨[.type "enumerate", .ref l], []⟩) (fun _ R s => s.heap.get? l = some { cls := .type "tuple", dict := dct, data := .seq items n, slots := sl } ∧
      R (.ok (.ret (.ref (s.heap.push { cls := .type "tuple_iterator", data := .fields #[.ref l, .int 0 0] }).objs.size)))
        { s with heap := (s.heap.push { cls := .type "tuple_iterator", data := .fields #[.ref l, .int 0 0] }).push { cls := .type "enumerate", data := .fields #[.none, .bool false, .ref s.heap.objs.size, rawInt 0, .none, .none] } }) :=
  .of_wp fun prog w A R s h => by
    obtain ⟨hp, g, d, tk, os⟩ := s
    obtain ⟨hl, h⟩ := h
    have hsub := sub_enumerate
    have hL : Heap.IsTuple (Shared.heap ⟨hp, g, d, tk, os⟩) l items := ⟨_, hl, rfl, n, rfl⟩
    wp_walk using wpAny_loadPart' hl
    refine wpAny_stack_any fun st => wpAny_pure ?_
    split
    · rename_i c _ _ _ _ _
      cases (c == Value.type "enumerate")
      · wp_walk using wpAny_loadPart' hl, wpAny_pyIter_tuple hL
        exact ⟨_, rfl, h⟩
      · wp_walk using wpAny_loadPart' hl, wpAny_pyIter_tuple hL
        exact ⟨_, rfl, h⟩
    · wp_walk using wpAny_loadPart' hl, wpAny_pyIter_tuple hL
      exact ⟨_, rfl, h⟩
section
variable {prog : Program} {w : World} {A : Around} {E : Value → Shared → Prop} {s : Shared}
theorem call_enum_tup {l : Addr} {items : Array Value} {Q : Value → Shared → Prop} (hL : s.heap.IsTuple l items)
    (h : ∀ h', IsEnum h' (s.heap.objs.size + 1) s.heap.objs.size 0 .none → h'.IsTupleIter s.heap.objs.size l 0 → h'.objs.size = s.heap.objs.size + 2 →
      (∀ b o, s.heap.get? b = some o → h'.get? b = some o) → Q (.ref (s.heap.objs.size + 1)) { s with heap := h' }) :
    wpAny (model prog w) A (call (.type "enumerate") [.ref l]) Q E s := by
  obtain ⟨⟨c, dct, dt, sl⟩, hl, hc, n, hd⟩ := hL
  replace hc : c = .type "tuple" := hc
  replace hd : dt = .seq items n := hd
  subst hc hd
  refine callType_new F.called_enumerate (by decide) (F.typeCall_enumerate_1 _) (F.newCall_enumerate_1 _) (fun obj => F.args_object_init_2 obj _) F.entry_enumerate_new
    (meets_enum_tup l items n dct sl) ⟨hl, ?_⟩
  have hz : (s.heap.push { cls := .type "tuple_iterator", data := .fields #[.ref l, .int 0 0] }).objs.size = s.heap.objs.size + 1 := Heap.size_push ..
  show _ ∧ _
  rw [hz]
  have he : IsEnum ((s.heap.push { cls := .type "tuple_iterator", data := .fields #[.ref l, .int 0 0] }).push
      { cls := .type "enumerate", data := .fields #[.none, .bool false, .ref s.heap.objs.size, rawInt 0, .none, .none] }) (s.heap.objs.size + 1) s.heap.objs.size 0 .none := by
    have := Heap.get?_push_size (s.heap.push { cls := .type "tuple_iterator", data := .fields #[.ref l, .int 0 0] })
      (o := { cls := .type "enumerate", data := .fields #[.none, .bool false, .ref s.heap.objs.size, rawInt 0, .none, .none] }) rfl
    rw [hz] at this
    exact this
  refine ⟨⟨_, he, rfl⟩, h _ he ⟨_, Heap.get?_push_of_some _ (Heap.get?_push_size _ rfl), rfl, rfl⟩ (by rw [Heap.size_push, hz]) fun b o x => Heap.get?_push_of_some _ (Heap.get?_push_of_some _ x)⟩
end
def IteT (K : PySem.W.Frag) (a : Addr) : It :=
  ⟨fun i H => ∃ (xs : List V) (x : V), SqT K H a xs ∧ xs[i]? = some x, fun i H v H' => ∃ T x, v = .ref T ∧ H T = none ∧ H' = upd H T (.tup [.int (i : Nat), x]) ∧ ∀ xs, SqT K H a xs → xs[i]? = some x, fun i H => ∃ xs : List V, SqT K H a xs ∧ xs.length ≤ i⟩
theorem draws_tup_end {prog : Program} {w : World} {A : Around} (hh : A.handled = none) (it t : Addr) (items : Array Value) (i : Nat) (hi : items.size ≤ i) :
    Draws prog w A it [it, t] i (fun _ _ => False) (fun j h => j = i ∧ h.IsTupleIter it t i ∧ h.IsTuple t items) where
  live := fun _ _ st => by
    obtain ⟨_, ⟨o, ho, _⟩, _⟩ := st
    exact ⟨o, ho⟩
  frame := fun _ _ _ st hk => by
    obtain ⟨e, h1, h2⟩ := st
    exact ⟨e, h1.at fun o q => hk it (by simp) o q, h2.at fun o q => hk t (by simp) o q⟩
  item := fun j s Q E hj st hQ => absurd st.1 (Nat.ne_of_lt hj)
  done := fun s Q E st hE => wpAny_nextOf_tuple_end hh st.2.1 st.2.2 (by simpa using hi) hE
theorem turn_enumTup {P : Program} {w : World} {K : PySem.W.Frag} {elts : List Expr} {kk : Nat} {tpos : Pos} (a e it : Addr) (hea : e ≠ a) (hia : a ≠ it) :
    Turn P w K (.Tuple elts kk tpos) (IteT K a) [e, it] e (fun i h => (∃ old, IsEnum h e it ((i : Nat) : Int) old) ∧ h.IsTupleIter it a i ∧ e ≠ it) where
  mem := by simp
  obj := fun i h st b hb => by
    obtain ⟨⟨old, he⟩, ⟨o, ho, hc, hd⟩, _⟩ := st
    have e' : b = e ∨ b = it := by simpa using hb
    rcases e' with z | z
    · rw [z]
      exact ⟨_, he, fun v q => nomatch q⟩
    · rw [z]
      exact ⟨o, ho, fun v q => by rw [hd] at q; cases q⟩
  keep := fun i h h' st k => by
    obtain ⟨⟨old, he⟩, hit, hne⟩ := st
    exact ⟨⟨old, k e (by simp) _ he⟩, hit.at fun o q => k it (by simp) o q, hne⟩
  item := by
    intro X hP hw hK hc i pins s σ H E I hf st hg
    subst hP hw hK
    obtain ⟨⟨old, he⟩, hit, hne⟩ := st
    obtain ⟨xs, x, hq, hx⟩ := hg
    obtain ⟨its, rv, p, hz⟩ := I.tuple hq
    obtain ⟨u, hu, ru⟩ := rv.get hx
    have hel : e < s.heap.objs.size := Heap.lt_size he
    have hil : it < s.heap.objs.size := by
      obtain ⟨_, q, _⟩ := hit
      exact Heap.lt_size q
    have hi : i < its.toArray.size := by
      have := (List.getElem?_eq_some_iff.mp hu).1
      simpa using this
    refine wpAny_pyNext_enum_itemD (Draws.tuple (show X.A.in1.handled = none from I.ok.hd hc) it a hia its.toArray) he ⟨hit, p⟩ hi hne (by simp [hne, hea]) fun v h' tk hP ho hit' hT hsz hk => ?_
    have ev : v = u := by
      have hP : its.toArray[i]? = some v := hP
      have hu2 : its.toArray[i]? = some u := by simpa using hu
      rw [hu2] at hP
      exact (Option.some.inj hP).symm
    subst ev
    refine ⟨_, rfl, wpAny_letOwnedTupleGo_enum (s := { s with heap := h', toks := tk + 1 }) ho fun h'' he' sb => ?_⟩
    have hT2 : h''.get? s.heap.objs.size = some { cls := .type "tuple", data := .seq #[.int i tk, v] } := (sb.2 _ (Nat.ne_of_gt hel)).trans hT
    have new : ObjOk X.prog X.w (upd H s.heap.objs.size (.tup [.int (i : Nat), x])) h'' s.heap.objs.size (.tup [.int (i : Nat), x]) :=
      ⟨by show 2 ≤ sizeLine; decide, [.int i tk, v], .cons ⟨_, rfl⟩ (.cons ru .nil), ⟨_, hT2, rfl, _, rfl⟩⟩
    have I1 : Inv X pins σ (upd H s.heap.objs.size (.tup [.int (i : Nat), x])) { s with heap := h'', toks := tk + 1 } :=
      I.turnedNew (ch := [e, it]) (fun b ob hb q => (sb.2 b (fun z => hb (by simp [z]))).trans (hk b ob (fun z => hb (by simp [z])) (fun z => hb (by simp [z])) q)) hf (Nat.le_refl _) new
    refine ⟨.ref s.heap.objs.size, _, I1, rfl, ⟨_, x, rfl, I.hok.fresh (Nat.le_refl _), rfl, fun ys hy => by rw [I.tuple_inj hy hq]; exact hx⟩, ⟨⟨v, ?_⟩, hit'.1.at fun o q => (sb.2 it (Ne.symm hne)).trans q, hne⟩, fun b hb => ?_⟩
    · have e1 : ((i + 1 : Nat) : Int) = (i : Int) + 1 := by omega
      rw [e1]
      exact he'
    · have hb' : b < s.heap.objs.size := by
        have e' : b = e ∨ b = it := by simpa using hb
        rcases e' with z | z
        · rw [z]
          exact hel
        · rw [z]
          exact hil
      rw [upd_ne (Nat.ne_of_lt hb')]
      exact (hf b hb).1
  done := by
    intro X hP hw hK hc i pins s σ H E I hf st hg
    subst hP hw hK
    obtain ⟨⟨old, he⟩, hit, hne⟩ := st
    obtain ⟨xs, hq, hx⟩ := hg
    obtain ⟨its, rv, p, hz⟩ := I.tuple hq
    obtain ⟨f0, f1, f2, f3, f4, f5⟩ := hf it (by simp)
    have hl := rv.length
    exact wpAny_pyNext_enum_endD (draws_tup_end (show X.A.in1.handled = none from I.ok.hd hc) it a its.toArray i (by simp; omega)) he ⟨rfl, hit, p⟩ fun h' eb => ⟨rfl, I.turned (t' := s.toks) (fun b o hb q => eb b o hb q) f0 f1 f3 f4 f5⟩
  self := fun A i s Q E st h => let ⟨⟨_, he⟩, _⟩ := st; wpAny_pyIter_enum he h
theorem yields_enumTup {K : PySem.W.Frag} {F : Hp} {a : Addr} {xs : List V} {ds : List D} (h : F a = some (.tup xs)) (r : RpL K F ds xs) : Yields K F (IteT K a) (enumD 0 ds) := by
  intro W F' H' σ δ i S e
  have h1 : SqT K H' a xs := SqT.of (S.fh _ _ (e _ _ h))
  refine ⟨fun d hd => ?_, fun hn => ?_⟩
  · rw [enumD_get] at hd
    cases hc : ds[i]? with
    | none =>
      rw [hc] at hd
      cases hd
    | some d0 =>
      rw [hc] at hd
      have hd : some (D.tup [.int ((0 + i : Nat) : Int), d0]) = some d := hd
      cases hd
      obtain ⟨x, hx, rx⟩ := r.get hc
      refine ⟨⟨xs, x, h1, hx⟩, fun y H'' hy => ?_⟩
      obtain ⟨T, x', rfl, hT, rfl, hy⟩ := hy
      have := hy xs h1
      rw [hx] at this
      cases this
      rw [Nat.zero_add]
      exact yield_new S hT (Rp.mono e _ _ rx)
  · refine ⟨xs, h1, ?_⟩
    have := List.getElem?_eq_none_iff.mp hn
    rw [enumD_len] at this
    rw [r.length]
    exact this
def tEnumT (K : PySem.W.Frag) (ta : TA) : TI := fun σ H R => ta σ H fun vs H1 => ∃ a xs, vs = [.ref a] ∧ SqT K H1 a xs ∧ R (IteT K a) H1
theorem pi_enumTup {X : Cx} {e : Expr} {ta : TA} {p pos tpos : Pos} {elts : List Expr} {kk : Nat} (hg : Gl X "enumerate") (hm : X.mg "enumerate" = none) (ha : PA X [e] ta) (hs : starEach [e] X.env = [(false, eval e X.env)] := by rfl) :
    PI X (.Tuple elts kk tpos) (.Call (.Name "enumerate" p) [e] [] pos) (tEnumT X.K ta) := by
  refine ⟨fun pins s σ H R I h => ?_⟩
  refine Call_ (ld_blt I hg hm boot_enumerate (PyProof.Rows.callWith_type1 (thn (ha.run pos pins s σ H _ I h) fun us s1 ⟨vs, H1, I1, r1, q1⟩ => ?_) hs rfl))
  have fp2 : ∀ b ∈ [s1.heap.objs.size + 1, s1.heap.objs.size], s1.heap.objs.size ≤ b := fun b hb => by
    have e' : b = s1.heap.objs.size + 1 ∨ b = s1.heap.objs.size := by simpa using hb
    rcases e' with z | z
    · rw [z]
      exact Nat.le_succ _
    · rw [z]
      exact Nat.le_refl _
  obtain ⟨a, xs, rfl, hq, q⟩ := q1
  cases r1 with
  | cons r rr =>
    cases rr
    cases r
    obtain ⟨its, rv, p', hz⟩ := I1.tuple hq
    have hal : a < s1.heap.objs.size := by
      obtain ⟨o, ho, _⟩ := p'
      exact Heap.lt_size ho
    refine call_enum_tup (show s1.heap.IsTuple a its.toArray from p') fun h' he hit hsz hk => wpAny_pyIter_enum he ?_
    have I2 : Inv X pins σ H1 { s1 with heap := h' } := I1.kept (t' := s1.toks) hk
    exact ⟨s1.heap.objs.size + 1, [s1.heap.objs.size + 1, s1.heap.objs.size], _, _, H1, rfl, I2, turn_enumTup a (s1.heap.objs.size + 1) s1.heap.objs.size (Nat.ne_of_gt (Nat.lt_succ_of_lt hal)) (Nat.ne_of_lt hal), ⟨⟨.none, he⟩, hit, Nat.succ_ne_self _⟩, fun b hb => I1.fpOk (fp2 b hb) (I1.hok.fresh (fp2 b hb)), q⟩
def iEnumT (t : TDA) : TDI := fun δ Q => t δ fun ds δ1 => ∃ es, ds = [.tup es] ∧ Q (enumD 0 es) δ1
theorem di_enumT {X : Cx} {W : Fix} {e : Expr} {t : TDA} {p pos tpos : Pos} {elts : List Expr} {kk : Nat} (hg : Gl X "enumerate") (hm : X.mg "enumerate" = none) (h : DA X W [e] t) (hs : starEach [e] X.env = [(false, eval e X.env)] := by rfl) :
    DI X W (.Tuple elts kk tpos) (.Call (.Name "enumerate" p) [e] [] pos) (iEnumT t) := by
  refine ⟨fun F H σ δ Q S q pins s I => (pi_enumTup (X := X) (ta := cA X [e]) hg hm cA_pa hs).run pins s σ H _ I ?_⟩
  refine (h.run F H σ δ _ S q).imp fun vs H1 h1 => ?_
  obtain ⟨F1, ds, δ1, e1, S1, r1, q1⟩ := h1
  obtain ⟨es, rfl, q1⟩ := q1
  obtain ⟨v, rfl, rv⟩ := rpL1 r1
  obtain ⟨a, xs, rfl, h2, h3⟩ := rpTupS rv
  exact ⟨a, xs, rfl, SqT.of (S1.fh _ _ h2), F1, _, δ1, e1, S1, yields_enumTup h2 h3, q1⟩
end DD

set_option Elab.async false
set_option linter.all false
set_option maxRecDepth 100000
set_option maxHeartbeats 4000000

set_option Elab.async false
set_option linter.all false
set_option maxRecDepth 100000
set_option maxHeartbeats 4000000

set_option Elab.async false
set_option linter.all false
set_option maxRecDepth 100000
set_option maxHeartbeats 4000000
namespace DD
open PySem PySem.Spec PyProof.Rows L2
def seenK {K : Type} [DecidableEq K] (val : Nat → K) : Nat → List K
  | 0 => []
  | i + 1 => if val i ∈ seenK val i then seenK val i else seenK val i ++ [val i]
section
variable {prog : Program} {w : World} {A : Around} {R : Result → Shared → Prop} {I : Addr} {fp wr : List Addr} {G : Array GenState → Array GenState → Prop} {n : Nat} {P : Nat → Value → Prop} {St : Nat → Shared → Prop}
variable {K : Type} [DecidableEq K] [BEq K] [LawfulBEq K] {knd : KeyKind prog w K}
def Held (knd : KeyKind prog w K) (S : Addr) (val : Nat → K) (i : Nat) (h : Heap) : Prop := h.SetOf knd S (fun q => decide (q ∈ seenK val i)) (seenK val i).length
theorem Held.up {S : Addr} {val : Nat → K} {i : Nat} {h : Heap} (z : h.SetOf knd S (fun q => decide (q ∈ seenK val i) || decide (q = val i)) (if decide (val i ∈ seenK val i) = true then (seenK val i).length else (seenK val i).length + 1)) : Held knd S val (i + 1) h := by
  unfold Held
  refine SetOf_congr z (fun q => ?_) ?_
  · rw [seenK]
    by_cases c : val i ∈ seenK val i
    · rw [if_pos c]
      by_cases e : q = val i
      · rw [e, decide_eq_true c]
        rfl
      · rw [decide_eq_false e, Bool.or_false]
    · rw [if_neg c, Bool.eq_iff_iff]
      simp
  · rw [seenK]
    by_cases c : val i ∈ seenK val i
    · rw [if_pos c, if_pos (decide_eq_true c)]
    · rw [if_neg c, if_neg (by rw [decide_eq_false c]; exact Bool.false_ne_true), List.length_append, List.length_singleton]
end
end DD

set_option Elab.async false
set_option linter.all false
set_option maxRecDepth 100000
set_option maxHeartbeats 4000000

set_option Elab.async false
set_option linter.all false
set_option maxRecDepth 100000
set_option maxHeartbeats 4000000

set_option Elab.async false
set_option linter.all false
set_option maxRecDepth 100000
set_option maxHeartbeats 4000000

set_option Elab.async false
set_option linter.all false
set_option maxRecDepth 100000
set_option maxHeartbeats 4000000

set_option Elab.async false
set_option linter.all false
set_option maxRecDepth 100000
set_option maxHeartbeats 4000000

set_option linter.all false

set_option Elab.async false
set_option linter.all false
set_option maxRecDepth 100000
set_option maxHeartbeats 4000000
namespace DD
open PySem PySem.Spec PyProof.Rows L2
structure Hd where
  x : Str
  np : Pos
  pos : Pos
  b0 : Stmt
  bs : List Stmt
  c : Value
  tb : Addr → TS
def Hd.st (n : Str) (h : Hd) : ExceptHandler := .ExceptHandler (some (.Name h.x h.np)) (some n) (h.b0 :: h.bs) h.pos
structure HdD where
  x : Str
  np : Pos
  pos : Pos
  b0 : Stmt
  bs : List Stmt
  c : Value
  tb : TSD
def HdD.hd (X : Cx) (h : HdD) : Hd := ⟨h.x, h.np, h.pos, h.b0, h.bs, h.c, fun a D σ H => ∀ pn, cSs (X.suite a pn) (h.b0 :: h.bs) D σ H⟩
def HdD.st (n : Str) (h : HdD) : ExceptHandler := .ExceptHandler (some (.Name h.x h.np)) (some n) (h.b0 :: h.bs) h.pos
end DD

set_option Elab.async false
set_option linter.all false
set_option maxRecDepth 100000
set_option maxHeartbeats 4000000
namespace DD
open PySem PySem.Spec PyProof.Rows L2
def eiG (g g' : D → D → (B → Prop) → Prop) : D → D → (B → Prop) → Prop := fun x y Q => g x y Q ∨ g' x y Q
section
variable {X : Cx} {n m : Nat} {R : EqR}
theorem RcK.or {R' : EqR} (h : RcK X n R) (h' : RcK X n R') : RcK X n (fun c d k => R c d k ∨ R' c d k) := fun A pins s σ F H c d x y u v k b I e r1 r2 l1 l2 z => by
  rcases z with z | z
  · exact h A pins s σ F H c d x y u v k b I e r1 r2 l1 l2 z
  · exact h' A pins s σ F H c d x y u v k b I e r1 r2 l1 l2 z
end
section
variable {X : Cx} {W : Fix} {n k' : Nat} {R : EqR} {a b : Expr} {ta tb : TD} {pos : Pos}
def dctG0 : D → D → (B → Prop) → Prop := fun x y Q => x = .dct [] [] ∧ y = .dct [] [] ∧ Q (.p (.bl true))
def eqXG (R : EqR) : D → D → (B → Prop) → Prop := eiG (eiG eqG (eqKG R)) dctG0
def SmT (R : EqR) (t : D) : Prop := eqD t t = some true ∨ R t t true ∨ t = .dct [] []
theorem SmT.run {R : EqR} {t : D} {Q : B → Prop} (h : SmT R t) (q : Q (.p (.bl true))) : eqXG R t t Q := by
  rcases h with h | h | h
  · exact .inl (.inl ⟨true, h, q⟩)
  · exact .inl (.inr ⟨true, h, q⟩)
  · exact .inr ⟨h, h, q⟩
end
end DD

set_option Elab.async false
set_option linter.all false
set_option maxRecDepth 100000
set_option maxHeartbeats 4000000
namespace PyProof.Rows
open PySem HotX
open Sem (wp)
end PyProof.Rows

set_option Elab.async false
set_option linter.all false
set_option maxRecDepth 100000
set_option maxHeartbeats 4000000

set_option Elab.async false
set_option linter.all false
set_option maxRecDepth 100000
set_option maxHeartbeats 4000000

set_option Elab.async false
set_option linter.all false
set_option maxRecDepth 100000
namespace DD
open PySem PySem.Spec PyProof.Rows L2
def rGetL (K : PySem.W.Frag) : V → V → Hp → VK → Prop := fun o i H Q => ∃ a xs k x, o = .ref a ∧ i = .int k ∧ SqL K H a xs ∧ 0 ≤ k ∧ xs[k.toNat]? = some x ∧ Q x H
theorem get_listL {X : Cx} : PGet X (rGetL X.K) := by
  intro pins s σ H o i ov iv Q I ro ri h
  obtain ⟨a, xs, k, x, rfl, rfl, hq, h0, hx, q⟩ := h
  cases ro
  obtain ⟨t, rfl⟩ := ri
  obtain ⟨its, r, pl, hz⟩ := I.list hq
  obtain ⟨w, ew, rw'⟩ := r.get hx
  have hl := r.length
  have hk : k.toNat < xs.length := (List.getElem?_eq_some_iff.mp hx).1
  have hn := sizeLine_eq
  exact wpAny_getItem_list pl.isList h0 (by omega) (by simpa using ew) ⟨x, H, I, rw', q⟩
def dAugN (i : Nat) (f : Int → Int → Int) (te tv : TD) : TSD := fun Z δ => ownS i δ ∧ dp te δ fun y δ1 => ∃ ds k a, δ1[i]? = some (some (.o (.lst ds))) ∧ y = .int k ∧ 0 ≤ k ∧ ds[k.toNat]? = some (.int a) ∧
  dp tv δ1 fun z δ2 => ∃ b, z = .int b ∧ δ2[i]? = some (some (.o (.lst ds))) ∧ Z.nx (δ2.set i (some (.o (.lst (ds.set k.toNat (.int (f a b)))))))
section
variable {X : Cx} {W : Fix} {v e : Expr} {tv te : TD} {i : Nat} {x : Str} {p p2 pos : Pos}
theorem ds_augN {op : Operator} {f : Int → Int → Int} (i : Nat) (hu : X.A.units + 64 < cLine) (ho : PIp X op (ipI f)) (hi : DE X W e te) (he : DE X W v tv) (hN : X.N[i]? = some x := by rfl) (hv : Vis X.env.scope x := by first | exact Or.inl rfl | exact Or.inr (Or.inl rfl) | exact Or.inr (Or.inr rfl))
    (hd : (x == ("__debug__" : Str)) = false := by decide) (hcd : (x == ("__classdict__" : Str)) = false := by decide)
    (ha : ∀ ov iv new, augStore e ov iv new = (do holding [new, ov, iv] (setItem ov iv new); release [new, ov, iv] []; pure .next) := by intros; rfl) :
    DS X W (.AugAssign (.Subscript (.Name x p) e p2) op v pos) (dAugN i f te tv) :=
  .of (ps_augS (X := X) (pe_var (X := X) hN hv hd hcd) cE_pe get_listL cE_pe ho (set_X hu) ha) fun F H σ δ Z S q => by
    obtain ⟨⟨c0, hc0⟩, q1⟩ := q
    obtain ⟨v0, hv0, a0, rfl, hF0, hH0, hO0⟩ := S.get i _ hc0
    refine ⟨.ref a0, hv0, (hi.plain S q1).imp fun y H1 h1 => ?_⟩
    obtain ⟨F1, dy, δ1, e1, S1, r1, ds, k, a, hc1, rfl, hk0, hka, q2⟩ := h1
    obtain ⟨v1, hv1, a1, rfl, hF1, hH1, hO1⟩ := S1.get i _ hc1
    rw [hv0] at hv1
    cases hv1
    have hO1' := hO1
    obtain ⟨xs, hx, rx⟩ := hO1'
    obtain ⟨w, hw, rw1⟩ := rx.get hka
    obtain rfl := rpInt r1
    obtain rfl := rpInt rw1
    refine ⟨a0, xs, k, _, rfl, rfl, .of hx, hk0, hw, (he.plain S1 q2).imp fun u H2 h2 => ?_⟩
    obtain ⟨F2, dz, δ2, e2, S2, r2, b, rfl, hc2, q3⟩ := h2
    obtain rfl := rpInt r2
    refine ⟨a, b, rfl, rfl, ?_⟩
    obtain ⟨v2, hv2, a2, rfl, hF2, hH2, hO2⟩ := S2.get i _ hc2
    rw [hv0] at hv2
    cases hv2
    have hj : ixN ds.length k = some k.toNat := by
      have hlt := (List.getElem?_eq_some_iff.mp hka).1
      unfold ixN
      rw [if_pos hk0, if_pos (by omega)]
    exact own_set S2.fh hO2 (show Rp X.K F2 (.int k) (.int k) from rp_int) (show Rp X.K F2 (.int (f a b)) (.int (f a b)) from rp_int) (c' := .lst (ds.set k.toNat (.int (f a b)))) (by show (ixN ds.length k).map _ = _; rw [hj]; rfl) fun o ho => ⟨F2, _, S2.own_turn hc2 hv0 ho, q3⟩
end
end DD

set_option Elab.async false
set_option linter.all false
set_option maxRecDepth 100000
namespace DD
open PySem PySem.Spec PyProof.Rows L2
structure StaAt (K : PySem.W.Frag) (C : Addr) (m qual : Str) (st : Stmt) : Prop where
  rd : PySem.W.readsIn K C (.type "type") = true
  ga : PySem.W.specialIn K (.ref C) "__getattribute__" = some (some (.builtin "type.__getattribute__"))
  ex : ∃ p g fd rest, PySem.W.findCls K (.ref C) (.type "type") m = some (.get (.builtin "staticmethod.__get__") (.ref p) .none (.ref C)) ∧ PySem.W.recIn K p "staticmethod" = some (.ref g :: rest) ∧ Fun K m qual st g fd
structure StaC (P : Program) (w : World) (K : PySem.W.Frag) (mg : Str → Option Value) (base : Heap) (C : Addr) (m : Str) (k : Nat) (ps : List Str) (spd : Spd) : Prop where
  rd : PySem.W.readsIn K C (.type "type") = true
  ga : PySem.W.specialIn K (.ref C) "__getattribute__" = some (some (.builtin "type.__getattribute__"))
  ex : ∃ p g fd rest, PySem.W.findCls K (.ref C) (.type "type") m = some (.get (.builtin "staticmethod.__get__") (.ref p) .none (.ref C)) ∧ PySem.W.recIn K p "staticmethod" = some (.ref g :: rest) ∧
    GnOk P w K mg base k g fd ps (toSp K spd) ∧ PySem.W.keepIn K (.ref g) = true ∧ Binds K fd ps []
section
variable {P : Program} {w : World} {K : PySem.W.Frag} {mg : Str → Option Value} {base : Heap}
theorem sta_mk {C : Addr} {x qual : Str} {st : Stmt} {N ps : List Str} {k : Nat} {spd : Spd} (Da : StaAt K C x qual st) (S : FnScope N ps (defScope st))
    (hbd : ∀ (kV doc pm : Value) (an : Option Addr) (cdv ct : Value) (us : List Value), us.length = ps.length → bindArgs (PySem.W.fnOf x qual (defArgs st) (defBody st) (defScope st) .none kV doc pm an cdv ct) ⟨us, []⟩ = pure (ps.zip us))
    (len : ∀ bs R E, spd bs R E → bs.length = ps.length) (hpk : ∀ bs R E, spd bs R E → PurK none bs ∧ ((none : Option Nat) = none → ∀ b ∈ bs, b.own = false))
    (hbody : ∀ (f : Addr) (cdv : Value) (A : Around) (outer : List Env) (s : Shared) (H : Hp) (E : XK) (W : Fix) (bs : List B) (R : B → Nat → Prop) (ED : Addr → List DD.D → Nat → Prop), A.guards = some [] →
      Room k (A.deeper (envOfC qual (defScope st) s.heap.objs.size f cdv)) → TkE (cxOf (L2N.CX P w) P w K mg base N qual (defScope st) f cdv A outer s H E) W (fun C ds δ => ∃ m, PC none δ m ∧ ED C ds m) → spd bs R ED → Same W.F0 W.H0 →
      ∃ t, DSs (cxOf (L2N.CX P w) P w K mg base N qual (defScope st) f cdv A outer s H E) W (defBody st) t ∧
        t { nx := fun δ => ∃ m, PC none δ m ∧ R (.p .non) m, rt := fun b δ => b.isR = false ∧ ∃ m, PC none δ m ∧ R b m } (startD N bs)) : StaC P w K mg base C x (k + 1) ps spd := by
  obtain ⟨p, g, fd, rest, h1, h2, F⟩ := Da.ex
  exact ⟨Da.rd, Da.ga, p, g, fd, rest, h1, h2, gd_of none F S len hpk (hbody g), F.kp, F.binds hbd⟩
end
section
variable {X : Cx} {k k' : Nat} {C : Addr} {sp : Sp} {o e : Expr} {es : List Expr} {f m : Str} {pos apos : Pos} {ta : TE} {t : TA} {pl : Sem Bool}
theorem sta_get {σ : L2.St} {H : Hp} {s : Shared} {pins : List (Addr × Obj)} {p g : Addr} {rest : List Value} {Q : Value × List Value → Shared → Prop} {E : Value → Shared → Prop} {A : Around} (I : Inv X pins σ H s) (rd : PySem.W.readsIn X.K C (.type "type") = true)
    (ga : PySem.W.specialIn X.K (.ref C) "__getattribute__" = some (some (.builtin "type.__getattribute__"))) (at_ : PySem.W.findCls X.K (.ref C) (.type "type") m = some (.get (.builtin "staticmethod.__get__") (.ref p) .none (.ref C)))
    (hp : PySem.W.recIn X.K p "staticmethod" = some (.ref g :: rest)) (h : ∀ s', Inv X pins σ H s' → Q (.ref g, []) s') : wpAny (model X.prog X.w) A (getMethod (.ref C) m pl) Q E s := by
  refine PySem.W.method_cls I.kIn ga ?_
  refine PySem.W.cls_bind I.kIn rd at_ ?_
  exact wpAny_call (PySem.W.sm_get (s := { s with toks := s.toks + 1 }) I.kIn hp (PySem.W.handed_on rfl (h _ (I.tok _))))
def tSta (C : Addr) (sp : Sp) (dvs : List V) (Es : L2.St → XK) (ta : TE) (t : TA) : TE := fun σ H Q => ta σ H fun x H1 => x = .ref C ∧ t σ H1 fun vs H2 => sp (vs ++ dvs) H2 Q (Es σ)
theorem pe_sta0 {p g : Addr} {fd : FuncData} {ps : List Str} {rest : List Value} {Es : L2.St → XK} (he : PE X o ta) (rd : PySem.W.readsIn X.K C (.type "type") = true)
    (ga : PySem.W.specialIn X.K (.ref C) "__getattribute__" = some (some (.builtin "type.__getattribute__"))) (at_ : PySem.W.findCls X.K (.ref C) (.type "type") m = some (.get (.builtin "staticmethod.__get__") (.ref p) .none (.ref C)))
    (hp : PySem.W.recIn X.K p "staticmethod" = some (.ref g :: rest)) (G : GnOk X.prog X.w X.K X.mg X.base k g fd ps sp) (gu : X.A.guards = some []) (hr : Room k X.A) (hk : PySem.W.keepIn X.K (.ref g) = true)
    (hb : Binds X.K fd ps []) (hx : ∀ σ, PassesAt (L2N.CX X.prog X.w) X σ (Es σ))
    (ht : eval (.Call (.Attribute o m apos) [] [] pos) X.env = (do
      let ov ← eval o X.env
      standAt apos.atName
      let (f, first) ← holding [ov] (getMethod ov m pl)
      callWith pos f first (backTo pos (starEach [] X.env)) (backToKw pos (keywordEach [] X.env))) := by rfl) :
    PE X (.Call (.Attribute o m apos) [] [] pos) (tSta C sp [] Es ta tNil) := by
  refine ⟨fun pins s σ H Q I h => ?_⟩
  refine PySem.W.methodCall_KW (pl := pl) (thn (he.run pins s σ H _ I h) fun u s1 ⟨x, H1, I1, rx, ex, q⟩ => ?_) ht
  subst ex
  obtain rfl : u = Value.ref C := rx
  refine sta_get I1 rd ga at_ hp fun s2 I2 => ?_
  exact PySem.W.callWith_K0 I2.kIn hk (run_g (us := []) G gu hr hb (dvs := []) .nil (fun e s' c => hx σ pins H1 s2 e s' I2 c) I2 .nil q)
end
section
variable {X : Cx} {W : Fix} {k k' : Nat} {C : Addr} {spd : Spd} {o e : Expr} {es : List Expr} {m : Str} {ps : List Str} {pos apos : Pos} {te : TD} {t : TDA} {E0 : Addr → List D → Env' → Prop}
def dSta (C : Addr) (spd : Spd) (Ew : Addr → List D → Env' → Prop) (te : TD) (t : TDA) : TD := fun δ Q => dp te δ fun d δ1 => d = .ref C ∧ t δ1 fun ds δ2 => spd (ds.map .p) (fun b _ => b.isU = false ∧ Q b δ2) fun D es _ => Ew D es δ2
theorem de_sta0 {pl : Sem Bool} (c : StaC X.prog X.w X.K X.mg X.base C m k ps spd) (gu : X.A.guards = some []) (hr : Room k' X.A) (ho : DE X W o te) (hk : k ≤ k' := by decide)
    (ht : eval (.Call (.Attribute o m apos) [] [] pos) X.env = (do
      let ov ← eval o X.env
      standAt apos.atName
      let (f, first) ← holding [ov] (getMethod ov m pl)
      callWith pos f first (backTo pos (starEach [] X.env)) (backToKw pos (keywordEach [] X.env))) := by rfl) : DE X W (.Call (.Attribute o m apos) [] [] pos) (dSta C spd (fun _ _ _ => False) te dNil) := by
  obtain ⟨p, g, fd, rest, h1, h2, G, kp, b⟩ := c.ex
  refine .of (pe_sta0 (X := X) (Es := fun _ _ _ _ => False) cE_pe c.rd c.ga h1 h2 G gu (hr.mono hk) kp b (fun σ => pass_none) ht) fun F H σ δ Q S q => ?_
  refine (ho.plain S q).imp fun v H1 z1 => ?_
  obtain ⟨F1, d, δ1, e1, S1, r1, rfl, q1⟩ := z1
  unfold Rp at r1
  refine ⟨r1, ?_⟩
  show toSp X.K spd [] _ _ _
  refine ⟨F1, none, _, _, _, S1.fh, paired_p (ds := []) .nil, (fun p e => by cases e), q1, fun v H' F' b m a r z => ?_, fun cls d H' F' C ds m a er z => z.elim⟩
  obtain ⟨r3, r4⟩ := RB.of_res S1 z.1 r
  exact ⟨F', b, δ1, e1.trans a.ff, S1.after a, r3, r4, z.2⟩
end
section
variable {X : Cx} {W : Fix} {k k' : Nat} {C : Addr} {spd : Spd} {e : Expr} {te : TD}
def tNotI (C : Addr) (sp : Sp) (ta : TE) : TE := fun σ H Q => ta σ H fun x H1 => ∃ a dx fs, x = .ref a ∧ H1 a = some (.ins C dx fs) ∧ sp [.ref a] H1 (fun v H' => ∃ b, v = .bl b ∧ Q (.bl (!b)) H') fun _ _ _ => False
theorem pe_notI {pos : Pos} {f : Addr} {fd : FuncData} {sp : Sp} {ta : TE} (he : PE X e ta) (gu : X.A.guards = some []) (hr : Room k X.A) (hm : Meth X.K C "__bool__" f) (G : GnOk X.prog X.w X.K X.mg X.base k f fd ["self"] sp) (hb : Binds X.K fd ["self"] []) : PE X (.UnaryOp .Not e pos) (tNotI C sp ta) := by
  refine ⟨fun pins s σ H Q I h => ?_⟩
  refine UnaryOp_ (thn (he.run pins s σ H _ I h) fun v s1 ⟨x, H1, I1, r1, a, dx, fs, ex, ha, q⟩ => ?_)
  subst ex
  obtain rfl : v = Value.ref a := r1
  obtain ⟨mA, O, _⟩ := ins_get I1.hok ha
  obtain ⟨od, J, _⟩ := O.look
  refine not_of (truthy_own I1.kIn J hm.at_ hm.fn ?_)
  have b2 := hb s1 [.ref a] I1.kIn rfl
  refine wpAny_call (codeAny_mono (G.run X.A X.stack s1 H1 ⟨[.ref a], []⟩ [.ref a] [.ref a] _ _ gu hr I1.env0 b2 (.cons rfl .nil) q) fun r s' hq => ?_)
  cases r with
  | error er =>
    obtain ⟨_, _, _, _, _, _, _, _, _, _, _, _, z⟩ := hq
    exact z.elim
  | ok fl =>
    cases fl with
    | ret u =>
      obtain ⟨v, H', I3, rv, b, rfl, q3⟩ := I1.after hq
      obtain rfl : u = Value.bool b := rv
      exact ⟨b, rfl, .bl (!b), H', I3, rfl, q3⟩
    | next => exact False.elim hq
    | brk => exact False.elim hq
    | cont => exact False.elim hq
def dNotI (C : Addr) (spd : Spd) (te : TD) : TD := fun δ Q => dp te δ fun d δ1 => (∃ ns es, d = .ins C ns es) ∧ spd [.p d] (fun b _ => ∃ k, b = .p (.bl k) ∧ Q (.p (.bl (!k))) δ1) fun _ _ _ => False
theorem de_notI {pos : Pos} (c : MethC X.prog X.w X.K X.mg X.base C "__bool__" k ["self"] spd) (gu : X.A.guards = some []) (hr : Room k' X.A) (h : DE X W e te) (hk : k ≤ k' := by decide) : DE X W (.UnaryOp .Not e pos) (dNotI C spd te) := by
  obtain ⟨f, fd, cl, mm, G, bb⟩ := c.ex
  refine .of (pe_notI (k := k) cE_pe gu (hr.mono hk) mm G bb) fun F H σ δ Q S q => ?_
  refine (h.plain S q).imp fun v H1 z1 => ?_
  obtain ⟨F1, d, δ1, e1, S1, r1, ⟨ns, es, rfl⟩, q1⟩ := z1
  have r0 := r1
  unfold Rp at r1
  obtain ⟨a, dx, xs, rfl, g1, g2, _⟩ := r1
  refine ⟨a, dx, _, rfl, S1.fh _ _ g1, ?_⟩
  refine ⟨F1, none, _, _, _, S1.fh, paired_p (.cons r0 .nil), (fun p e => by cases e), q1, fun v H' F' b m a r z => ?_, fun cls d H' F' C ds m a er z => z.elim⟩
  obtain ⟨k, rfl, q2⟩ := z
  obtain rfl : v = .bl k := r
  exact ⟨k, rfl, (DQ.mk (S1.after a) (d := .bl (!k)) (by unfold Rp; rfl) q2).back (e1.trans a.ff)⟩
end
end DD

set_option linter.all false
namespace DD
abbrev MRow := Nat × Nat × Nat
def addN (o : List Nat) (s : Nat) : List Nat := if s ∈ o then o else o ++ [s]
def rowAt (rs : List MRow) (q : Nat) : MRow := rs.getD q (0, 0, 0)
def visit (rs : List MRow) (o : List Nat) (q : Nat) : List Nat := addN (addN (addN o (rowAt rs q).1) (rowAt rs q).2.1) (rowAt rs q).2.2
def bfs (rs : List MRow) : Nat → List Nat
  | 0 => [0]
  | k + 1 => if k < (bfs rs k).length then visit rs (bfs rs k) ((bfs rs k).getD k 0) else bfs rs k
structure RowsOk (rs : List MRow) : Prop where
  pos : 0 < rs.length
  le : rs.length ≤ 4094
  lt : ∀ r ∈ rs, r.1 < rs.length ∧ r.2.1 < rs.length ∧ r.2.2 < rs.length
structure OrdOk (n : Nat) (o : List Nat) : Prop where
  nd : o.Nodup
  lt : ∀ x ∈ o, x < n
theorem OrdOk.len {n : Nat} {o : List Nat} (h : OrdOk n o) : o.length ≤ n := by
  have := h.nd.length_le_of_subset (l₂ := List.range n) fun x hx => List.mem_range.mpr (h.lt x hx)
  simpa using this
theorem OrdOk.add {n : Nat} {o : List Nat} {s : Nat} (h : OrdOk n o) (hs : s < n) : OrdOk n (addN o s) := by
  unfold addN
  by_cases e : s ∈ o
  · rw [if_pos e]
    exact h
  · rw [if_neg e]
    refine ⟨?_, fun x hx => ?_⟩
    · rw [List.nodup_append]
      exact ⟨h.nd, by simp, fun a ha b hb => by
        rw [List.mem_singleton.mp hb]
        exact fun z => e (z ▸ ha)⟩
    · rcases List.mem_append.mp hx with z | z
      · exact h.lt x z
      · rw [List.mem_singleton.mp z]
        exact hs
theorem RowsOk.at {rs : List MRow} (ok : RowsOk rs) {q : Nat} (h : q < rs.length) : rs[q]? = some (rowAt rs q) ∧ (rowAt rs q).1 < rs.length ∧ (rowAt rs q).2.1 < rs.length ∧ (rowAt rs q).2.2 < rs.length := by
  have e : rs[q]? = some rs[q] := List.getElem?_eq_getElem h
  have e2 : rowAt rs q = rs[q] := by
    unfold rowAt
    rw [List.getD_eq_getElem?_getD, e]
    rfl
  rw [e2]
  exact ⟨e, ok.lt _ (List.getElem_mem h)⟩
theorem OrdOk.visit {rs : List MRow} {o : List Nat} {q : Nat} (ok : RowsOk rs) (h : OrdOk rs.length o) (hq : q < rs.length) : OrdOk rs.length (visit rs o q) := by
  obtain ⟨_, h1, h2, h3⟩ := ok.at hq
  exact ((h.add h1).add h2).add h3
theorem bfs_ok {rs : List MRow} (ok : RowsOk rs) : ∀ k, OrdOk rs.length (bfs rs k)
  | 0 => ⟨by simp [bfs], fun x hx => by
    rw [List.mem_singleton.mp (show x ∈ [0] from hx)]
    exact ok.pos⟩
  | k + 1 => by
    unfold bfs
    by_cases h : k < (bfs rs k).length
    · rw [if_pos h]
      refine (bfs_ok ok k).visit ok ((bfs_ok ok k).lt _ ?_)
      rw [List.getD_eq_getElem?_getD, List.getElem?_eq_getElem h]
      exact List.getElem_mem h
    · rw [if_neg h]
      exact bfs_ok ok k
theorem addN_in {o : List Nat} {s : Nat} (h : s ∈ o) : addN o s = o := if_pos h
theorem addN_out {o : List Nat} {s : Nat} (h : s ∉ o) : addN o s = o ++ [s] := if_neg h
theorem addN_pre {o : List Nat} {s : Nat} : ∃ t, addN o s = o ++ t := by
  unfold addN
  split
  · exact ⟨[], (List.append_nil _).symm⟩
  · exact ⟨[s], rfl⟩
theorem mem_addN {o : List Nat} {s x : Nat} (h : x ∈ o) : x ∈ addN o s := by
  obtain ⟨t, e⟩ := addN_pre (o := o) (s := s)
  rw [e]
  exact List.mem_append_left _ h
theorem addN_mem {o : List Nat} {s : Nat} : s ∈ addN o s := by
  unfold addN
  split
  · assumption
  · exact List.mem_append_right _ (List.mem_singleton.mpr rfl)
theorem visit_pre {rs : List MRow} {o : List Nat} {q : Nat} : ∃ t, visit rs o q = o ++ t := by
  obtain ⟨t1, e1⟩ := addN_pre (o := o) (s := (rowAt rs q).1)
  obtain ⟨t2, e2⟩ := addN_pre (o := addN o (rowAt rs q).1) (s := (rowAt rs q).2.1)
  obtain ⟨t3, e3⟩ := addN_pre (o := addN (addN o (rowAt rs q).1) (rowAt rs q).2.1) (s := (rowAt rs q).2.2)
  refine ⟨t1 ++ t2 ++ t3, ?_⟩
  unfold visit
  rw [e3, e2, e1]
  simp [List.append_assoc]
theorem visit_mem {rs : List MRow} {o : List Nat} {q : Nat} : (rowAt rs q).1 ∈ visit rs o q ∧ (rowAt rs q).2.1 ∈ visit rs o q ∧ (rowAt rs q).2.2 ∈ visit rs o q :=
  ⟨mem_addN (mem_addN addN_mem), mem_addN addN_mem, addN_mem⟩
theorem visit_len {rs : List MRow} {o : List Nat} {q : Nat} : o.length ≤ (visit rs o q).length := by
  obtain ⟨t, e⟩ := visit_pre (rs := rs) (o := o) (q := q)
  rw [e, List.length_append]
  exact Nat.le_add_right _ _
theorem bfs_step {rs : List MRow} {k : Nat} (h : k < (bfs rs k).length) : bfs rs (k + 1) = visit rs (bfs rs k) ((bfs rs k).getD k 0) := if_pos h
theorem bfs_stop {rs : List MRow} {k : Nat} (h : (bfs rs k).length ≤ k) : ∀ j, bfs rs (k + j) = bfs rs k
  | 0 => rfl
  | j + 1 => by
    show (if k + j < (bfs rs (k + j)).length then _ else bfs rs (k + j)) = _
    rw [bfs_stop h j, if_neg (by omega)]
theorem bfs_end {rs : List MRow} {k : Nat} (h : (bfs rs k).length ≤ k) (hk : k ≤ rs.length) : bfs rs rs.length = bfs rs k := by
  have := bfs_stop h (rs.length - k)
  rw [show k + (rs.length - k) = rs.length by omega] at this
  exact this
theorem bfs_pre {rs : List MRow} : ∀ {k j : Nat}, ∃ t, bfs rs (k + j) = bfs rs k ++ t
  | k, 0 => ⟨[], (List.append_nil _).symm⟩
  | k, j + 1 => by
    obtain ⟨t, e⟩ := bfs_pre (rs := rs) (k := k) (j := j)
    show ∃ t, (if k + j < (bfs rs (k + j)).length then visit rs (bfs rs (k + j)) ((bfs rs (k + j)).getD (k + j) 0) else bfs rs (k + j)) = _
    split
    · obtain ⟨u, e2⟩ := visit_pre (rs := rs) (o := bfs rs (k + j)) (q := (bfs rs (k + j)).getD (k + j) 0)
      exact ⟨t ++ u, by rw [e2, e, List.append_assoc]⟩
    · exact ⟨t, e⟩
def met (rs : List MRow) : List Nat := bfs rs rs.length
theorem met_ok {rs : List MRow} (ok : RowsOk rs) : OrdOk rs.length (met rs) := bfs_ok ok _
theorem met_at {rs : List MRow} (ok : RowsOk rs) {i : Nat} (hi : i < (met rs).length) : i < (bfs rs i).length ∧ (bfs rs i).getD i 0 = (met rs)[i] ∧ i < rs.length := by
  have hl := (met_ok ok).len
  have hi2 : i < rs.length := by omega
  have h1 : i < (bfs rs i).length := by
    by_cases h : i < (bfs rs i).length
    · exact h
    · have e := bfs_end (rs := rs) (k := i) (by omega) (by omega)
      have : (met rs).length = (bfs rs i).length := by
        unfold met
        rw [e]
      omega
  refine ⟨h1, ?_, hi2⟩
  obtain ⟨t, e⟩ := bfs_pre (rs := rs) (k := i) (j := rs.length - i)
  rw [show i + (rs.length - i) = rs.length by omega] at e
  rw [List.getD_eq_getElem?_getD, List.getElem?_eq_getElem h1]
  have : (met rs)[i]? = some (bfs rs i)[i] := by
    unfold met
    rw [e, List.getElem?_append_left h1, List.getElem?_eq_getElem h1]
  rw [List.getElem?_eq_getElem hi] at this
  exact (Option.some.inj this).symm
theorem met_next {rs : List MRow} (ok : RowsOk rs) {i : Nat} (hi : i < (met rs).length) : ∃ t, met rs = visit rs (bfs rs i) (met rs)[i] ++ t := by
  obtain ⟨h1, h2, h3⟩ := met_at ok hi
  obtain ⟨t, e⟩ := bfs_pre (rs := rs) (k := i + 1) (j := rs.length - (i + 1))
  rw [show i + 1 + (rs.length - (i + 1)) = rs.length by omega, bfs_step h1, h2] at e
  exact ⟨t, e⟩
theorem met_closed {rs : List MRow} (ok : RowsOk rs) : ∀ q ∈ met rs, (rowAt rs q).1 ∈ met rs ∧ (rowAt rs q).2.1 ∈ met rs ∧ (rowAt rs q).2.2 ∈ met rs := fun q hq => by
  obtain ⟨i, hi, rfl⟩ := List.getElem_of_mem hq
  obtain ⟨t, e⟩ := met_next ok hi
  obtain ⟨h1, h2, h3⟩ := visit_mem (rs := rs) (o := bfs rs i) (q := (met rs)[i])
  have sub : ∀ x, x ∈ visit rs (bfs rs i) (met rs)[i] → x ∈ met rs := fun x hx => by
    rw [e]
    exact List.mem_append_left _ hx
  exact ⟨sub _ h1, sub _ h2, sub _ h3⟩
theorem met_zero {rs : List MRow} : ∃ t, met rs = 0 :: t := by
  obtain ⟨t, e⟩ := bfs_pre (rs := rs) (k := 0) (j := rs.length)
  rw [Nat.zero_add] at e
  exact ⟨t, e⟩
def nxt (rs : List MRow) (q a : Nat) : Nat := match a with
  | 0 => (rowAt rs q).1
  | 1 => (rowAt rs q).2.1
  | _ => (rowAt rs q).2.2
def mrun (rs : List MRow) (q : Nat) (w : List Nat) : Nat := w.foldl (nxt rs) q
theorem nxt_lt {rs : List MRow} (ok : RowsOk rs) {q : Nat} (h : q < rs.length) (a : Nat) : nxt rs q a < rs.length := by
  obtain ⟨_, h1, h2, h3⟩ := ok.at h
  unfold nxt
  split
  · exact h1
  · exact h2
  · exact h3
theorem run_lt {rs : List MRow} (ok : RowsOk rs) : ∀ (w : List Nat) {q : Nat}, q < rs.length → mrun rs q w < rs.length
  | [], _, h => h
  | a :: w, q, h => run_lt ok w (q := nxt rs q a) (nxt_lt ok h a)
theorem nxt_met {rs : List MRow} (ok : RowsOk rs) {q : Nat} (h : q ∈ met rs) (a : Nat) : nxt rs q a ∈ met rs := by
  obtain ⟨h1, h2, h3⟩ := met_closed ok q h
  unfold nxt
  split
  · exact h1
  · exact h2
  · exact h3
theorem run_met {rs : List MRow} (ok : RowsOk rs) : ∀ (w : List Nat) {q : Nat}, q ∈ met rs → mrun rs q w ∈ met rs
  | [], _, h => h
  | a :: w, q, h => run_met ok w (q := nxt rs q a) (nxt_met ok h a)
theorem run_snoc {rs : List MRow} {q a : Nat} {w : List Nat} : mrun rs q (w ++ [a]) = nxt rs (mrun rs q w) a := by
  unfold mrun
  rw [List.foldl_append]
  rfl
theorem visit_of {rs : List MRow} {o : List Nat} {q x : Nat} (h : x ∈ visit rs o q) : x ∈ o ∨ ∃ a, a < 3 ∧ x = nxt rs q a := by
  have one : ∀ {o : List Nat} {s x : Nat}, x ∈ addN o s → x ∈ o ∨ x = s := fun {o s x} h => by
    unfold addN at h
    split at h
    · exact .inl h
    · rcases List.mem_append.mp h with z | z
      · exact .inl z
      · exact .inr (List.mem_singleton.mp z)
  rcases one h with h | rfl
  · rcases one h with h | rfl
    · rcases one h with h | rfl
      · exact .inl h
      · exact .inr ⟨0, by decide, rfl⟩
    · exact .inr ⟨1, by decide, rfl⟩
  · exact .inr ⟨2, by decide, rfl⟩
theorem bfs_reach {rs : List MRow} : ∀ k, ∀ x ∈ bfs rs k, ∃ w : List Nat, (∀ a ∈ w, a < 3) ∧ mrun rs 0 w = x
  | 0, x, hx => ⟨[], by simp, (List.mem_singleton.mp (show x ∈ [0] from hx)).symm⟩
  | k + 1, x, hx => by
    have hx : x ∈ (if k < (bfs rs k).length then visit rs (bfs rs k) ((bfs rs k).getD k 0) else bfs rs k) := hx
    by_cases h : k < (bfs rs k).length
    · rw [if_pos h] at hx
      rcases visit_of hx with hx | ⟨a, ha, rfl⟩
      · exact bfs_reach k x hx
      · have hm : (bfs rs k).getD k 0 ∈ bfs rs k := by
          rw [List.getD_eq_getElem?_getD, List.getElem?_eq_getElem h]
          exact List.getElem_mem h
        obtain ⟨w, h1, h2⟩ := bfs_reach k _ hm
        refine ⟨w ++ [a], fun b hb => ?_, by rw [run_snoc, h2]⟩
        rcases List.mem_append.mp hb with z | z
        · exact h1 b z
        · rw [List.mem_singleton.mp z]
          exact ha
    · rw [if_neg h] at hx
      exact bfs_reach k x hx
def plc (o : List Nat) (s : Nat) : Nat := o.idxOf s
theorem plc_lt {o : List Nat} {s : Nat} (h : s ∈ o) : plc o s < o.length := List.idxOf_lt_length_of_mem h
theorem plc_at {o : List Nat} {s : Nat} (h : s ∈ o) : o[plc o s]? = some s := by
  rw [List.getElem?_eq_getElem (plc_lt h)]
  exact congrArg some (List.getElem_idxOf (plc_lt h))
theorem plc_inj {o : List Nat} {s t : Nat} (h : s ∈ o) (g : t ∈ o) (e : plc o s = plc o t) : s = t := by
  have h1 := plc_at h
  rw [e, plc_at g] at h1
  exact (Option.some.inj h1).symm
def renRow (rs : List MRow) (o : List Nat) (q : Nat) : MRow := (plc o (rowAt rs q).1, plc o (rowAt rs q).2.1, plc o (rowAt rs q).2.2)
def renR (rs : List MRow) : List MRow := (met rs).map (renRow rs (met rs))
def renF (rs : List MRow) (fl : List Bool) : List Bool := (met rs).map fun q => fl.getD q false
theorem renR_len {rs : List MRow} : (renR rs).length = (met rs).length := List.length_map _
theorem renF_len {rs : List MRow} {fl : List Bool} : (renF rs fl).length = (met rs).length := List.length_map _
theorem renR_ok {rs : List MRow} (ok : RowsOk rs) : RowsOk (renR rs) where
  pos := by
    rw [renR_len]
    obtain ⟨t, e⟩ := met_zero (rs := rs)
    rw [e]
    exact Nat.succ_pos _
  le := by
    rw [renR_len]
    exact Nat.le_trans (met_ok ok).len ok.le
  lt := fun r hr => by
    obtain ⟨q, hq, rfl⟩ := List.mem_map.mp hr
    obtain ⟨h1, h2, h3⟩ := met_closed ok q hq
    rw [renR_len]
    exact ⟨plc_lt h1, plc_lt h2, plc_lt h3⟩
theorem renR_at {rs : List MRow} {q : Nat} (hq : q ∈ met rs) : rowAt (renR rs) (plc (met rs) q) = renRow rs (met rs) q := by
  unfold rowAt renR
  rw [List.getD_eq_getElem?_getD, List.getElem?_map, plc_at hq]
  rfl
theorem renR_nxt {rs : List MRow} {q a : Nat} (hq : q ∈ met rs) : nxt (renR rs) (plc (met rs) q) a = plc (met rs) (nxt rs q a) := by
  unfold nxt
  rw [renR_at hq]
  split <;> rfl
theorem renR_run {rs : List MRow} (ok : RowsOk rs) : ∀ (w : List Nat) {q : Nat}, q ∈ met rs → mrun (renR rs) (plc (met rs) q) w = plc (met rs) (mrun rs q w)
  | [], _, _ => rfl
  | a :: w, q, h => by
    show mrun (renR rs) (nxt (renR rs) (plc (met rs) q) a) w = plc (met rs) (mrun rs (nxt rs q a) w)
    rw [renR_nxt h]
    exact renR_run ok w (nxt_met ok h a)
theorem zero_met {rs : List MRow} : 0 ∈ met rs := by
  obtain ⟨t, e⟩ := met_zero (rs := rs)
  rw [e]
  exact List.mem_cons_self
theorem plc_zero {rs : List MRow} : plc (met rs) 0 = 0 := by
  obtain ⟨t, e⟩ := met_zero (rs := rs)
  unfold plc
  rw [e]
  simp
theorem renF_at {rs : List MRow} {fl : List Bool} {q : Nat} (hq : q ∈ met rs) : (renF rs fl).getD (plc (met rs) q) false = fl.getD q false := by
  unfold renF
  rw [List.getD_eq_getElem?_getD, List.getElem?_map, plc_at hq]
  rfl
def lang (rs : List MRow) (fl : List Bool) (w : List Nat) : Bool := fl.getD (mrun rs 0 w) false
theorem ren_lang {rs : List MRow} {fl : List Bool} (ok : RowsOk rs) (w : List Nat) : lang (renR rs) (renF rs fl) w = lang rs fl w := by
  unfold lang
  have h := renR_run ok w (q := 0) zero_met
  rw [plc_zero] at h
  rw [h, renF_at (run_met ok w zero_met)]
end DD

set_option linter.all false
namespace DD
section
variable {κ : Type} [DecidableEq κ]
def addK (o : List κ) (s : κ) : List κ := if s ∈ o then o else o ++ [s]
def idxK (l : List κ) (k : κ) : Nat := l.idxOf k
def nubs (l : List κ) : List κ := l.foldl addK []
theorem addK_in {o : List κ} {s : κ} (h : s ∈ o) : addK o s = o := if_pos h
theorem addK_out {o : List κ} {s : κ} (h : s ∉ o) : addK o s = o ++ [s] := if_neg h
theorem mem_addK {o : List κ} {s x : κ} : x ∈ addK o s ↔ x ∈ o ∨ x = s := by
  unfold addK
  split
  · rename_i h
    exact ⟨.inl, fun z => z.elim id fun e => e ▸ h⟩
  · rw [List.mem_append, List.mem_singleton]
theorem nodup_addK {o : List κ} {s : κ} (h : o.Nodup) : (addK o s).Nodup := by
  unfold addK
  split
  · exact h
  · rename_i n
    rw [List.nodup_append]
    exact ⟨h, by simp, fun a ha b hb => by
      rw [List.mem_singleton.mp hb]
      exact fun z => n (z ▸ ha)⟩
theorem nubs_fold {l : List κ} : ∀ {o : List κ}, o.Nodup → (l.foldl addK o).Nodup ∧ ∀ x, x ∈ l.foldl addK o ↔ x ∈ o ∨ x ∈ l := by
  induction l with
  | nil => intro o h; exact ⟨h, fun x => by simp⟩
  | cons a l ih =>
    intro o h
    obtain ⟨h1, h2⟩ := ih (nodup_addK (s := a) h)
    refine ⟨h1, fun x => ?_⟩
    rw [List.foldl_cons, h2, mem_addK, List.mem_cons, or_assoc]
theorem nubs_nodup {l : List κ} : (nubs l).Nodup := (nubs_fold List.nodup_nil).1
theorem idxK_lt {l : List κ} {k : κ} (h : k ∈ l) : idxK l k < l.length := List.idxOf_lt_length_of_mem h
theorem idxK_at {l : List κ} {k : κ} (h : k ∈ l) : l[idxK l k]? = some k := by
  rw [List.getElem?_eq_getElem (idxK_lt h)]
  exact congrArg some (List.getElem_idxOf _)
theorem mem_nubs {l : List κ} {x : κ} : x ∈ nubs l ↔ x ∈ l := by
  unfold nubs
  rw [(nubs_fold List.nodup_nil).2]
  simp
theorem nubs_snoc {l : List κ} {x : κ} : nubs (l ++ [x]) = addK (nubs l) x := by
  unfold nubs
  rw [List.foldl_append]
  rfl
theorem nubs_le {l : List κ} : (nubs l).length ≤ l.length := nubs_nodup.length_le_of_subset fun x hx => mem_nubs.mp hx
theorem len_eq {α : Type} {l m : List α} (h : l.Nodup) (g : m.Nodup) (e : ∀ x, x ∈ l ↔ x ∈ m) : l.length = m.length :=
  Nat.le_antisymm (h.length_le_of_subset fun x hx => (e x).mp hx) (g.length_le_of_subset fun x hx => (e x).mpr hx)
end
theorem inj_of_len {α β : Type} [DecidableEq β] {f : α → β} : ∀ {l : List α}, l.Nodup → (nubs (l.map f)).length = l.length → ∀ a ∈ l, ∀ b ∈ l, f a = f b → a = b
  | [], _, _, a, ha, _, _, _ => by cases ha
  | x :: l, hn, hl, a, ha, b, hb, e => by
    rw [List.nodup_cons] at hn
    have le : (nubs (l.map f)).length ≤ l.length := by
      have := nubs_le (l := l.map f)
      rwa [List.length_map] at this
    have key : (nubs ((x :: l).map f)).length ≤ (nubs (l.map f)).length + 1 := by
      have h1 : (nubs ((x :: l).map f)).Nodup := nubs_nodup
      have h2 := h1.length_le_of_subset (l₂ := f x :: nubs (l.map f)) fun y hy => by
        rw [mem_nubs, List.map_cons, List.mem_cons] at hy
        rw [List.mem_cons, mem_nubs]
        exact hy
      simpa using h2
    rw [List.length_cons] at hl
    have ih := inj_of_len (f := f) hn.2 (by omega)
    have nin : f x ∉ l.map f := fun z => by
      have h1 : (nubs ((x :: l).map f)).Nodup := nubs_nodup
      have h2 := h1.length_le_of_subset (l₂ := nubs (l.map f)) fun y hy => by
        rw [mem_nubs, List.map_cons, List.mem_cons] at hy
        rw [mem_nubs]
        rcases hy with rfl | hy
        · exact z
        · exact hy
      omega
    rcases List.mem_cons.mp ha with ha2 | ha2
    · rcases List.mem_cons.mp hb with hb2 | hb2
      · rw [ha2, hb2]
      · exact absurd (show f x ∈ l.map f from List.mem_map.mpr ⟨b, hb2, by rw [← e, ha2]⟩) nin
    · rcases List.mem_cons.mp hb with hb2 | hb2
      · exact absurd (show f x ∈ l.map f from List.mem_map.mpr ⟨a, ha2, by rw [e, hb2]⟩) nin
      · exact ih a ha2 b hb2 e
abbrev KeyN := Nat × Nat × Nat × Nat
def cAt (c : List Nat) (q : Nat) : Nat := c.getD q 0
def keyN (rs : List MRow) (c : List Nat) (q : Nat) : KeyN := (cAt c q, cAt c (rowAt rs q).1, cAt c (rowAt rs q).2.1, cAt c (rowAt rs q).2.2)
def keysN (rs : List MRow) (c : List Nat) : List KeyN := (List.range rs.length).map (keyN rs c)
def refine1 (rs : List MRow) (c : List Nat) : List Nat := (keysN rs c).map fun k => idxK (nubs (keysN rs c)) k
theorem keysN_len {rs : List MRow} {c : List Nat} : (keysN rs c).length = rs.length := by
  unfold keysN
  rw [List.length_map, List.length_range]
theorem refine1_len {rs : List MRow} {c : List Nat} : (refine1 rs c).length = rs.length := by
  unfold refine1
  rw [List.length_map, keysN_len]
theorem refine1_at {rs : List MRow} {c : List Nat} {q : Nat} (h : q < rs.length) : cAt (refine1 rs c) q = idxK (nubs (keysN rs c)) (keyN rs c q) := by
  unfold cAt refine1
  rw [List.getD_eq_getElem?_getD, List.getElem?_map]
  have e : (keysN rs c)[q]? = some (keyN rs c q) := by
    unfold keysN
    rw [List.getElem?_map, List.getElem?_range h]
    rfl
  rw [e]
  rfl
theorem keyN_mem {rs : List MRow} {c : List Nat} {q : Nat} (h : q < rs.length) : keyN rs c q ∈ nubs (keysN rs c) :=
  mem_nubs.mpr (List.mem_map.mpr ⟨q, List.mem_range.mpr h, rfl⟩)
theorem idx_inj {κ : Type} [DecidableEq κ] {l : List κ} {a b : κ} (ha : a ∈ l) (hb : b ∈ l) (e : idxK l a = idxK l b) : a = b := by
  have e : l.idxOf a = l.idxOf b := e
  have h1 : l[l.idxOf a]? = some a := by
    rw [List.getElem?_eq_getElem (List.idxOf_lt_length_of_mem ha)]
    exact congrArg some (List.getElem_idxOf _)
  have h2 : l[l.idxOf b]? = some b := by
    rw [List.getElem?_eq_getElem (List.idxOf_lt_length_of_mem hb)]
    exact congrArg some (List.getElem_idxOf _)
  rw [e, h2] at h1
  exact (Option.some.inj h1).symm
theorem refine1_eq {rs : List MRow} {c : List Nat} {p q : Nat} (hp : p < rs.length) (hq : q < rs.length) : cAt (refine1 rs c) p = cAt (refine1 rs c) q ↔ keyN rs c p = keyN rs c q := by
  rw [refine1_at hp, refine1_at hq]
  exact ⟨idx_inj (keyN_mem hp) (keyN_mem hq), fun e => by rw [e]⟩
def manyN (c : List Nat) : Nat := (nubs c).length
theorem range_all {c : List Nat} : (List.range c.length).map (cAt c) = c := by
  apply List.ext_getElem?
  intro i
  rw [List.getElem?_map]
  by_cases h : i < c.length
  · rw [List.getElem?_range h, List.getElem?_eq_getElem h]
    show some (c.getD i 0) = _
    rw [List.getD_eq_getElem?_getD, List.getElem?_eq_getElem h]
    rfl
  · rw [List.getElem?_eq_none (by rw [List.length_range]; omega), List.getElem?_eq_none (by omega)]
    rfl
theorem many_refine {rs : List MRow} {c : List Nat} : manyN (refine1 rs c) = (nubs (keysN rs c)).length := by
  have h : nubs (refine1 rs c) = nubs ((keysN rs c).map fun k => idxK (nubs (keysN rs c)) k) := rfl
  unfold manyN
  have e1 : ((nubs (keysN rs c)).map fun k => idxK (nubs (keysN rs c)) k).Nodup := by
    have hn : (nubs (keysN rs c)).Nodup := nubs_nodup
    rw [List.nodup_iff_pairwise_ne, List.pairwise_map]
    exact (List.Pairwise.imp_of_mem (fun {a b} ha hb (hne : a ≠ b) => fun z => hne (idx_inj ha hb z)) (List.nodup_iff_pairwise_ne.mp hn))
  rw [len_eq nubs_nodup e1 fun x => ?_, List.length_map]
  rw [mem_nubs]
  unfold refine1
  rw [List.mem_map, List.mem_map]
  constructor
  · rintro ⟨k, hk, rfl⟩
    exact ⟨k, mem_nubs.mpr hk, rfl⟩
  · rintro ⟨k, hk, rfl⟩
    exact ⟨k, mem_nubs.mp hk, rfl⟩
theorem many_le {rs : List MRow} {c : List Nat} (hc : c.length = rs.length) : manyN c ≤ (nubs (keysN rs c)).length := by
  unfold manyN
  have h1 : nubs c = nubs ((nubs (keysN rs c)).map (·.1)) ∨ True := .inr trivial
  have h2 : (nubs c).length ≤ ((nubs (keysN rs c)).map (·.1)).length := nubs_nodup.length_le_of_subset fun x hx => by
    rw [mem_nubs, ← range_all (c := c), List.mem_map] at hx
    obtain ⟨q, hq, rfl⟩ := hx
    rw [hc] at hq
    exact List.mem_map.mpr ⟨keyN rs c q, keyN_mem (List.mem_range.mp hq), rfl⟩
  rwa [List.length_map] at h2
theorem stable_of {rs : List MRow} {c : List Nat} (hc : c.length = rs.length) (h : (nubs (keysN rs c)).length = manyN c) {p q : Nat} (hp : p < rs.length) (hq : q < rs.length) (e : cAt c p = cAt c q) : keyN rs c p = keyN rs c q := by
  refine inj_of_len (f := fun k : KeyN => k.1) (l := nubs (keysN rs c)) nubs_nodup ?_ _ (keyN_mem hp) _ (keyN_mem hq) e
  rw [h]
  unfold manyN
  refine len_eq nubs_nodup nubs_nodup fun x => ?_
  rw [mem_nubs, mem_nubs, List.mem_map]
  constructor
  · rintro ⟨k, hk, rfl⟩
    rw [mem_nubs] at hk
    obtain ⟨q, hq, rfl⟩ := List.mem_map.mp hk
    rw [List.mem_range] at hq
    show c.getD q 0 ∈ c
    rw [List.getD_eq_getElem?_getD, List.getElem?_eq_getElem (by omega)]
    exact List.getElem_mem _
  · intro hx
    rw [← range_all (c := c), List.mem_map] at hx
    obtain ⟨q, hq, rfl⟩ := hx
    rw [hc] at hq
    exact ⟨keyN rs c q, keyN_mem (List.mem_range.mp hq), rfl⟩
def Same3 (w : List Nat) : Prop := ∀ a ∈ w, a < 3
def Alike (rs : List MRow) (fl : List Bool) (p q : Nat) : Prop := ∀ w, fl.getD (mrun rs p w) false = fl.getD (mrun rs q w) false
theorem Alike.next {rs : List MRow} {fl : List Bool} {p q : Nat} (h : Alike rs fl p q) (a : Nat) : Alike rs fl (nxt rs p a) (nxt rs q a) := fun w => h (a :: w)
structure Stab (rs : List MRow) (fl : List Bool) (c : List Nat) : Prop where
  len : c.length = rs.length
  acc : ∀ p q, p < rs.length → q < rs.length → cAt c p = cAt c q → fl.getD p false = fl.getD q false
  key : ∀ p q, p < rs.length → q < rs.length → cAt c p = cAt c q → keyN rs c p = keyN rs c q
  ali : ∀ p q, p < rs.length → q < rs.length → Alike rs fl p q → cAt c p = cAt c q
structure Part (rs : List MRow) (fl : List Bool) (c : List Nat) : Prop where
  len : c.length = rs.length
  acc : ∀ p q, p < rs.length → q < rs.length → cAt c p = cAt c q → fl.getD p false = fl.getD q false
  ali : ∀ p q, p < rs.length → q < rs.length → Alike rs fl p q → cAt c p = cAt c q
theorem key_next {rs : List MRow} {c : List Nat} {p q : Nat} (h : keyN rs c p = keyN rs c q) (a : Nat) : cAt c (nxt rs p a) = cAt c (nxt rs q a) := by
  unfold keyN at h
  simp only [Prod.mk.injEq] at h
  obtain ⟨_, h1, h2, h3⟩ := h
  unfold nxt
  split
  · exact h1
  · exact h2
  · exact h3
theorem Part.refine {rs : List MRow} {fl : List Bool} {c : List Nat} (ok : RowsOk rs) (h : Part rs fl c) : Part rs fl (refine1 rs c) where
  len := refine1_len
  acc := fun p q hp hq e => by
    have k := (refine1_eq hp hq).mp e
    exact h.acc p q hp hq (congrArg Prod.fst k)
  ali := fun p q hp hq al => by
    rw [refine1_eq hp hq]
    have n0 := h.ali _ _ (nxt_lt ok hp 0) (nxt_lt ok hq 0) (al.next 0)
    have n1 := h.ali _ _ (nxt_lt ok hp 1) (nxt_lt ok hq 1) (al.next 1)
    have n2 := h.ali _ _ (nxt_lt ok hp 2) (nxt_lt ok hq 2) (al.next 2)
    exact Prod.ext (h.ali p q hp hq al) (Prod.ext n0 (Prod.ext n1 n2))
theorem Part.stab {rs : List MRow} {fl : List Bool} {c : List Nat} (h : Part rs fl c) (hk : (nubs (keysN rs c)).length = manyN c) : Stab rs fl c :=
  ⟨h.len, h.acc, fun p q hp hq e => stable_of h.len hk hp hq e, h.ali⟩
theorem Stab.alike {rs : List MRow} {fl : List Bool} {c : List Nat} (ok : RowsOk rs) (h : Stab rs fl c) {p q : Nat} (hp : p < rs.length) (hq : q < rs.length) : cAt c p = cAt c q ↔ Alike rs fl p q := by
  refine ⟨fun e w => ?_, h.ali p q hp hq⟩
  induction w generalizing p q with
  | nil => exact h.acc p q hp hq e
  | cons a w ih => exact ih (nxt_lt ok hp a) (nxt_lt ok hq a) (key_next (h.key p q hp hq e) a)
def c01 (fl : List Bool) : List Nat := fl.map fun b => if b = true then 1 else 0
theorem c01_at {fl : List Bool} {q : Nat} (h : q < fl.length) : cAt (c01 fl) q = if fl.getD q false = true then 1 else 0 := by
  unfold cAt c01
  rw [List.getD_eq_getElem?_getD, List.getElem?_map, List.getD_eq_getElem?_getD, List.getElem?_eq_getElem h]
  rfl
theorem part_c01 {rs : List MRow} {fl : List Bool} (hl : fl.length = rs.length) : Part rs fl (c01 fl) where
  len := by
    unfold c01
    rw [List.length_map, hl]
  acc := fun p q hp hq e => by
    rw [c01_at (by omega), c01_at (by omega)] at e
    revert e
    cases fl.getD p false <;> cases fl.getD q false <;> simp
  ali := fun p q hp hq al => by
    rw [c01_at (by omega), c01_at (by omega)]
    have := al []
    have e : fl.getD p false = fl.getD q false := this
    rw [e]
def stay (rs : List MRow) : Nat → List Nat → List Nat
  | 0, c => c
  | k + 1, c => if (nubs (keysN rs c)).length = manyN c then c else stay rs k (refine1 rs c)
theorem stay_stab {rs : List MRow} {fl : List Bool} (ok : RowsOk rs) : ∀ (k : Nat) {c : List Nat}, Part rs fl c → rs.length ≤ manyN c + k → Stab rs fl (stay rs k c)
  | 0, c, h, hk => by
    have h1 := many_le (rs := rs) h.len
    have h2 := nubs_le (l := keysN rs c)
    rw [keysN_len] at h2
    exact h.stab (by omega)
  | k + 1, c, h, hk => by
    show Stab rs fl (if (nubs (keysN rs c)).length = manyN c then c else stay rs k (refine1 rs c))
    by_cases e : (nubs (keysN rs c)).length = manyN c
    · rw [if_pos e]
      exact h.stab e
    · rw [if_neg e]
      have h1 := many_le (rs := rs) h.len
      have h3 := many_refine (rs := rs) (c := c)
      exact stay_stab ok k (h.refine ok) (by omega)
def cls (rs : List MRow) (fl : List Bool) : List Nat := stay rs rs.length (c01 fl)
theorem cls_stab {rs : List MRow} {fl : List Bool} (ok : RowsOk rs) (hl : fl.length = rs.length) : Stab rs fl (cls rs fl) := stay_stab ok _ (part_c01 hl) (by omega)
def headN (c : List Nat) (x : Nat) : Nat := c.idxOf x
def joinRow (c : List Nat) (r : MRow) : MRow := (headN c (cAt c r.1), headN c (cAt c r.2.1), headN c (cAt c r.2.2))
def joinR (rs : List MRow) (c : List Nat) : List MRow := rs.map (joinRow c)
theorem cAt_mem {c : List Nat} {q : Nat} (h : q < c.length) : cAt c q ∈ c := by
  unfold cAt
  rw [List.getD_eq_getElem?_getD, List.getElem?_eq_getElem h]
  exact List.getElem_mem h
theorem head_lt {c : List Nat} {q : Nat} (h : q < c.length) : headN c (cAt c q) < c.length := List.idxOf_lt_length_of_mem (cAt_mem h)
theorem head_cls {c : List Nat} {q : Nat} (h : q < c.length) : cAt c (headN c (cAt c q)) = cAt c q := by
  have e : c[headN c (cAt c q)]? = some (cAt c q) := by
    rw [List.getElem?_eq_getElem (head_lt h)]
    exact congrArg some (List.getElem_idxOf _)
  show c.getD (headN c (cAt c q)) 0 = _
  rw [List.getD_eq_getElem?_getD, e]
  rfl
theorem head_eq {c c' : List Nat} (hl : c.length = c'.length) (h : ∀ p q, p < c.length → q < c.length → (cAt c p = cAt c q ↔ cAt c' p = cAt c' q)) {q : Nat} (hq : q < c.length) : headN c (cAt c q) = headN c' (cAt c' q) := by
  have key : ∀ {c c' : List Nat}, c.length = c'.length → (∀ p q, p < c.length → q < c.length → (cAt c p = cAt c q ↔ cAt c' p = cAt c' q)) → ∀ {q : Nat}, q < c.length → headN c (cAt c q) ≤ headN c' (cAt c' q) := by
    intro c c' hl h q hq
    have hq' : q < c'.length := by omega
    have h1 := head_cls hq'
    have h2 := head_lt hq'
    have h3 := (h _ _ (by omega) hq).mpr h1
    -- the first place of the class is no later
    have h4 : ∀ {l : List Nat} {i x : Nat}, l[i]? = some x → l.idxOf x ≤ i := by
      intro l
      induction l with
      | nil => intro i x e; simp at e
      | cons y l ih =>
        intro i x e
        rw [List.idxOf_cons]
        cases i with
        | zero =>
          simp at e
          subst e
          simp
        | succ i =>
          have := ih (i := i) (x := x) (by simpa using e)
          by_cases z : (y == x) = true
          · rw [z]
            simp
          · rw [Bool.eq_false_iff.mpr z]
            simp
            omega
    refine h4 ?_
    have e : c[headN c' (cAt c' q)]? = some (c.getD (headN c' (cAt c' q)) 0) := by
      rw [List.getD_eq_getElem?_getD, List.getElem?_eq_getElem (by omega)]
      rfl
    rw [e]
    exact congrArg some h3
  exact Nat.le_antisymm (key hl h hq) (key hl.symm (fun p q hp hq => (h p q (by omega) (by omega)).symm) (by omega))
theorem joinR_eq {rs : List MRow} {fl : List Bool} {c c' : List Nat} (ok : RowsOk rs) (h : Stab rs fl c) (g : Stab rs fl c') : joinR rs c = joinR rs c' := by
  have key : ∀ q, q < rs.length → headN c (cAt c q) = headN c' (cAt c' q) := fun q hq => head_eq (by rw [h.len, g.len]) (fun p q hp hq => by
    rw [h.len] at hp hq
    rw [h.alike ok hp hq, g.alike ok hp hq]) (by rw [h.len]; exact hq)
  unfold joinR
  refine List.map_congr_left fun r hr => ?_
  obtain ⟨h1, h2, h3⟩ := ok.lt r hr
  unfold joinRow
  rw [key _ h1, key _ h2, key _ h3]
theorem joinR_len {rs : List MRow} {c : List Nat} : (joinR rs c).length = rs.length := List.length_map _
theorem joinR_ok {rs : List MRow} {fl : List Bool} {c : List Nat} (ok : RowsOk rs) (h : Stab rs fl c) : RowsOk (joinR rs c) where
  pos := by
    rw [joinR_len]
    exact ok.pos
  le := by
    rw [joinR_len]
    exact ok.le
  lt := fun r hr => by
    obtain ⟨r', hr', rfl⟩ := List.mem_map.mp hr
    obtain ⟨h1, h2, h3⟩ := ok.lt r' hr'
    rw [joinR_len, ← h.len]
    exact ⟨head_lt (by rw [h.len]; exact h1), head_lt (by rw [h.len]; exact h2), head_lt (by rw [h.len]; exact h3)⟩
def jnR (rs : List MRow) (fl : List Bool) : List MRow := joinR (renR rs) (cls (renR rs) (renF rs fl))
def lstR (rs : List MRow) (fl : List Bool) : List MRow := renR (jnR rs fl)
def lstF (rs : List MRow) (fl : List Bool) : List Bool := renF (jnR rs fl) (renF rs fl)
theorem ren_stab {rs : List MRow} {fl : List Bool} (ok : RowsOk rs) : Stab (renR rs) (renF rs fl) (cls (renR rs) (renF rs fl)) := cls_stab (renR_ok ok) (by rw [renR_len, renF_len])
theorem jnR_ok {rs : List MRow} {fl : List Bool} (ok : RowsOk rs) : RowsOk (jnR rs fl) := joinR_ok (renR_ok ok) (ren_stab ok)
theorem jnR_len {rs : List MRow} {fl : List Bool} : (jnR rs fl).length = (renR rs).length := joinR_len
theorem lstR_ok {rs : List MRow} {fl : List Bool} (ok : RowsOk rs) : RowsOk (lstR rs fl) := renR_ok (jnR_ok ok)
theorem lst_len {rs : List MRow} {fl : List Bool} : (lstF rs fl).length = (lstR rs fl).length := by
  unfold lstF lstR
  rw [renF_len, renR_len]
end DD

set_option linter.all false
namespace DD
theorem nxt_join {rs : List MRow} {c : List Nat} {p : Nat} (hp : p < rs.length) (a : Nat) : nxt (joinR rs c) p a = headN c (cAt c (nxt rs p a)) := by
  have e : rowAt (joinR rs c) p = joinRow c (rowAt rs p) := by
    unfold rowAt joinR
    rw [List.getD_eq_getElem?_getD, List.getElem?_map, List.getD_eq_getElem?_getD, List.getElem?_eq_getElem hp]
    rfl
  unfold nxt
  rw [e]
  split <;> rfl
theorem join_run {rs : List MRow} {fl : List Bool} {c : List Nat} (ok : RowsOk rs) (st : Stab rs fl c) : ∀ (w : List Nat) {p q : Nat}, p < rs.length → q < rs.length → cAt c p = cAt c q → mrun (joinR rs c) p w < rs.length ∧ cAt c (mrun (joinR rs c) p w) = cAt c (mrun rs q w)
  | [], p, q, hp, _, e => ⟨hp, e⟩
  | a :: w, p, q, hp, hq, e => by
    have hn : nxt rs p a < c.length := by
      rw [st.len]
      exact nxt_lt ok hp a
    have h1 : nxt (joinR rs c) p a < rs.length := by
      rw [nxt_join hp, ← st.len]
      exact head_lt hn
    refine join_run ok st w (p := nxt (joinR rs c) p a) (q := nxt rs q a) h1 (nxt_lt ok hq a) ?_
    rw [nxt_join hp, head_cls hn]
    exact key_next (st.key p q hp hq e) a
theorem join_lang {rs : List MRow} {fl : List Bool} {c : List Nat} (ok : RowsOk rs) (st : Stab rs fl c) (w : List Nat) : lang (joinR rs c) fl w = lang rs fl w := by
  obtain ⟨h1, h2⟩ := join_run ok st w ok.pos ok.pos rfl
  exact st.acc _ _ h1 (run_lt ok w ok.pos) h2
theorem lst_lang {rs : List MRow} {fl : List Bool} (ok : RowsOk rs) (w : List Nat) : lang (lstR rs fl) (lstF rs fl) w = lang rs fl w := by
  unfold lstR lstF
  rw [ren_lang (jnR_ok ok)]
  unfold jnR
  rw [join_lang (renR_ok ok) (ren_stab ok), ren_lang ok]
abbrev PairN := Nat × Nat
structure Joined (rs1 rs2 : List MRow) (os : List PairN) (rows : List MRow) : Prop where
  len : rows.length = os.length
  nd : os.Nodup
  z : os[0]? = some (0, 0)
  lt : ∀ x ∈ os, x.1 < rs1.length ∧ x.2 < rs2.length
  rch : ∀ x ∈ os, ∃ w : List Nat, (∀ k ∈ w, k < 3) ∧ x = (mrun rs1 0 w, mrun rs2 0 w)
  stp : ∀ i x, os[i]? = some x → ∀ k, k < 3 → os[nxt rows i k]? = some (nxt rs1 x.1 k, nxt rs2 x.2 k)
structure Join (rs1 rs2 : List MRow) (os : List PairN) (rows : List MRow) : Prop where
  len : rows.length ≤ os.length
  nd : os.Nodup
  z : os[0]? = some (0, 0)
  lt : ∀ x ∈ os, x.1 < rs1.length ∧ x.2 < rs2.length
  rch : ∀ x ∈ os, ∃ w : List Nat, (∀ k ∈ w, k < 3) ∧ x = (mrun rs1 0 w, mrun rs2 0 w)
  stp : ∀ i, i < rows.length → ∀ x, os[i]? = some x → ∀ k, k < 3 → os[nxt rows i k]? = some (nxt rs1 x.1 k, nxt rs2 x.2 k)
theorem Join.done {rs1 rs2 : List MRow} {os : List PairN} {rows : List MRow} (h : Join rs1 rs2 os rows) (e : ¬ rows.length < os.length) : Joined rs1 rs2 os rows := by
  have el : rows.length = os.length := by have := h.len; omega
  exact ⟨el, h.nd, h.z, h.lt, h.rch, fun i x hx => h.stp i (by
    rw [el]
    exact (List.getElem?_eq_some_iff.mp hx).1) x hx⟩
theorem pair_code {n m a b c d : Nat} (h : b < m) (h' : d < m) (e : a * m + b = c * m + d) : a = c ∧ b = d := by
  have h1 : (a * m + b) / m = a := by
    rw [Nat.mul_comm, Nat.mul_add_div (by omega), Nat.div_eq_of_lt h, Nat.add_zero]
  have h2 : (c * m + d) / m = c := by
    rw [Nat.mul_comm, Nat.mul_add_div (by omega), Nat.div_eq_of_lt h', Nat.add_zero]
  have e1 : a = c := by rw [← h1, e, h2]
  subst e1
  exact ⟨rfl, by omega⟩
theorem nodup_mapOn {α β : Type} {f : α → β} : ∀ {l : List α}, l.Nodup → (∀ a ∈ l, ∀ b ∈ l, f a = f b → a = b) → (l.map f).Nodup
  | [], _, _ => List.nodup_nil
  | a :: l, h, g => by
    rw [List.nodup_cons] at h
    rw [List.map_cons, List.nodup_cons]
    refine ⟨fun z => ?_, nodup_mapOn h.2 fun x hx y hy => g x (List.mem_cons_of_mem _ hx) y (List.mem_cons_of_mem _ hy)⟩
    obtain ⟨b, hb, e⟩ := List.mem_map.mp z
    rw [g b (List.mem_cons_of_mem _ hb) a List.mem_cons_self e] at hb
    exact h.1 hb
theorem pairs_le {os : List PairN} {n m : Nat} (nd : os.Nodup) (lt : ∀ x ∈ os, x.1 < n ∧ x.2 < m) : os.length ≤ n * m := by
  have h1 : (os.map fun x => x.1 * m + x.2).Nodup := by
    refine nodup_mapOn nd fun x hx y hy e => ?_
    obtain ⟨e1, e2⟩ := pair_code (n := n) (lt x hx).2 (lt y hy).2 e
    exact Prod.ext e1 e2
  have h2 : ∀ y ∈ os.map (fun x => x.1 * m + x.2), y < n * m := fun y hy => by
    obtain ⟨x, hx, rfl⟩ := List.mem_map.mp hy
    obtain ⟨l1, l2⟩ := lt x hx
    have : (x.1 + 1) * m ≤ n * m := Nat.mul_le_mul_right m l1
    rw [Nat.add_mul] at this
    omega
  have := OrdOk.len ⟨h1, h2⟩
  rw [List.length_map] at this
  exact this
theorem Join.le {rs1 rs2 : List MRow} {os : List PairN} {rows : List MRow} (h : Join rs1 rs2 os rows) : os.length ≤ rs1.length * rs2.length := pairs_le h.nd h.lt
theorem Joined.le {rs1 rs2 : List MRow} {os : List PairN} {rows : List MRow} (h : Joined rs1 rs2 os rows) : os.length ≤ rs1.length * rs2.length := pairs_le h.nd h.lt
def addP (os : List PairN) (x : PairN) : List PairN := if x ∈ os then os else os ++ [x]
theorem addP_out {os : List PairN} {x : PairN} (h : x ∉ os) : addP os x = os ++ [x] := if_neg h
structure Grow (rs1 rs2 : List MRow) (os : List PairN) : Prop where
  nd : os.Nodup
  lt : ∀ x ∈ os, x.1 < rs1.length ∧ x.2 < rs2.length
  rch : ∀ x ∈ os, ∃ w : List Nat, (∀ k ∈ w, k < 3) ∧ x = (mrun rs1 0 w, mrun rs2 0 w)
theorem Grow.add {rs1 rs2 : List MRow} {os : List PairN} {x : PairN} {k : Nat} (ok1 : RowsOk rs1) (ok2 : RowsOk rs2) (h : Grow rs1 rs2 os) (hx : x ∈ os) (hk : k < 3) :
    Grow rs1 rs2 (addP os (nxt rs1 x.1 k, nxt rs2 x.2 k)) := by
  unfold addP
  split
  · exact h
  · rename_i hn
    refine ⟨List.nodup_append.mpr ⟨h.nd, List.nodup_cons.mpr ⟨List.not_mem_nil, List.nodup_nil⟩, fun a ha b hb z => hn (by rw [← List.mem_singleton.mp hb, ← z]; exact ha)⟩, fun y hy => ?_, fun y hy => ?_⟩
    · rcases List.mem_append.mp hy with z | z
      · exact h.lt y z
      · rw [List.mem_singleton.mp z]
        exact ⟨nxt_lt ok1 (h.lt x hx).1 k, nxt_lt ok2 (h.lt x hx).2 k⟩
    · rcases List.mem_append.mp hy with z | z
      · exact h.rch y z
      · rw [List.mem_singleton.mp z]
        obtain ⟨w, hw, e⟩ := h.rch x hx
        refine ⟨w ++ [k], fun j hj => ?_, ?_⟩
        · rcases List.mem_append.mp hj with z | z
          · exact hw j z
          · rw [List.mem_singleton.mp z]
            exact hk
        · rw [run_snoc, run_snoc]
          have e1 : x.1 = mrun rs1 0 w := congrArg Prod.fst e
          have e2 : x.2 = mrun rs2 0 w := congrArg Prod.snd e
          rw [e1, e2]
def aft (rs1 rs2 : List MRow) (x : PairN) (k : Nat) : PairN := (nxt rs1 x.1 k, nxt rs2 x.2 k)
def plP (os : List PairN) (x : PairN) : Nat := os.idxOf x
theorem plP_at {os : List PairN} {x : PairN} (h : x ∈ os) : os[plP os x]? = some x := by
  have hl := List.idxOf_lt_length_of_mem h
  unfold plP
  rw [List.getElem?_eq_getElem hl]
  exact congrArg some (List.getElem_idxOf hl)
theorem Joined.alike {rs1 rs2 : List MRow} {os : List PairN} {rows : List MRow} {f1 f2 : List Bool} (J : Joined rs1 rs2 os rows) (h : ∀ w, lang rs1 f1 w = lang rs2 f2 w) : ∀ x ∈ os, f1.getD x.1 false = f2.getD x.2 false := fun x hx => by
  obtain ⟨w, _, e⟩ := J.rch x hx
  rw [e]
  exact h w
theorem Join.step {rs1 rs2 : List MRow} {os t : List PairN} {rows : List MRow} {x : PairN} (J : Join rs1 rs2 os rows) (hx : os[rows.length]? = some x) (G : Grow rs1 rs2 (os ++ t)) {a b c : Nat}
    (ha : (os ++ t)[a]? = some (aft rs1 rs2 x 0)) (hb : (os ++ t)[b]? = some (aft rs1 rs2 x 1)) (hc : (os ++ t)[c]? = some (aft rs1 rs2 x 2)) : Join rs1 rs2 (os ++ t) (rows ++ [(a, b, c)]) where
  len := by
    have := (List.getElem?_eq_some_iff.mp hx).1
    rw [List.length_append, List.length_append, List.length_singleton]
    omega
  nd := G.nd
  z := by
    have := (List.getElem?_eq_some_iff.mp J.z).1
    rw [List.getElem?_append_left this]
    exact J.z
  lt := G.lt
  rch := G.rch
  stp := fun i hi y hy k hk => by
    have hl := (List.getElem?_eq_some_iff.mp hx).1
    rw [List.length_append, List.length_singleton] at hi
    by_cases e : i = rows.length
    · subst e
      rw [List.getElem?_append_left hl, hx] at hy
      cases hy
      have er : rowAt (rows ++ [(a, b, c)]) rows.length = (a, b, c) := by
        unfold rowAt
        rw [List.getD_eq_getElem?_getD, List.getElem?_append_right (Nat.le_refl _), Nat.sub_self]
        rfl
      unfold nxt
      rw [er]
      match k, hk with
      | 0, _ => exact ha
      | 1, _ => exact hb
      | 2, _ => exact hc
    · have hi2 : i < rows.length := by omega
      rw [List.getElem?_append_left (by omega)] at hy
      have er : rowAt (rows ++ [(a, b, c)]) i = rowAt rows i := by
        unfold rowAt
        rw [List.getD_eq_getElem?_getD, List.getElem?_append_left hi2, ← List.getD_eq_getElem?_getD]
      have en : nxt (rows ++ [(a, b, c)]) i k = nxt rows i k := by
        unfold nxt
        rw [er]
      rw [en]
      have g := J.stp i hi2 y hy k hk
      rw [List.getElem?_append_left (List.getElem?_eq_some_iff.mp g).1]
      exact g
end DD

set_option linter.all false
namespace DD
theorem addN_map {o l : List Nat} {s : Nat} (hl : ∀ x ∈ l, x ∈ o) (hs : s ∈ o) : addN (l.map (plc o)) (plc o s) = (addN l s).map (plc o) := by
  by_cases h : s ∈ l
  · rw [addN_in h, addN_in (List.mem_map.mpr ⟨s, h, rfl⟩)]
  · have h2 : plc o s ∉ l.map (plc o) := fun z => by
      obtain ⟨x, hx, e⟩ := List.mem_map.mp z
      rw [plc_inj (hl x hx) hs e] at hx
      exact h hx
    rw [addN_out h, addN_out h2, List.map_append]
    rfl
theorem addN_sub {o l : List Nat} {s : Nat} (hl : ∀ x ∈ l, x ∈ o) (hs : s ∈ o) : ∀ x ∈ addN l s, x ∈ o := fun x hx => by
  unfold addN at hx
  split at hx
  · exact hl x hx
  · rcases List.mem_append.mp hx with z | z
    · exact hl x z
    · rw [List.mem_singleton.mp z]
      exact hs
theorem visit_ren {rs : List MRow} (ok : RowsOk rs) {l : List Nat} {q : Nat} (hl : ∀ x ∈ l, x ∈ met rs) (hq : q ∈ met rs) :
    visit (renR rs) (l.map (plc (met rs))) (plc (met rs) q) = (visit rs l q).map (plc (met rs)) := by
  obtain ⟨h1, h2, h3⟩ := met_closed ok q hq
  unfold visit
  rw [renR_at hq]
  show addN (addN (addN (l.map (plc (met rs))) (plc (met rs) (rowAt rs q).1)) (plc (met rs) (rowAt rs q).2.1)) (plc (met rs) (rowAt rs q).2.2) = _
  rw [addN_map hl h1, addN_map (addN_sub hl h1) h2, addN_map (addN_sub (addN_sub hl h1) h2) h3]
theorem bfs_sub {rs : List MRow} {k : Nat} (hk : k ≤ rs.length) : ∀ x ∈ bfs rs k, x ∈ met rs := fun x hx => by
  obtain ⟨t, e⟩ := bfs_pre (rs := rs) (k := k) (j := rs.length - k)
  rw [show k + (rs.length - k) = rs.length by omega] at e
  unfold met
  rw [e]
  exact List.mem_append_left _ hx
theorem bfs_ren {rs : List MRow} (ok : RowsOk rs) : ∀ k, k ≤ rs.length → bfs (renR rs) k = (bfs rs k).map (plc (met rs))
  | 0, _ => by
    show [0] = [plc (met rs) 0]
    rw [plc_zero]
  | k + 1, hk => by
    have ih := bfs_ren ok k (by omega)
    by_cases h : k < (bfs rs k).length
    · have h2 : k < (bfs (renR rs) k).length := by
        rw [ih, List.length_map]
        exact h
      have hm : (bfs rs k).getD k 0 ∈ met rs := bfs_sub (k := k) (by omega) _ (by
        rw [List.getD_eq_getElem?_getD, List.getElem?_eq_getElem h]
        exact List.getElem_mem h)
      have hg : ((bfs rs k).map (plc (met rs))).getD k 0 = plc (met rs) ((bfs rs k).getD k 0) := by
        rw [List.getD_eq_getElem?_getD, List.getElem?_map, List.getD_eq_getElem?_getD, List.getElem?_eq_getElem h]
        rfl
      rw [bfs_step h2, bfs_step h, ih, hg]
      exact visit_ren ok (bfs_sub (k := k) (by omega)) hm
    · have h2 : ¬ k < (bfs (renR rs) k).length := by
        rw [ih, List.length_map]
        exact h
      show (if k < (bfs (renR rs) k).length then _ else bfs (renR rs) k) = (if k < (bfs rs k).length then _ else bfs rs k).map _
      rw [if_neg h2, if_neg h, ih]
theorem plc_range {o : List Nat} (nd : o.Nodup) : o.map (plc o) = List.range o.length := by
  apply List.ext_getElem?
  intro i
  by_cases h : i < o.length
  · rw [List.getElem?_map, List.getElem?_eq_getElem h, List.getElem?_range h]
    show some (o.idxOf o[i]) = some i
    rw [nd.idxOf_getElem]
  · rw [List.getElem?_eq_none (by rw [List.length_map]; omega), List.getElem?_eq_none (by rw [List.length_range]; omega)]
theorem met_ren {rs : List MRow} (ok : RowsOk rs) : met (renR rs) = List.range (renR rs).length := by
  have hl := (met_ok ok).len
  have e0 : bfs rs (met rs).length = met rs := by
    obtain ⟨t, e⟩ := bfs_pre (rs := rs) (k := (met rs).length) (j := rs.length - (met rs).length)
    rw [show (met rs).length + (rs.length - (met rs).length) = rs.length by omega] at e
    have h2 : (bfs rs (met rs).length).length ≤ (met rs).length := by
      have := congrArg List.length e
      rw [List.length_append] at this
      show _ ≤ (bfs rs rs.length).length
      omega
    exact (bfs_end h2 hl).symm
  show bfs (renR rs) (renR rs).length = _
  rw [renR_len, bfs_ren ok _ hl, e0]
  exact plc_range (met_ok ok).nd
theorem head_run {rs : List MRow} {fl : List Bool} {c : List Nat} (ok : RowsOk rs) (st : Stab rs fl c) : ∀ (w : List Nat) {p : Nat}, p < rs.length → headN c (cAt c p) = p → headN c (cAt c (mrun (joinR rs c) p w)) = mrun (joinR rs c) p w
  | [], _, _, h => h
  | a :: w, p, hp, h => by
    have hn : nxt rs p a < c.length := by
      rw [st.len]
      exact nxt_lt ok hp a
    have e := nxt_join (c := c) hp a
    refine head_run ok st w (p := nxt (joinR rs c) p a) ?_ ?_
    · rw [e, ← st.len]
      exact head_lt hn
    · rw [e, head_cls hn]
theorem head_zero {c : List Nat} (h : 0 < c.length) : headN c (cAt c 0) = 0 := by
  cases c with
  | nil => cases h
  | cons a l =>
    show (a :: l).idxOf a = 0
    simp
theorem met_head {rs : List MRow} {fl : List Bool} {c : List Nat} (ok : RowsOk rs) (st : Stab rs fl c) : ∀ q ∈ met (joinR rs c), headN c (cAt c q) = q := fun q hq => by
  obtain ⟨w, _, rfl⟩ := bfs_reach _ q hq
  have hp := ok.pos
  exact head_run ok st w hp (head_zero (by rw [st.len]; exact hp))
theorem lst_least {rs : List MRow} {fl : List Bool} (ok : RowsOk rs) {p q : Nat} (hp : p < (lstR rs fl).length) (hq : q < (lstR rs fl).length) (h : Alike (lstR rs fl) (lstF rs fl) p q) : p = q := by
  have okJ := jnR_ok (fl := fl) ok
  have st := ren_stab (fl := fl) ok
  have okR := renR_ok ok
  have key : ∀ {p : Nat}, p < (lstR rs fl).length → ∃ s, s ∈ met (jnR rs fl) ∧ p = plc (met (jnR rs fl)) s := fun {p} hp => by
    have hp : p < (met (jnR rs fl)).length := by
      have e : (lstR rs fl).length = (met (jnR rs fl)).length := renR_len
      omega
    exact ⟨(met (jnR rs fl))[p], List.getElem_mem hp, (((met_ok okJ).nd).idxOf_getElem p hp).symm⟩
  obtain ⟨s, hs, rfl⟩ := key hp
  obtain ⟨t, ht, rfl⟩ := key hq
  have one : ∀ {s : Nat}, s ∈ met (jnR rs fl) → ∀ w, (lstF rs fl).getD (mrun (lstR rs fl) (plc (met (jnR rs fl)) s) w) false = (renF rs fl).getD (mrun (renR rs) s w) false := fun {s} hs w => by
    have hs2 : s < (renR rs).length := by
      have := (met_ok okJ).lt s hs
      rw [jnR_len] at this
      exact this
    unfold lstF lstR
    rw [renR_run okJ w hs, renF_at (run_met okJ w hs)]
    obtain ⟨h1, h2⟩ := join_run okR st w hs2 hs2 rfl
    exact st.acc _ _ h1 (run_lt okR w hs2) h2
  have al : Alike (renR rs) (renF rs fl) s t := fun w => by
    rw [← one hs w, ← one ht w]
    exact h w
  have ls : s < (renR rs).length := by
    have := (met_ok okJ).lt s hs
    rw [jnR_len] at this
    exact this
  have lt : t < (renR rs).length := by
    have := (met_ok okJ).lt t ht
    rw [jnR_len] at this
    exact this
  have e := st.ali s t ls lt al
  have hs3 := met_head okR st s hs
  have ht3 := met_head okR st t ht
  rw [← hs3, ← ht3, e]
end DD

set_option Elab.async false
set_option linter.all false
namespace DD
structure Least (rs : List MRow) (fl : List Bool) : Prop where
  ok : RowsOk rs
  len : fl.length = rs.length
  met : met rs = List.range rs.length
  no : ∀ p q, p < rs.length → q < rs.length → Alike rs fl p q → p = q
theorem least_lst {rs : List MRow} {fl : List Bool} (ok : RowsOk rs) : Least (lstR rs fl) (lstF rs fl) where
  ok := lstR_ok ok
  len := lst_len
  met := met_ren (jnR_ok ok)
  no := fun _ _ hp hq h => lst_least ok hp hq h
end DD

set_option Elab.async false
set_option linter.all false
namespace DD
theorem mrun_app {rs : List MRow} {q : Nat} {u v : List Nat} : mrun rs q (u ++ v) = mrun rs (mrun rs q u) v := List.foldl_append
theorem Least.reach {rs : List MRow} {fl : List Bool} (L : Least rs fl) {q : Nat} (h : q < rs.length) : ∃ w, mrun rs 0 w = q := by
  obtain ⟨w, _, e⟩ := bfs_reach (rs := rs) rs.length q (by have : bfs rs rs.length = List.range rs.length := L.met; rw [this]; exact List.mem_range.mpr h)
  exact ⟨w, e⟩
theorem Least.run {rs : List MRow} {fl : List Bool} (L : Least rs fl) (w : List Nat) : mrun rs 0 w < rs.length := run_lt L.ok w L.ok.pos
theorem same_to {rs rs' : List MRow} {fl fl' : List Bool} (L : Least rs fl) (L' : Least rs' fl') (h : ∀ w, lang rs fl w = lang rs' fl' w) {u w : List Nat} (e : mrun rs 0 u = mrun rs 0 w) : mrun rs' 0 u = mrun rs' 0 w := by
  refine L'.no _ _ (L'.run u) (L'.run w) fun v => ?_
  have h1 := h (u ++ v)
  have h2 := h (w ++ v)
  unfold lang at h1 h2
  rw [mrun_app, mrun_app] at h1 h2
  rw [← h1, ← h2, e]
theorem addN_mapOn {φ : Nat → Nat} {l : List Nat} {s : Nat} (inj : ∀ a ∈ l, φ a = φ s → a = s) : addN (l.map φ) (φ s) = (addN l s).map φ := by
  by_cases hs : s ∈ l
  · rw [addN_in hs, addN_in (List.mem_map.mpr ⟨s, hs, rfl⟩)]
  · rw [addN_out hs, addN_out, List.map_append]
    · rfl
    · intro z
      obtain ⟨a, ha, e⟩ := List.mem_map.mp z
      exact hs (inj a ha e ▸ ha)
theorem canon {rs rs' : List MRow} {fl fl' : List Bool} (L : Least rs fl) (L' : Least rs' fl') (h : ∀ w, lang rs fl w = lang rs' fl' w) : rs = rs' ∧ fl = fl' := by
  have ex : ∀ q : Nat, ∃ w, q < rs.length → mrun rs 0 w = q := fun q => by
    by_cases hq : q < rs.length
    · obtain ⟨w, e⟩ := L.reach hq
      exact ⟨w, fun _ => e⟩
    · exact ⟨[], fun z => absurd z hq⟩
  have ⟨word, hword⟩ : ∃ word : Nat → List Nat, ∀ q, q < rs.length → mrun rs 0 (word q) = q := ⟨fun q => Classical.choose (ex q), fun q => Classical.choose_spec (ex q)⟩
  let φ : Nat → Nat := fun q => mrun rs' 0 (word q)
  have key : ∀ w, φ (mrun rs 0 w) = mrun rs' 0 w := fun w => same_to L L' h (hword _ (L.run w))
  have lt : ∀ q, φ q < rs'.length := fun q => L'.run _
  have z0 : φ 0 = 0 := key []
  have step : ∀ q, q < rs.length → ∀ a, φ (nxt rs q a) = nxt rs' (φ q) a := fun q hq a => by
    have e := hword q hq
    have h1 := key (word q ++ [a])
    rw [run_snoc, run_snoc, e] at h1
    rw [h1]
  have inj : ∀ p q, p < rs.length → q < rs.length → φ p = φ q → p = q := fun p q hp hq e => by
    have := same_to L' L (fun w => (h w).symm) (u := word p) (w := word q) e
    rw [hword p hp, hword q hq] at this
    exact this
  have visE : ∀ (l : List Nat) (q : Nat), (∀ x ∈ l, x < rs.length) → q < rs.length → visit rs' (l.map φ) (φ q) = (visit rs l q).map φ := fun l q hl hq => by
    obtain ⟨_, r1, r2, r3⟩ := L.ok.at hq
    have s0 : (rowAt rs' (φ q)).1 = φ (rowAt rs q).1 := (step q hq 0).symm
    have s1 : (rowAt rs' (φ q)).2.1 = φ (rowAt rs q).2.1 := (step q hq 1).symm
    have s2 : (rowAt rs' (φ q)).2.2 = φ (rowAt rs q).2.2 := (step q hq 2).symm
    have sub : ∀ (o : List Nat) (s : Nat), (∀ x ∈ o, x < rs.length) → s < rs.length → ∀ x ∈ addN o s, x < rs.length := fun o s ho hs x hx => by
      by_cases hm : s ∈ o
      · rw [addN_in hm] at hx
        exact ho x hx
      · rw [addN_out hm] at hx
        rcases List.mem_append.mp hx with z | z
        · exact ho x z
        · rw [List.mem_singleton.mp z]
          exact hs
    unfold visit
    rw [s0, s1, s2, addN_mapOn fun a ha e => inj _ _ (hl a ha) r1 e, addN_mapOn fun a ha e => inj _ _ (sub _ _ hl r1 a ha) r2 e, addN_mapOn fun a ha e => inj _ _ (sub _ _ (sub _ _ hl r1) r2 a ha) r3 e]
  have bf : ∀ k, bfs rs' k = (bfs rs k).map φ := fun k => by
    induction k with
    | zero =>
      show [0] = [φ 0]
      rw [z0]
    | succ k ih =>
      show (if k < (bfs rs' k).length then visit rs' (bfs rs' k) ((bfs rs' k).getD k 0) else bfs rs' k) = (if k < (bfs rs k).length then visit rs (bfs rs k) ((bfs rs k).getD k 0) else bfs rs k).map φ
      rw [ih, List.length_map]
      by_cases hk : k < (bfs rs k).length
      · rw [if_pos hk, if_pos hk]
        have e : ((bfs rs k).map φ).getD k 0 = φ ((bfs rs k).getD k 0) := by
          rw [List.getD_eq_getElem?_getD, List.getD_eq_getElem?_getD, List.getElem?_map, List.getElem?_eq_getElem hk]
          rfl
        have hl := (bfs_ok L.ok k).lt
        have hq : (bfs rs k).getD k 0 < rs.length := by
          rw [List.getD_eq_getElem?_getD, List.getElem?_eq_getElem hk]
          exact hl _ (List.getElem_mem hk)
        rw [e, visE _ _ hl hq]
      · rw [if_neg hk, if_neg hk]
  have e1 : bfs rs (rs.length + rs'.length) = List.range rs.length := by
    have m : bfs rs rs.length = List.range rs.length := L.met
    rw [bfs_stop (by rw [m, List.length_range]; exact Nat.le_refl _), m]
  have e2 : bfs rs' (rs.length + rs'.length) = List.range rs'.length := by
    have m : bfs rs' rs'.length = List.range rs'.length := L'.met
    rw [Nat.add_comm, bfs_stop (by rw [m, List.length_range]; exact Nat.le_refl _), m]
  have e3 := bf (rs.length + rs'.length)
  rw [e1, e2] at e3
  have ll : rs'.length = rs.length := by
    have := congrArg List.length e3
    rw [List.length_range, List.length_map, List.length_range] at this
    exact this
  have id : ∀ i, i < rs.length → φ i = i := fun i hi => by
    have := congrArg (fun l => l[i]?) e3
    simp only [List.getElem?_map] at this
    rw [List.getElem?_range (by omega), List.getElem?_range hi] at this
    exact (Option.some.inj this).symm
  have nx : ∀ i, i < rs.length → ∀ a, nxt rs i a = nxt rs' i a := fun i hi a => by
    have h1 := step i hi a
    rw [id i hi, id _ (nxt_lt L.ok hi a)] at h1
    exact h1
  constructor
  · apply List.ext_getElem?
    intro i
    by_cases hi : i < rs.length
    · rw [(L.ok.at hi).1, (L'.ok.at (by omega)).1]
      congr 1
      exact Prod.ext (nx i hi 0) (Prod.ext (nx i hi 1) (nx i hi 2))
    · rw [List.getElem?_eq_none (by omega), List.getElem?_eq_none (by omega)]
  · have g : ∀ {f : List Bool} {i : Nat} (hi : i < f.length), f[i]? = some (f.getD i false) := fun {f i} hi => by
      rw [List.getD_eq_getElem?_getD, List.getElem?_eq_getElem hi]
      rfl
    have h1 := L.len
    have h2 := L'.len
    apply List.ext_getElem?
    intro i
    by_cases hi : i < rs.length
    · rw [g (by omega), g (by omega)]
      congr 1
      have := h (word i)
      unfold lang at this
      rw [hword i hi] at this
      have e : mrun rs' 0 (word i) = i := id i hi
      rw [e] at this
      exact this
    · rw [List.getElem?_eq_none (by omega), List.getElem?_eq_none (by omega)]
theorem nxt_min {rs : List MRow} {q a : Nat} : nxt rs q a = nxt rs q (min a 2) := by
  match a with
  | 0 => rfl
  | 1 => rfl
  | a + 2 =>
    have : min (a + 2) 2 = 2 := by omega
    rw [this]
    rfl
theorem joined_run {r1 r2 : List MRow} {os : List PairN} {rows : List MRow} (J : Joined r1 r2 os rows) : ∀ (n : Nat) (w : List Nat), w.length = n → os[mrun rows 0 w]? = some (mrun r1 0 w, mrun r2 0 w)
  | 0, w, h => by
    have : w = [] := List.length_eq_zero_iff.mp h
    subst this
    exact J.z
  | n + 1, w, h => by
    have hw : w ≠ [] := fun z => by rw [z] at h; cases h
    obtain ⟨u, a, rfl⟩ : ∃ u a, w = u ++ [a] := ⟨w.dropLast, w.getLast hw, (List.dropLast_concat_getLast hw).symm⟩
    rw [List.length_append, List.length_singleton] at h
    have ih := joined_run J n u (by omega)
    have := J.stp _ _ ih (min a 2) (by omega)
    rw [run_snoc, run_snoc, run_snoc, nxt_min (rs := rows), nxt_min (rs := r1), nxt_min (rs := r2)]
    exact this
theorem joined_lang {r1 r2 : List MRow} {os : List PairN} {rows : List MRow} {F : List Bool} {t : Bool → Bool → Bool} {f1 f2 : List Bool} (J : Joined r1 r2 os rows) (hF : ∀ i x, os[i]? = some x → F.getD i false = t (f1.getD x.1 false) (f2.getD x.2 false)) (w : List Nat) :
    lang rows F w = t (lang r1 f1 w) (lang r2 f2 w) := by
  unfold lang
  exact hF _ _ (joined_run J _ w rfl)
theorem lang_not {rs : List MRow} {fl : List Bool} (ok : RowsOk rs) (hl : fl.length = rs.length) (w : List Nat) : lang rs (fl.map (!·)) w = !lang rs fl w := by
  have h := run_lt ok w ok.pos
  unfold lang
  rw [List.getD_eq_getElem?_getD, List.getD_eq_getElem?_getD, List.getElem?_map, List.getElem?_eq_getElem (by omega)]
  rfl
end DD

set_option Elab.async false
set_option linter.all false
namespace DD
abbrev FE := Nat × List Nat
structure Bfs (rs : List MRow) (fs : List FE) (k : Nat) : Prop where
  nd : (fs.map (·.1)).Nodup
  lt : ∀ f ∈ fs, f.1 < rs.length
  wd : ∀ f ∈ fs, Same3 f.2 ∧ mrun rs 0 f.2 = f.1
  srt : fs.Pairwise fun f g => f.2.length ≤ g.2.length
  bnd : ∀ f ∈ fs, ∀ g, fs[k]? = some g → f.2.length ≤ g.2.length + 1
  clo : ∀ i, i < k → ∀ f, fs[i]? = some f → ∀ a, a < 3 → nxt rs f.1 a ∈ fs.map (·.1)
  opt : ∀ f ∈ fs, ∀ u, Same3 u → mrun rs 0 u = f.1 → f.2.length ≤ u.length
  z : fs[0]? = some (0, [])
theorem first_out {P : Nat → Prop} : ∀ n, ¬ P n → ∃ t, t ≤ n ∧ ¬ P t ∧ ∀ s, s < t → P s
  | 0, h => ⟨0, Nat.le_refl _, h, fun s hs => absurd hs (Nat.not_lt_zero s)⟩
  | n + 1, h => by
    by_cases hn : ∀ s, s < n + 1 → P s
    · exact ⟨n + 1, Nat.le_refl _, h, hn⟩
    · have : ∃ s, s < n + 1 ∧ ¬ P s := Classical.byContradiction fun z => hn fun s hs => Classical.byContradiction fun z2 => z ⟨s, hs, z2⟩
      obtain ⟨s, hs, h2⟩ := this
      by_cases e : P n
      · -- some s below n
        have hsn : s ≤ n := by omega
        have : ∀ m, ¬ P m → m ≤ n → ∃ t, t ≤ n ∧ ¬ P t ∧ ∀ s, s < t → P s := by
          intro m
          induction m using Nat.strongRecOn with
          | _ m ih =>
            intro hm hmn
            by_cases a : ∀ s, s < m → P s
            · exact ⟨m, hmn, hm, a⟩
            · have : ∃ s, s < m ∧ ¬ P s := Classical.byContradiction fun z => a fun s hs => Classical.byContradiction fun z2 => z ⟨s, hs, z2⟩
              obtain ⟨s, hs, h3⟩ := this
              exact ih s hs h3 (by omega)
        obtain ⟨t, t1, t2⟩ := this s h2 hsn
        exact ⟨t, by omega, t2⟩
      · obtain ⟨t, t1, t2⟩ := first_out n e
        exact ⟨t, by omega, t2⟩
theorem take_succ_run {rs : List MRow} {u : List Nat} {t : Nat} (h : t < u.length) : mrun rs 0 (u.take (t + 1)) = nxt rs (mrun rs 0 (u.take t)) u[t] := by
  rw [List.take_succ_eq_append_getElem h, run_snoc]
theorem pw_get {fs : List FE} (h : fs.Pairwise fun f g => f.2.length ≤ g.2.length) {i j : Nat} {f g : FE} (hij : i ≤ j) (hi : fs[i]? = some f) (hj : fs[j]? = some g) : f.2.length ≤ g.2.length := by
  obtain ⟨a, rfl⟩ := List.getElem?_eq_some_iff.mp hi
  obtain ⟨b, rfl⟩ := List.getElem?_eq_some_iff.mp hj
  by_cases e : i = j
  · subst e
    exact Nat.le_refl _
  · exact List.pairwise_iff_getElem.mp h i j a b (by omega)
theorem Bfs.out {rs : List MRow} {fs : List FE} {k : Nat} (B : Bfs rs fs k) {u : List Nat} (hu : Same3 u) (h : ∀ i f, i < k → fs[i]? = some f → f.1 ≠ mrun rs 0 u) :
    ∃ t j f, t ≤ u.length ∧ k ≤ j ∧ fs[j]? = some f ∧ f.1 = mrun rs 0 (u.take t) ∧ f.2.length ≤ t := by
  obtain ⟨t, t1, t2, t3⟩ := first_out (P := fun t => ∃ i f, i < k ∧ fs[i]? = some f ∧ f.1 = mrun rs 0 (u.take t)) u.length (by
    rintro ⟨i, f, h1, h2, h3⟩
    rw [List.take_length] at h3
    exact h i f h1 h2 h3)
  cases t with
  | zero =>
    have hk : ¬ 0 < k := fun z => t2 ⟨0, (0, []), z, B.z, rfl⟩
    exact ⟨0, 0, (0, []), Nat.zero_le _, by omega, B.z, rfl, Nat.le_refl _⟩
  | succ t =>
    obtain ⟨i, f, h1, h2, h3⟩ := t3 t (Nat.lt_succ_self t)
    have ht : t < u.length := by omega
    have ha : u[t] < 3 := hu _ (List.getElem_mem ht)
    have hc := B.clo i h1 f h2 u[t] ha
    rw [h3, ← take_succ_run ht] at hc
    obtain ⟨g, hg, e⟩ := List.mem_map.mp hc
    obtain ⟨j, hj, ej⟩ := List.getElem_of_mem hg
    have hj' : fs[j]? = some g := by rw [List.getElem?_eq_getElem hj, ej]
    refine ⟨t + 1, j, g, t1, ?_, hj', e, ?_⟩
    · by_cases z : j < k
      · exact absurd ⟨j, g, z, hj', e⟩ t2
      · omega
    · have s3 : Same3 (u.take (t + 1)) := fun a h => hu a (List.mem_of_mem_take h)
      have := B.opt g hg _ s3 e.symm
      rw [List.length_take, Nat.min_eq_left t1] at this
      exact this
theorem Bfs.add {rs : List MRow} {fs : List FE} {k a : Nat} {g : FE} (ok : RowsOk rs) (B : Bfs rs fs k) (hg : fs[k]? = some g) (ha : a < 3) (hs : nxt rs g.1 a ∉ fs.map (·.1)) : Bfs rs (fs ++ [(nxt rs g.1 a, g.2 ++ [a])]) k := by
  have gm : g ∈ fs := List.mem_of_getElem? hg
  have hk := (List.getElem?_eq_some_iff.mp hg).1
  have old : ∀ {i : Nat}, i < fs.length → (fs ++ [(nxt rs g.1 a, g.2 ++ [a])])[i]? = fs[i]? := fun h => List.getElem?_append_left h
  refine ⟨?_, fun f hf => ?_, fun f hf => ?_, ?_, fun f hf g' hg' => ?_, fun i hi f hf b hb => ?_, fun f hf u hu e => ?_, ?_⟩
  · rw [List.map_append]
    refine List.nodup_append.mpr ⟨B.nd, List.nodup_cons.mpr ⟨List.not_mem_nil, List.nodup_nil⟩, fun x hx y hy z => hs ?_⟩
    have hy' : y = nxt rs g.1 a := List.mem_singleton.mp hy
    rw [← hy', ← z]
    exact hx
  · rcases List.mem_append.mp hf with z | z
    · exact B.lt f z
    · rw [List.mem_singleton.mp z]
      exact nxt_lt ok (B.lt g gm) a
  · rcases List.mem_append.mp hf with z | z
    · exact B.wd f z
    · rw [List.mem_singleton.mp z]
      obtain ⟨w1, w2⟩ := B.wd g gm
      refine ⟨fun x hx => ?_, ?_⟩
      · rcases List.mem_append.mp hx with z | z
        · exact w1 x z
        · rw [List.mem_singleton.mp z]
          exact ha
      · show mrun rs 0 (g.2 ++ [a]) = nxt rs g.1 a
        rw [run_snoc, w2]
  · refine List.pairwise_append.mpr ⟨B.srt, List.pairwise_singleton _ _, fun f hf y hy => ?_⟩
    rw [List.mem_singleton.mp hy]
    show f.2.length ≤ (g.2 ++ [a]).length
    rw [List.length_append]
    exact B.bnd f hf g hg
  · rw [old hk, hg] at hg'
    cases hg'
    rcases List.mem_append.mp hf with z | z
    · exact B.bnd f z g hg
    · rw [List.mem_singleton.mp z]
      show (g.2 ++ [a]).length ≤ _
      rw [List.length_append]
      exact Nat.le_refl _
  · rw [old (by omega)] at hf
    rw [List.map_append]
    exact List.mem_append_left _ (B.clo i hi f hf b hb)
  · rcases List.mem_append.mp hf with z | z
    · exact B.opt f z u hu e
    · rw [List.mem_singleton.mp z] at e ⊢
      show (g.2 ++ [a]).length ≤ u.length
      rw [List.length_append]
      obtain ⟨t, j, f', t1, j1, hj, e1, e2⟩ := B.out hu fun i f' hi hf' z => hs (by
        rw [e] at z
        have z : f'.1 = nxt rs g.1 a := z
        rw [← z]
        exact List.mem_map.mpr ⟨f', List.mem_of_getElem? hf', rfl⟩)
      have le := pw_get B.srt j1 hg hj
      have ne : t ≠ u.length := fun z => hs (by
        rw [z, List.take_length, e] at e1
        have e1 : f'.1 = nxt rs g.1 a := e1
        rw [← e1]
        exact List.mem_map.mpr ⟨f', List.mem_of_getElem? hj, rfl⟩)
      simp only [List.length_cons, List.length_nil]
      omega
  · have : 0 < fs.length := by omega
    rw [old this]
    exact B.z
theorem Bfs.next {rs : List MRow} {fs : List FE} {k : Nat} {g : FE} (B : Bfs rs fs k) (hg : fs[k]? = some g) (h : ∀ a, a < 3 → nxt rs g.1 a ∈ fs.map (·.1)) : Bfs rs fs (k + 1) where
  nd := B.nd
  lt := B.lt
  wd := B.wd
  srt := B.srt
  bnd := fun f hf g' hg' => by
    have := B.bnd f hf g hg
    have := pw_get B.srt (Nat.le_succ k) hg hg'
    omega
  clo := fun i hi f hf a ha => by
    by_cases e : i = k
    · subst e
      rw [hg] at hf
      cases hf
      exact h a ha
    · exact B.clo i (by omega) f hf a ha
  opt := B.opt
  z := B.z
theorem Bfs.start {rs : List MRow} (ok : RowsOk rs) : Bfs rs [(0, [])] 0 where
  nd := by simp
  lt := fun f hf => by
    rw [List.mem_singleton.mp hf]
    exact ok.pos
  wd := fun f hf => by
    rw [List.mem_singleton.mp hf]
    exact ⟨fun a h => (by cases h), rfl⟩
  srt := List.pairwise_singleton _ _
  bnd := fun f hf g _ => by
    rw [List.mem_singleton.mp hf]
    exact Nat.zero_le _
  clo := fun i hi => by omega
  opt := fun f hf u _ _ => by
    rw [List.mem_singleton.mp hf]
    exact Nat.zero_le _
  z := rfl
theorem Bfs.le {rs : List MRow} {fs : List FE} {k : Nat} (B : Bfs rs fs k) : fs.length ≤ rs.length := by
  have := OrdOk.len (n := rs.length) (o := fs.map (·.1)) ⟨B.nd, fun x hx => by
    obtain ⟨f, hf, rfl⟩ := List.mem_map.mp hx
    exact B.lt f hf⟩
  rw [List.length_map] at this
  exact this
theorem Bfs.none {rs : List MRow} {fs : List FE} {k : Nat} {P : Nat → Prop} (B : Bfs rs fs k) (no : ∀ i f, i < k → fs[i]? = some f → ¬ P f.1) (hk : fs.length ≤ k) : ∀ u, Same3 u → ¬ P (mrun rs 0 u) := fun u hu hp => by
  obtain ⟨t, j, f, t1, j1, hj, e1, e2⟩ := B.out hu fun i f hi hf z => no i f hi hf (by rw [z]; exact hp)
  have := (List.getElem?_eq_some_iff.mp hj).1
  omega
end DD

set_option linter.all false
namespace DD
def rep (rs : List MRow) (k : Nat) : Nat → Nat → Nat
  | 0, q => q
  | n + 1, q => nxt rs (rep rs k n q) k
end DD

set_option linter.all false
namespace DD
abbrev Grp := List Nat
def img (rs : List MRow) (g : Grp) (k : Nat) : Grp := (List.range rs.length).filter fun s => decide (s ∈ g.map fun q => nxt rs q k)
def imgs (rs : List MRow) (g : Grp) (w : List Nat) : Grp := w.foldl (img rs) g
theorem img_lt {rs : List MRow} {g : Grp} {k : Nat} : ∀ s ∈ img rs g k, s < rs.length := fun s h => List.mem_range.mp (List.mem_filter.mp h).1
theorem mem_img {rs : List MRow} (ok : RowsOk rs) {g : Grp} (lt : ∀ q ∈ g, q < rs.length) {k s : Nat} : s ∈ img rs g k ↔ ∃ q ∈ g, nxt rs q k = s := by
  unfold img
  rw [List.mem_filter, List.mem_range, decide_eq_true_eq, List.mem_map]
  refine ⟨fun h => h.2, fun h => ⟨?_, h⟩⟩
  obtain ⟨q, hq, rfl⟩ := h
  exact nxt_lt ok (lt q hq) k
theorem imgs_snoc {rs : List MRow} {g : Grp} {w : List Nat} {k : Nat} : imgs rs g (w ++ [k]) = img rs (imgs rs g w) k := by
  unfold imgs
  rw [List.foldl_append]
  rfl
theorem mem_imgs {rs : List MRow} (ok : RowsOk rs) : ∀ (w : List Nat) {g : Grp}, (∀ q ∈ g, q < rs.length) → ∀ {s : Nat}, s ∈ imgs rs g w ↔ ∃ q ∈ g, mrun rs q w = s
  | [], g, lt, s => ⟨fun h => ⟨s, h, rfl⟩, fun ⟨q, hq, e⟩ => by
    cases e
    exact hq⟩
  | k :: w, g, lt, s => by
    rw [show imgs rs g (k :: w) = imgs rs (img rs g k) w from rfl, mem_imgs ok w img_lt]
    constructor
    · rintro ⟨q, hq, e⟩
      obtain ⟨p, hp, rfl⟩ := (mem_img ok lt).mp hq
      exact ⟨p, hp, e⟩
    · rintro ⟨q, hq, e⟩
      exact ⟨nxt rs q k, (mem_img ok lt).mpr ⟨q, hq, rfl⟩, e⟩
def FewG (rs : List MRow) (G0 : Grp) (B : Nat) : Prop := ∀ l : List Grp, l.Nodup → (∀ g ∈ l, ∃ w : List Nat, (∀ k ∈ w, k < 3) ∧ g = imgs rs G0 w) → l.length ≤ B
structure Grown (rs : List MRow) (G0 : Grp) (os : List Grp) : Prop where
  nd : os.Nodup
  lt : ∀ g ∈ os, ∀ q ∈ g, q < rs.length
  rch : ∀ g ∈ os, ∃ w : List Nat, (∀ k ∈ w, k < 3) ∧ g = imgs rs G0 w
structure Grps (rs : List MRow) (G0 : Grp) (os : List Grp) (rows : List MRow) : Prop where
  gr : Grown rs G0 os
  len : rows.length ≤ os.length
  z : os[0]? = some G0
  stp : ∀ i, i < rows.length → ∀ g, os[i]? = some g → ∀ k, k < 3 → os[nxt rows i k]? = some (img rs g k)
structure Groups (rs : List MRow) (G0 : Grp) (os : List Grp) (rows : List MRow) : Prop where
  gr : Grown rs G0 os
  len : rows.length = os.length
  z : os[0]? = some G0
  stp : ∀ i g, os[i]? = some g → ∀ k, k < 3 → os[nxt rows i k]? = some (img rs g k)
theorem Grps.done {rs : List MRow} {G0 : Grp} {os : List Grp} {rows : List MRow} (h : Grps rs G0 os rows) (e : ¬ rows.length < os.length) : Groups rs G0 os rows := by
  have el : rows.length = os.length := by have := h.len; omega
  exact ⟨h.gr, el, h.z, fun i g hg => h.stp i (by
    rw [el]
    exact (List.getElem?_eq_some_iff.mp hg).1) g hg⟩
theorem Grown.start {rs : List MRow} {G0 : Grp} (lt : ∀ q ∈ G0, q < rs.length) : Grown rs G0 [G0] := ⟨by simp, fun g h => by rw [List.mem_singleton.mp h]; exact lt, fun g h => ⟨[], fun _ z => (by cases z), List.mem_singleton.mp h⟩⟩
theorem Grps.start {rs : List MRow} {G0 : Grp} (lt : ∀ q ∈ G0, q < rs.length) : Grps rs G0 [G0] [] := ⟨.start lt, Nat.zero_le _, rfl, fun i h => by cases h⟩
theorem Grown.le {rs : List MRow} {G0 : Grp} {os : List Grp} {B : Nat} (h : Grown rs G0 os) (b : FewG rs G0 B) : os.length ≤ B := b os h.nd h.rch
theorem Grown.add {rs : List MRow} {G0 : Grp} {os : List Grp} {g : Grp} {k : Nat} (h : Grown rs G0 os) (hg : g ∈ os) (hk : k < 3) (hn : img rs g k ∉ os) : Grown rs G0 (os ++ [img rs g k]) := by
  refine ⟨List.nodup_append.mpr ⟨h.nd, List.nodup_cons.mpr ⟨List.not_mem_nil, List.nodup_nil⟩, fun a ha b hb z => hn (by rw [← List.mem_singleton.mp hb, ← z]; exact ha)⟩, fun y hy => ?_, fun y hy => ?_⟩
  · rcases List.mem_append.mp hy with z | z
    · exact h.lt y z
    · rw [List.mem_singleton.mp z]
      exact img_lt
  · rcases List.mem_append.mp hy with z | z
    · exact h.rch y z
    · rw [List.mem_singleton.mp z]
      obtain ⟨w, hw, e⟩ := h.rch g hg
      refine ⟨w ++ [k], fun j hj => ?_, by rw [imgs_snoc, ← e]⟩
      rcases List.mem_append.mp hj with z | z
      · exact hw j z
      · rw [List.mem_singleton.mp z]
        exact hk
theorem Grps.step {rs : List MRow} {G0 : Grp} {os t : List Grp} {rows : List MRow} {x : Grp} (J : Grps rs G0 os rows) (hx : os[rows.length]? = some x) (G : Grown rs G0 (os ++ t)) {a b c : Nat}
    (ha : (os ++ t)[a]? = some (img rs x 0)) (hb : (os ++ t)[b]? = some (img rs x 1)) (hc : (os ++ t)[c]? = some (img rs x 2)) : Grps rs G0 (os ++ t) (rows ++ [(a, b, c)]) where
  gr := G
  len := by
    have := (List.getElem?_eq_some_iff.mp hx).1
    rw [List.length_append, List.length_append, List.length_singleton]
    omega
  z := by
    have := (List.getElem?_eq_some_iff.mp J.z).1
    rw [List.getElem?_append_left this]
    exact J.z
  stp := fun i hi y hy k hk => by
    have hl := (List.getElem?_eq_some_iff.mp hx).1
    rw [List.length_append, List.length_singleton] at hi
    by_cases e : i = rows.length
    · subst e
      rw [List.getElem?_append_left hl, hx] at hy
      cases hy
      have er : rowAt (rows ++ [(a, b, c)]) rows.length = (a, b, c) := by
        unfold rowAt
        rw [List.getD_eq_getElem?_getD, List.getElem?_append_right (Nat.le_refl _), Nat.sub_self]
        rfl
      unfold nxt
      rw [er]
      match k, hk with
      | 0, _ => exact ha
      | 1, _ => exact hb
      | 2, _ => exact hc
    · have hi2 : i < rows.length := by omega
      have hy2 : os[i]? = some y := by
        rw [List.getElem?_append_left (by omega)] at hy
        exact hy
      have g := J.stp i hi2 y hy2 k hk
      have er : nxt (rows ++ [(a, b, c)]) i k = nxt rows i k := by
        have : rowAt (rows ++ [(a, b, c)]) i = rowAt rows i := by
          unfold rowAt
          rw [List.getD_eq_getElem?_getD, List.getD_eq_getElem?_getD, List.getElem?_append_left hi2]
        unfold nxt
        rw [this]
      rw [er, List.getElem?_append_left (List.getElem?_eq_some_iff.mp g).1]
      exact g
theorem Groups.run {rs : List MRow} {G0 : Grp} {os : List Grp} {rows : List MRow} (J : Groups rs G0 os rows) : ∀ (w : List Nat), (∀ k ∈ w, k < 3) → ∀ {i : Nat} {g : Grp}, os[i]? = some g → os[mrun rows i w]? = some (imgs rs g w)
  | [], _, _, _, h => h
  | k :: w, hw, i, g, h => J.run w (fun j hj => hw j (List.mem_cons_of_mem _ hj)) (J.stp i g h k (hw k List.mem_cons_self))
def allG (fl : List Bool) (g : Grp) : Bool := !decide (false ∈ g.map fun q => fl.getD q false)
theorem allG_iff {fl : List Bool} {g : Grp} : allG fl g = true ↔ ∀ q ∈ g, fl.getD q false = true := by
  unfold allG
  rw [Bool.not_eq_true', decide_eq_false_iff_not, List.mem_map]
  constructor
  · intro h q hq
    cases e : fl.getD q false with
    | true => rfl
    | false => exact absurd ⟨q, hq, e⟩ h
  · rintro h ⟨q, hq, e⟩
    rw [h q hq] at e
    cases e
def grF (fl : List Bool) (os : List Grp) : List Bool := os.map (allG fl)
theorem Groups.lang {rs : List MRow} {G0 : Grp} {os : List Grp} {rows : List MRow} {fl : List Bool} (ok : RowsOk rs) (lt : ∀ q ∈ G0, q < rs.length) (J : Groups rs G0 os rows) {w : List Nat} (hw : ∀ k ∈ w, k < 3) : lang rows (grF fl os) w = true ↔ ∀ q ∈ G0, fl.getD (mrun rs q w) false = true := by
  have h := J.run w hw J.z
  unfold DD.lang grF
  rw [List.getD_eq_getElem?_getD, List.getElem?_map, h]
  show allG fl (imgs rs G0 w) = true ↔ _
  rw [allG_iff]
  constructor
  · intro h q hq
    exact h _ ((mem_imgs ok w lt).mpr ⟨q, hq, rfl⟩)
  · intro h s hs
    obtain ⟨q, hq, rfl⟩ := (mem_imgs ok w lt).mp hs
    exact h q hq
end DD

set_option linter.all false
namespace DD
def Lasts (L : List Nat → Bool) (w : List Nat) : Prop := ∀ u : List Nat, L (u ++ w) = true
theorem run_app {rs : List MRow} {q : Nat} {u w : List Nat} : mrun rs q (u ++ w) = mrun rs (mrun rs q u) w := List.foldl_append
theorem Lasts.self {L : List Nat → Bool} {w : List Nat} (h : Lasts L w) : L w = true := h []
theorem Lasts.mono {L M : List Nat → Bool} (h : ∀ w, L w = true → M w = true) {w : List Nat} (z : Lasts L w) : Lasts M w := fun u => h _ (z u)
end DD

set_option linter.all false
namespace DD
def leS (rs : List MRow) (fl : List Bool) (p q : Nat) : Prop := ∀ w, fl.getD (mrun rs p w) false = true → fl.getD (mrun rs q w) false = true
theorem leS.refl {rs : List MRow} {fl : List Bool} {p : Nat} : leS rs fl p p := fun _ h => h
theorem leS.next {rs : List MRow} {fl : List Bool} {p q : Nat} (h : leS rs fl p q) (k : Nat) : leS rs fl (nxt rs p k) (nxt rs q k) := fun w => h (k :: w)
theorem leS.run {rs : List MRow} {fl : List Bool} {p q : Nat} (h : leS rs fl p q) (u : List Nat) : leS rs fl (mrun rs p u) (mrun rs q u) := fun w z => by
  rw [← run_app] at z ⊢
  exact h _ z
def LeftI (rs : List MRow) (fl : List Bool) : Prop := ∀ w u, lang rs fl w = true → lang rs fl (u ++ w) = true
theorem leS.zero {rs : List MRow} {fl : List Bool} (li : LeftI rs fl) (rch : ∀ q, q < rs.length → ∃ u, mrun rs 0 u = q) {p : Nat} (hp : p < rs.length) : leS rs fl 0 p := fun w h => by
  obtain ⟨u, rfl⟩ := rch p hp
  rw [← run_app]
  exact li w u h
end DD

set_option linter.all false

set_option linter.all false
namespace DD
def cw : Nat → (List Nat → Nat) → Nat
  | 0, g => g []
  | t + 1, g => cw t fun w => g (w ++ [0]) + g (w ++ [1]) + g (w ++ [2])
theorem cw_ext : ∀ {t : Nat} {g h : List Nat → Nat}, (∀ w, w.length = t → Same3 w → g w = h w) → cw t g = cw t h
  | 0, g, h, e => e [] rfl (fun a ha => by cases ha)
  | t + 1, g, h, e => by
    show cw t (fun w => g (w ++ [0]) + g (w ++ [1]) + g (w ++ [2])) = cw t fun w => h (w ++ [0]) + h (w ++ [1]) + h (w ++ [2])
    refine cw_ext (t := t) fun w hw hs => ?_
    have s3 : ∀ k, k < 3 → Same3 (w ++ [k]) := fun k hk a ha => by
      rcases List.mem_append.mp ha with ha | ha
      · exact hs a ha
      · rw [List.mem_singleton.mp ha]
        exact hk
    have ln : ∀ k, (w ++ [k]).length = t + 1 := fun k => by rw [List.length_append, List.length_singleton, hw]
    rw [e _ (ln 0) (s3 0 (by decide)), e _ (ln 1) (s3 1 (by decide)), e _ (ln 2) (s3 2 (by decide))]
theorem cw_add : ∀ {t : Nat} {g h : List Nat → Nat}, cw t (fun w => g w + h w) = cw t g + cw t h
  | 0, g, h => rfl
  | t + 1, g, h => by
    show cw t (fun w => (g (w ++ [0]) + h (w ++ [0])) + (g (w ++ [1]) + h (w ++ [1])) + (g (w ++ [2]) + h (w ++ [2]))) = cw t (fun w => g (w ++ [0]) + g (w ++ [1]) + g (w ++ [2])) + cw t fun w => h (w ++ [0]) + h (w ++ [1]) + h (w ++ [2])
    rw [← cw_add]
    refine cw_ext (t := t) fun w _ _ => ?_
    omega
def sumF (c : List Nat) (G : Nat → Nat) : Nat := ((List.range c.length).map fun q => c.getD q 0 * G q).sum
def addAt (l : List Nat) (q k : Nat) : List Nat := l.set q (l.getD q 0 + k)
theorem addAt_len {l : List Nat} {q k : Nat} : (addAt l q k).length = l.length := by
  unfold addAt
  rw [List.length_set]
theorem sum_upd {n q k : Nat} {f g : Nat → Nat} (hq : q < n) (h : ∀ i, i ≠ q → f i = g i) (hk : f q = g q + k) : ((List.range n).map f).sum = ((List.range n).map g).sum + k := by
  induction n with
  | zero => omega
  | succ n ih =>
    rw [List.range_succ, List.map_append, List.map_append, List.sum_append, List.sum_append, List.map_singleton, List.map_singleton, List.sum_singleton, List.sum_singleton]
    by_cases e : q = n
    · subst e
      have : (List.range q).map f = (List.range q).map g := List.map_congr_left fun i hi => h i (by have := List.mem_range.mp hi; omega)
      rw [this, hk]
      omega
    · rw [ih (by omega), h n (fun z => e z.symm)]
      omega
theorem sumF_add {l : List Nat} {q k : Nat} {G : Nat → Nat} (hq : q < l.length) : sumF (addAt l q k) G = sumF l G + k * G q := by
  unfold sumF
  rw [addAt_len]
  refine sum_upd hq (fun i hi => ?_) ?_
  · unfold addAt
    rw [List.getD_eq_getElem?_getD (l := l.set q _), List.getElem?_set_ne (fun z => hi z.symm), ← List.getD_eq_getElem?_getD]
  · unfold addAt
    rw [List.getD_eq_getElem?_getD (l := l.set q _), List.getElem?_set_self hq]
    show (l.getD q 0 + k) * G q = _
    rw [Nat.add_mul]
theorem sumF_zero {n : Nat} {G : Nat → Nat} : sumF (List.replicate n 0) G = 0 := by
  unfold sumF
  rw [List.length_replicate]
  induction n with
  | zero => rfl
  | succ n ih => 
    have : ∀ m, ((List.range m).map fun q => (List.replicate (n + 1) 0).getD q 0 * G q).sum = 0 := fun m => by
      induction m with
      | zero => rfl
      | succ m im =>
        rw [List.range_succ, List.map_append, List.sum_append, im, List.map_singleton, List.sum_singleton]
        rw [List.getD_eq_getElem?_getD, List.getElem?_replicate]
        split <;> simp
    exact this _
def addRow (rs : List MRow) (c : List Nat) (l : List Nat) (s : Nat) : List Nat := addAt (addAt (addAt l (rowAt rs s).1 (c.getD s 0)) (rowAt rs s).2.1 (c.getD s 0)) (rowAt rs s).2.2 (c.getD s 0)
def stepN (rs : List MRow) (c : List Nat) (k : Nat) : List Nat := (List.range k).foldl (addRow rs c) (List.replicate rs.length 0)
def cntL (rs : List MRow) : Nat → List Nat
  | 0 => (List.range rs.length).map fun q => if q = 0 then 1 else 0
  | t + 1 => stepN rs (cntL rs t) rs.length
theorem addRow_len {rs : List MRow} {c l : List Nat} {s : Nat} : (addRow rs c l s).length = l.length := by
  unfold addRow
  rw [addAt_len, addAt_len, addAt_len]
theorem stepN_succ {rs : List MRow} {c : List Nat} {k : Nat} : stepN rs c (k + 1) = addRow rs c (stepN rs c k) k := by
  unfold stepN
  rw [List.range_succ, List.foldl_append]
  rfl
theorem stepN_len {rs : List MRow} {c : List Nat} : ∀ {k : Nat}, (stepN rs c k).length = rs.length
  | 0 => List.length_replicate
  | k + 1 => by rw [stepN_succ, addRow_len, stepN_len]
theorem cntL_len {rs : List MRow} : ∀ {t : Nat}, (cntL rs t).length = rs.length
  | 0 => by
    show ((List.range rs.length).map _).length = _
    rw [List.length_map, List.length_range]
  | t + 1 => stepN_len
theorem stepN_sum {rs : List MRow} (ok : RowsOk rs) {c : List Nat} {G : Nat → Nat} : ∀ {k : Nat}, k ≤ rs.length → sumF (stepN rs c k) G = ((List.range k).map fun s => c.getD s 0 * (G (nxt rs s 0) + G (nxt rs s 1) + G (nxt rs s 2))).sum
  | 0, _ => sumF_zero
  | k + 1, hk => by
    have l1 := nxt_lt ok (q := k) (by omega) 0
    have l2 := nxt_lt ok (q := k) (by omega) 1
    have l3 := nxt_lt ok (q := k) (by omega) 2
    have ln : (stepN rs c k).length = rs.length := stepN_len
    rw [stepN_succ, List.range_succ, List.map_append, List.sum_append, List.map_singleton, List.sum_singleton, ← stepN_sum ok (by omega : k ≤ rs.length)]
    show sumF (addAt (addAt (addAt (stepN rs c k) (nxt rs k 0) (c.getD k 0)) (nxt rs k 1) (c.getD k 0)) (nxt rs k 2) (c.getD k 0)) G = _
    rw [sumF_add (by rw [addAt_len, addAt_len, ln]; exact l3), sumF_add (by rw [addAt_len, ln]; exact l2), sumF_add (by rw [ln]; exact l1), Nat.mul_add, Nat.mul_add]
    omega
theorem cnt_words {rs : List MRow} (ok : RowsOk rs) : ∀ {t : Nat} {G : Nat → Nat}, sumF (cntL rs t) G = cw t fun w => G (mrun rs 0 w)
  | 0, G => by
    unfold sumF
    rw [cntL_len]
    have hp := ok.pos
    have : ((List.range rs.length).map fun q => (cntL rs 0).getD q 0 * G q) = (List.range rs.length).map fun q => if q = 0 then G 0 else 0 := List.map_congr_left fun q hq => by
      have hq := List.mem_range.mp hq
      show ((List.range rs.length).map fun q => if q = 0 then 1 else 0).getD q 0 * G q = _
      rw [List.getD_eq_getElem?_getD, List.getElem?_map, List.getElem?_range hq]
      show (if q = 0 then 1 else 0) * G q = _
      by_cases e : q = 0
      · rw [if_pos e, if_pos e, e, Nat.one_mul]
      · rw [if_neg e, if_neg e, Nat.zero_mul]
    rw [this]
    have go : ∀ n, 0 < n → ((List.range n).map fun q => if q = 0 then G 0 else 0).sum = G 0 := fun n => by
      induction n with
      | zero => exact fun h => absurd h (Nat.lt_irrefl _)
      | succ n ih =>
        intro _
        rw [List.range_succ, List.map_append, List.sum_append, List.map_singleton, List.sum_singleton]
        by_cases e : n = 0
        · subst e
          simp
        · rw [ih (by omega), if_neg e]
          omega
    rw [go _ hp]
    rfl
  | t + 1, G => by
    have h := stepN_sum ok (c := cntL rs t) (G := G) (Nat.le_refl _)
    show sumF (stepN rs (cntL rs t) rs.length) G = _
    rw [h]
    have e : ((List.range rs.length).map fun s => (cntL rs t).getD s 0 * (G (nxt rs s 0) + G (nxt rs s 1) + G (nxt rs s 2))).sum = sumF (cntL rs t) fun s => G (nxt rs s 0) + G (nxt rs s 1) + G (nxt rs s 2) := by
      unfold sumF
      rw [cntL_len]
    rw [e, cnt_words ok]
    show _ = cw t fun w => G (mrun rs 0 (w ++ [0])) + G (mrun rs 0 (w ++ [1])) + G (mrun rs 0 (w ++ [2]))
    refine cw_ext (t := t) fun w _ _ => ?_
    have r : ∀ k, mrun rs 0 (w ++ [k]) = nxt rs (mrun rs 0 w) k := fun k => by
      unfold mrun
      rw [List.foldl_append]
      rfl
    rw [r, r, r]
end DD

set_option Elab.async false
set_option linter.all false
namespace DD
def Det (b1 b2 r : List MRow) : Prop := ∀ u w : List Nat, mrun b1 0 u = mrun b1 0 w → mrun b2 0 u = mrun b2 0 w → mrun r 0 u = mrun r 0 w
structure Of2 (b1 b2 : List MRow) (g1 g2 : List Bool) (f : Bool → Bool → Bool) (r : List MRow) (fl : List Bool) : Prop where
  L : Least r fl
  e : ∀ w, lang r fl w = f (lang b1 g1 w) (lang b2 g2 w)
section
variable {b1 b2 r r1 r2 : List MRow} {g1 g2 fl f1 f2 : List Bool} {f g : Bool → Bool → Bool}
theorem Of2.det (A : Of2 b1 b2 g1 g2 f r fl) : Det b1 b2 r := fun u w h1 h2 => by
  refine A.L.no _ _ (A.L.run u) (A.L.run w) fun v => ?_
  have hu := A.e (u ++ v)
  have hw := A.e (w ++ v)
  unfold lang at hu hw
  rw [mrun_app, mrun_app (rs := b1), mrun_app (rs := b2)] at hu hw
  rw [hu, hw, h1, h2]
theorem joint_le {os : List PairN} {rows : List MRow} (ok1 : RowsOk b1) (ok2 : RowsOk b2) (d1 : Det b1 b2 r1) (d2 : Det b1 b2 r2) (J : Joined r1 r2 os rows) : os.length ≤ b1.length * b2.length := by
  have ex : ∀ x : PairN, ∃ w : List Nat, x ∈ os → x = (mrun r1 0 w, mrun r2 0 w) := fun x => by
    by_cases hx : x ∈ os
    · obtain ⟨w, _, e⟩ := J.rch x hx
      exact ⟨w, fun _ => e⟩
    · exact ⟨[], fun z => absurd z hx⟩
  have ⟨word, hw⟩ : ∃ word : PairN → List Nat, ∀ x, x ∈ os → x = (mrun r1 0 (word x), mrun r2 0 (word x)) := ⟨fun x => Classical.choose (ex x), fun x => Classical.choose_spec (ex x)⟩
  have nd : (os.map fun x => (mrun b1 0 (word x), mrun b2 0 (word x))).Nodup := nodup_mapOn J.nd fun a ha b hb h => by
    obtain ⟨h1, h2⟩ := Prod.mk.inj h
    rw [hw a ha, hw b hb, d1 _ _ h1 h2, d2 _ _ h1 h2]
  have := pairs_le (n := b1.length) (m := b2.length) nd fun x hx => by
    obtain ⟨y, _, rfl⟩ := List.mem_map.mp hx
    exact ⟨run_lt ok1 _ ok1.pos, run_lt ok2 _ ok2.pos⟩
  rwa [List.length_map] at this
theorem Of2.len (ok1 : RowsOk b1) (ok2 : RowsOk b2) (A : Of2 b1 b2 g1 g2 f r fl) : r.length ≤ b1.length * b2.length := by
  have ex : ∀ q : Nat, ∃ w : List Nat, q < r.length → mrun r 0 w = q := fun q => by
    by_cases hq : q < r.length
    · obtain ⟨w, e⟩ := A.L.reach hq
      exact ⟨w, fun _ => e⟩
    · exact ⟨[], fun z => absurd z hq⟩
  have ⟨word, hw⟩ : ∃ word : Nat → List Nat, ∀ q, q < r.length → mrun r 0 (word q) = q := ⟨fun q => Classical.choose (ex q), fun q => Classical.choose_spec (ex q)⟩
  have nd : ((List.range r.length).map fun q => (mrun b1 0 (word q), mrun b2 0 (word q))).Nodup := nodup_mapOn List.nodup_range fun a ha b hb h => by
    obtain ⟨h1, h2⟩ := Prod.mk.inj h
    rw [← hw a (List.mem_range.mp ha), ← hw b (List.mem_range.mp hb), A.det _ _ h1 h2]
  have := pairs_le (n := b1.length) (m := b2.length) nd fun x hx => by
    obtain ⟨y, _, rfl⟩ := List.mem_map.mp hx
    exact ⟨run_lt ok1 _ ok1.pos, run_lt ok2 _ ok2.pos⟩
  rwa [List.length_map, List.length_range] at this
theorem of2_one (B1 : Least b1 g1) : Of2 b1 b2 g1 g2 (fun a _ => a) b1 g1 := ⟨B1, fun _ => rfl⟩
theorem of2_other (B2 : Least b2 g2) : Of2 b1 b2 g1 g2 (fun _ b => b) b2 g2 := ⟨B2, fun _ => rfl⟩
theorem Of2.same (A : Of2 b1 b2 g1 g2 f r1 f1) (B : Of2 b1 b2 g1 g2 g r2 f2) (h : ∀ a b, f a b = g a b) : r1 = r2 ∧ f1 = f2 := canon A.L B.L fun w => by rw [A.e, B.e, h]
theorem Of2.same_iff (A : Of2 b1 b2 g1 g2 f r1 f1) (B : Of2 b1 b2 g1 g2 g r2 f2) : (r1 = r2 ∧ f1 = f2) ↔ ∀ w, f (lang b1 g1 w) (lang b2 g2 w) = g (lang b1 g1 w) (lang b2 g2 w) := by
  constructor
  · rintro ⟨rfl, rfl⟩ w
    rw [← A.e, ← B.e]
  · exact fun h => canon A.L B.L fun w => by rw [A.e, B.e, h]
theorem Of2.some_iff (A : Of2 b1 b2 g1 g2 f r fl) : true ∈ fl ↔ ∃ w, f (lang b1 g1 w) (lang b2 g2 w) = true := by
  constructor
  · intro h
    obtain ⟨q, hq, e⟩ := List.getElem_of_mem h
    obtain ⟨w, hw⟩ := A.L.reach (by rw [← A.L.len]; exact hq)
    refine ⟨w, ?_⟩
    rw [← A.e]
    unfold lang
    rw [hw, List.getD_eq_getElem?_getD, List.getElem?_eq_getElem hq]
    exact e
  · rintro ⟨w, h⟩
    rw [← A.e] at h
    unfold lang at h
    have hq : mrun r 0 w < fl.length := by rw [A.L.len]; exact A.L.run w
    rw [List.getD_eq_getElem?_getD, List.getElem?_eq_getElem hq] at h
    rw [← show fl[mrun r 0 w] = true from h]
    exact List.getElem_mem hq
theorem Of2.count (A : Of2 b1 b2 g1 g2 f r fl) (t : Nat) : sumF (cntL r t) (fun q => if fl.getD q false = true then 1 else 0) = cw t fun w => if f (lang b1 g1 w) (lang b2 g2 w) = true then 1 else 0 := by
  rw [cnt_words A.L.ok]
  refine cw_ext fun w _ _ => ?_
  rw [← A.e]
  rfl
end
end DD

set_option Elab.async false
set_option linter.all false
set_option maxRecDepth 100000
set_option maxHeartbeats 4000000
namespace HK
open PySem PySem.W
def pick {α : Type} : List α → List Nat → List (Option α)
  | [], ds => ds.map fun _ => none
  | _ :: _, [] => []
  | o :: os, 0 :: ds => some o :: pick os ds
  | _ :: os, (d + 1) :: ds => pick os (d :: ds)
def gaps : Nat → List Nat → List Nat
  | _, [] => []
  | i, a :: as => (a - i) :: gaps (a + 1) as
def asc : Nat → List Nat → Bool
  | _, [] => true
  | i, a :: as => Nat.ble i a && asc (a + 1) as
theorem asc_mono : ∀ {as : List Nat} {i j : Nat}, asc i as = true → j ≤ i → ∀ a ∈ as, j ≤ a
  | [], _, _, _, _, _, h => by cases h
  | b :: as, i, j, h, hj, a, ha => by
    obtain ⟨h1, h2⟩ := Bool.and_eq_true_iff.mp (show (Nat.ble i b && asc (b + 1) as) = true from h)
    have h1 := Nat.le_of_ble_eq_true h1
    rcases List.mem_cons.mp ha with rfl | ha
    · omega
    · have := asc_mono h2 (Nat.le_refl _) a ha
      omega
theorem pick_eq {α : Type} : ∀ (l : List α) (as : List Nat) (i : Nat), asc i as = true → pick l (gaps i as) = as.map fun a => l[a - i]?
  | [], as, i, _ => by
    have : ∀ ds : List Nat, pick ([] : List α) ds = ds.map fun _ => none := fun ds => by
      cases ds <;> rfl
    rw [this]
    have g : ∀ (as : List Nat) (i : Nat), (gaps i as).map (fun _ => (none : Option α)) = as.map fun _ => none := fun as => by
      induction as with
      | nil => exact fun _ => rfl
      | cons a as ih => exact fun i => by rw [gaps, List.map_cons, List.map_cons, ih]
    rw [g]
    exact List.map_congr_left fun a _ => by simp
  | o :: l, [], i, _ => rfl
  | o :: l, a :: as, i, h => by
    obtain ⟨h1, h2⟩ := Bool.and_eq_true_iff.mp (show (Nat.ble i a && asc (a + 1) as) = true from h)
    have h1 := Nat.le_of_ble_eq_true h1
    rw [gaps, List.map_cons]
    cases e : a - i with
    | zero =>
      have ei : a = i := by omega
      subst ei
      have ih := pick_eq l as (a + 1) h2
      show some o :: pick l (gaps (a + 1) as) = _
      rw [ih]
      congr 1
      refine List.map_congr_left fun b hb => ?_
      have := asc_mono h2 (Nat.le_refl _) b hb
      rw [show b - a = (b - (a + 1)) + 1 by omega, List.getElem?_cons_succ]
    | succ d =>
      show pick l (d :: gaps (a + 1) as) = _
      have h3 : asc (i + 1) (a :: as) = true := by
        show (Nat.ble (i + 1) a && asc (a + 1) as) = true
        rw [Nat.ble_eq_true_of_le (by omega), h2]
        rfl
      have ih := pick_eq l (a :: as) (i + 1) h3
      rw [gaps, show a - (i + 1) = d by omega, List.map_cons] at ih
      rw [ih, show a - (i + 1) = d by omega, List.getElem?_cons_succ]
      congr 1
      refine List.map_congr_left fun b hb => ?_
      have := asc_mono h2 (Nat.le_refl _) b hb
      rw [show b - i = (b - (i + 1)) + 1 by omega, List.getElem?_cons_succ]
def live : Option Obj → Option Obj
  | some ⟨_, _, .freed, _⟩ => none
  | o => o
theorem pick_get {as : List Nat} {s : Shared} (h : asc 0 as = true) : (pick s.heap.objs.toList (gaps 0 as)).map live = as.map s.heap.get? := by
  rw [pick_eq _ _ _ h, List.map_map]
  refine List.map_congr_left fun a _ => ?_
  show live (s.heap.objs.toList[a - 0]?) = s.heap.get? a
  rw [Nat.sub_zero, Array.getElem?_toList]
  rfl
def hook (K : Params → Frag) (as : List Addr) (h : asc 0 as = true) (e : ∀ P, as = (K P).map (·.1)) : Hook :=
  ⟨List (Option Obj), fun s => (pick s.heap.objs.toList (gaps 0 as)).map live, fun w => (K w.params).map fun p => some p.2, InK K, fun w s x => InK.of e w s ((pick_get h).symm.trans x), InK.keeps⟩
theorem hook_says {K : Params → Frag} {as : List Addr} {h : asc 0 as = true} {e : ∀ P, as = (K P).map (·.1)} {w : World} {hp : Heap} (Y : (hook K as h e).says w hp) : (K w.params).In hp := Y
end HK

set_option Elab.async false
set_option linter.all false
set_option maxRecDepth 100000
set_option maxHeartbeats 8000000
namespace K
open PySem PySem.Spec PyProof.Rows L2 DD
local macro_rules | `(tactic| simp only [zP]) => `(tactic| simp only [startD, List.map_cons, List.map_nil, List.length_cons, List.length_nil, Nat.reduceAdd, Nat.reduceSub, List.replicate, List.cons_append, List.nil_append, dSeq, dSet, dIfS, dT, dOp, dCB, dCons, dNil, dV, dM, dC, dp, dNext, dRet, dRetN, dLst, dTup, dDrop, dNot, dAnd, dOr, dAndV, dOrV, dNotV, intG, intG0, lenG, lenD, ixG, itemD, intCG, intOf, maxG, List.getElem?_cons_zero, List.getElem?_cons_succ, List.set_cons_zero, List.set_cons_succ, Option.some.injEq, B.isU, B.isR, B.d, B.rd, exists_eq_left', exists_eq_left, exists_and_left, true_and, and_true, B.p.injEq, DD.D.bl.injEq, DD.D.int.injEq, List.cons.injEq, DD.PC, decide_eq_true_eq, and_assoc, Option.map_some, dLc, iAny, walked, wipeE, gN, dCall, dCallP, dCallF, eqG, neG, Bool.not_true, Bool.not_false, if_true, if_false, Bool.false_eq_true, reduceIte, List.append_nil, dCBK, addG, dM1, gT, gsCons, gsNil, iEnumD, dAsP, iR1, dPart, dNo, dSl, freB, lstD, List.all_cons, List.all_nil, litD, Bool.and_self, dReprPair, dDctN, itemD2, ixG2, keyD, lookD, strG2, dPar, bCons, bNil, dFor, List.zip_cons_cons, List.zip_nil_right, List.foldl_cons, List.foldl_nil, dApp, B.o.injEq, DD.D.lst.injEq, DD.D.tup.injEq, exists_eq', dDct0, B.u.injEq, sizeLine_eq, Nat.reduceLeDiff, Nat.reduceLT, Nat.zero_le, true_implies, slG, List.length_map, tupleG, seqD, listG, iR2, List.length_take, List.length_drop, List.length_append, DD.D.str.injEq, mulG, dAsg, dFld, lookF, dSetF, setF, dProp, dMeth, dMake, dMakeK, cxOf_K, dChain, notNG, isNG, isNon_non, isNon_bl, isNon_int, isNon_str, isNon_lst, isNon_tup, isNon_dct, isNon_ins, isNon_exc, dXv, reprG, DD.D.ins.injEq, DD.D.exc.injEq, cmpIG, neIG, clsD, Option.bind_some, B.s.injEq, if_true, if_false, dNeg, dLenSet, dIndex, dClrE, dAppE, dCallK, eqKG, sortedSG])
local macro_rules | `(tactic| simp only [zP, $xs,*]) => `(tactic| simp only [startD, List.map_cons, List.map_nil, List.length_cons, List.length_nil, Nat.reduceAdd, Nat.reduceSub, List.replicate, List.cons_append, List.nil_append, dSeq, dSet, dIfS, dT, dOp, dCB, dCons, dNil, dV, dM, dC, dp, dNext, dRet, dRetN, dLst, dTup, dDrop, dNot, dAnd, dOr, dAndV, dOrV, dNotV, intG, intG0, lenG, lenD, ixG, itemD, intCG, intOf, maxG, List.getElem?_cons_zero, List.getElem?_cons_succ, List.set_cons_zero, List.set_cons_succ, Option.some.injEq, B.isU, B.isR, B.d, B.rd, exists_eq_left', exists_eq_left, exists_and_left, true_and, and_true, B.p.injEq, DD.D.bl.injEq, DD.D.int.injEq, List.cons.injEq, DD.PC, decide_eq_true_eq, and_assoc, Option.map_some, dLc, iAny, walked, wipeE, gN, dCall, dCallP, dCallF, eqG, neG, Bool.not_true, Bool.not_false, if_true, if_false, Bool.false_eq_true, reduceIte, List.append_nil, dCBK, addG, dM1, gT, gsCons, gsNil, iEnumD, dAsP, iR1, dPart, dNo, dSl, freB, lstD, List.all_cons, List.all_nil, litD, Bool.and_self, dReprPair, dDctN, itemD2, ixG2, keyD, lookD, strG2, dPar, bCons, bNil, dFor, List.zip_cons_cons, List.zip_nil_right, List.foldl_cons, List.foldl_nil, dApp, B.o.injEq, DD.D.lst.injEq, DD.D.tup.injEq, exists_eq', dDct0, B.u.injEq, sizeLine_eq, Nat.reduceLeDiff, Nat.reduceLT, Nat.zero_le, true_implies, slG, List.length_map, tupleG, seqD, listG, iR2, List.length_take, List.length_drop, List.length_append, DD.D.str.injEq, mulG, dAsg, dFld, lookF, dSetF, setF, dProp, dMeth, dMake, dMakeK, cxOf_K, dChain, notNG, isNG, isNon_non, isNon_bl, isNon_int, isNon_str, isNon_lst, isNon_tup, isNon_dct, isNon_ins, isNon_exc, dXv, reprG, DD.D.ins.injEq, DD.D.exc.injEq, cmpIG, neIG, clsD, Option.bind_some, B.s.injEq, if_true, if_false, dNeg, dLenSet, dIndex, dClrE, dAppE, dCallK, eqKG, sortedSG, $xs,*])
local macro_rules | `(tactic| simp only [zQ]) => `(tactic| simp only [startD, List.map_cons, List.map_nil, List.length_cons, List.length_nil, Nat.reduceAdd, Nat.reduceSub, List.replicate, List.cons_append, List.nil_append, dSet, dIfS, dT, dOp, dCB, dCons, dNil, dV, dM, dC, dp, dNext, dRet, dRetN, dLst, dTup, dDrop, dNot, dAnd, dOr, dAndV, dOrV, dNotV, intG, intG0, lenG, lenD, ixG, itemD, intCG, intOf, maxG, List.getElem?_cons_zero, List.getElem?_cons_succ, List.set_cons_zero, List.set_cons_succ, Option.some.injEq, B.isU, B.isR, B.d, B.rd, exists_eq_left', exists_eq_left, exists_and_left, true_and, and_true, B.p.injEq, DD.D.bl.injEq, DD.D.int.injEq, List.cons.injEq, DD.PC, decide_eq_true_eq, and_assoc, Option.map_some, dLc, iAny, walked, wipeE, gN, dCall, dCallP, dCallF, eqG, neG, Bool.not_true, Bool.not_false, if_true, if_false, Bool.false_eq_true, reduceIte, List.append_nil, dCBK, addG, dM1, gT, gsCons, gsNil, iEnumD, dAsP, iR1, dPart, dNo, dSl, freB, lstD, List.all_cons, List.all_nil, litD, Bool.and_self, dReprPair, dDctN, itemD2, ixG2, keyD, lookD, strG2, dPar, bCons, bNil, dFor, List.zip_cons_cons, List.zip_nil_right, List.foldl_cons, List.foldl_nil, dApp, B.o.injEq, DD.D.lst.injEq, DD.D.tup.injEq, exists_eq', dDct0, B.u.injEq, sizeLine_eq, Nat.reduceLeDiff, Nat.reduceLT, Nat.zero_le, true_implies, slG, List.length_map, tupleG, seqD, listG, iR2, List.length_take, List.length_drop, List.length_append, DD.D.str.injEq, mulG, dAsg, dFld, lookF, dSetF, setF, dProp, dMeth, dMake, dMakeK, cxOf_K, dChain, notNG, isNG, isNon_non, isNon_bl, isNon_int, isNon_str, isNon_lst, isNon_tup, isNon_dct, isNon_ins, isNon_exc, dXv, reprG, DD.D.ins.injEq, DD.D.exc.injEq, cmpIG, neIG, clsD, Option.bind_some, B.s.injEq, if_true, if_false, dNeg, dLenSet, dIndex, dClrE, dAppE, dCallK, eqKG, sortedSG])
local macro_rules | `(tactic| simp only [zQ, $xs,*]) => `(tactic| simp only [startD, List.map_cons, List.map_nil, List.length_cons, List.length_nil, Nat.reduceAdd, Nat.reduceSub, List.replicate, List.cons_append, List.nil_append, dSet, dIfS, dT, dOp, dCB, dCons, dNil, dV, dM, dC, dp, dNext, dRet, dRetN, dLst, dTup, dDrop, dNot, dAnd, dOr, dAndV, dOrV, dNotV, intG, intG0, lenG, lenD, ixG, itemD, intCG, intOf, maxG, List.getElem?_cons_zero, List.getElem?_cons_succ, List.set_cons_zero, List.set_cons_succ, Option.some.injEq, B.isU, B.isR, B.d, B.rd, exists_eq_left', exists_eq_left, exists_and_left, true_and, and_true, B.p.injEq, DD.D.bl.injEq, DD.D.int.injEq, List.cons.injEq, DD.PC, decide_eq_true_eq, and_assoc, Option.map_some, dLc, iAny, walked, wipeE, gN, dCall, dCallP, dCallF, eqG, neG, Bool.not_true, Bool.not_false, if_true, if_false, Bool.false_eq_true, reduceIte, List.append_nil, dCBK, addG, dM1, gT, gsCons, gsNil, iEnumD, dAsP, iR1, dPart, dNo, dSl, freB, lstD, List.all_cons, List.all_nil, litD, Bool.and_self, dReprPair, dDctN, itemD2, ixG2, keyD, lookD, strG2, dPar, bCons, bNil, dFor, List.zip_cons_cons, List.zip_nil_right, List.foldl_cons, List.foldl_nil, dApp, B.o.injEq, DD.D.lst.injEq, DD.D.tup.injEq, exists_eq', dDct0, B.u.injEq, sizeLine_eq, Nat.reduceLeDiff, Nat.reduceLT, Nat.zero_le, true_implies, slG, List.length_map, tupleG, seqD, listG, iR2, List.length_take, List.length_drop, List.length_append, DD.D.str.injEq, mulG, dAsg, dFld, lookF, dSetF, setF, dProp, dMeth, dMake, dMakeK, cxOf_K, dChain, notNG, isNG, isNon_non, isNon_bl, isNon_int, isNon_str, isNon_lst, isNon_tup, isNon_dct, isNon_ins, isNon_exc, dXv, reprG, DD.D.ins.injEq, DD.D.exc.injEq, cmpIG, neIG, clsD, Option.bind_some, B.s.injEq, if_true, if_false, dNeg, dLenSet, dIndex, dClrE, dAppE, dCallK, eqKG, sortedSG, $xs,*])
local macro_rules | `(tactic| simp only [zM]) => `(tactic| simp only [startD, List.map_cons, List.map_nil, List.length_cons, List.length_nil, Nat.reduceAdd, Nat.reduceSub, List.replicate, List.cons_append, List.nil_append, dSet, dIfS, dT, dOp, dCB, dCons, dNil, dV, dM, dC, dp, dNext, dRet, dRetN, dLst, dTup, dDrop, dNot, dAnd, dOr, dAndV, dOrV, dNotV, intG, intG0, lenG, lenD, ixG, itemD, intCG, intOf, maxG, List.getElem?_cons_zero, List.getElem?_cons_succ, List.set_cons_zero, List.set_cons_succ, Option.some.injEq, B.isU, B.isR, B.d, B.rd, exists_eq_left', exists_eq_left, exists_and_left, true_and, and_true, B.p.injEq, DD.D.bl.injEq, DD.D.int.injEq, List.cons.injEq, DD.PC, decide_eq_true_eq, and_assoc, Option.map_some, dLc, iAny, walked, wipeE, gN, dCall, dCallP, dCallF, eqG, neG, Bool.not_true, Bool.not_false, if_true, if_false, Bool.false_eq_true, reduceIte, List.append_nil, dCBK, addG, dM1, gT, gsCons, gsNil, iEnumD, dAsP, iR1, dPart, dNo, dSl, freB, lstD, List.all_cons, List.all_nil, litD, Bool.and_self, dReprPair, dDctN, itemD2, ixG2, keyD, lookD, strG2, dPar, bCons, bNil, dFor, List.zip_cons_cons, List.zip_nil_right, List.foldl_cons, List.foldl_nil, dApp, B.o.injEq, DD.D.lst.injEq, DD.D.tup.injEq, exists_eq', dDct0, B.u.injEq, sizeLine_eq, Nat.reduceLeDiff, Nat.reduceLT, Nat.zero_le, true_implies, slG, List.length_map, tupleG, seqD, listG, iR2, List.length_take, List.length_drop, List.length_append, DD.D.str.injEq, mulG, dAsg, dFld, lookF, dSetF, setF, dProp, dMeth, dMake, dMakeK, cxOf_K, dChain, notNG, isNG, isNon_non, isNon_bl, isNon_int, isNon_str, isNon_lst, isNon_tup, isNon_dct, isNon_ins, isNon_exc, dXv, reprG, DD.D.ins.injEq, DD.D.exc.injEq, cmpIG, neIG, clsD, Option.bind_some, B.s.injEq, if_true, if_false, dNeg, dLenSet, dIndex, dClrE, dAppE, dCallK, eqKG, sortedSG, dNL, dNR, slotD, eqL, neL, inL, isInX, ixL, itemX, getD', lenX, dLenN, dGet2, dPutN, ownS, setX, dRev, dClr, dPop, dPopAt, dExt, dAug, dDc, dLend, lendE, lend1, lentB, isLD, dDctT, dLenSetA, keyT, keyL, List.mem_cons, List.not_mem_nil, or_false, false_or, or_true, true_or, Nat.reduceEqDiff, decide_true, decide_false, Bool.or_true, Bool.true_or, Bool.false_or, Bool.or_false, Bool.and_true, Bool.true_and, reduceCtorEq, DD.D.dct.injEq, DD.D.dcT.injEq, dDctT0, nilG, nilL, List.isEmpty_nil, List.isEmpty_cons, dTold, dChg, dLendM, dListM, dNM, dRetP, dMethM, dCallM, clrZ, clrM, clr1, B.told, noM, isM1, onlyM, plainB, isPl, List.all_cons, List.all_nil, List.map_cons, List.map_nil, lstsD, dOfM, B.plain, dCallQ, dAugN, iEnumT])
local macro_rules | `(tactic| simp only [zM, $xs,*]) => `(tactic| simp only [startD, List.map_cons, List.map_nil, List.length_cons, List.length_nil, Nat.reduceAdd, Nat.reduceSub, List.replicate, List.cons_append, List.nil_append, dSet, dIfS, dT, dOp, dCB, dCons, dNil, dV, dM, dC, dp, dNext, dRet, dRetN, dLst, dTup, dDrop, dNot, dAnd, dOr, dAndV, dOrV, dNotV, intG, intG0, lenG, lenD, ixG, itemD, intCG, intOf, maxG, List.getElem?_cons_zero, List.getElem?_cons_succ, List.set_cons_zero, List.set_cons_succ, Option.some.injEq, B.isU, B.isR, B.d, B.rd, exists_eq_left', exists_eq_left, exists_and_left, true_and, and_true, B.p.injEq, DD.D.bl.injEq, DD.D.int.injEq, List.cons.injEq, DD.PC, decide_eq_true_eq, and_assoc, Option.map_some, dLc, iAny, walked, wipeE, gN, dCall, dCallP, dCallF, eqG, neG, Bool.not_true, Bool.not_false, if_true, if_false, Bool.false_eq_true, reduceIte, List.append_nil, dCBK, addG, dM1, gT, gsCons, gsNil, iEnumD, dAsP, iR1, dPart, dNo, dSl, freB, lstD, List.all_cons, List.all_nil, litD, Bool.and_self, dReprPair, dDctN, itemD2, ixG2, keyD, lookD, strG2, dPar, bCons, bNil, dFor, List.zip_cons_cons, List.zip_nil_right, List.foldl_cons, List.foldl_nil, dApp, B.o.injEq, DD.D.lst.injEq, DD.D.tup.injEq, exists_eq', dDct0, B.u.injEq, sizeLine_eq, Nat.reduceLeDiff, Nat.reduceLT, Nat.zero_le, true_implies, slG, List.length_map, tupleG, seqD, listG, iR2, List.length_take, List.length_drop, List.length_append, DD.D.str.injEq, mulG, dAsg, dFld, lookF, dSetF, setF, dProp, dMeth, dMake, dMakeK, cxOf_K, dChain, notNG, isNG, isNon_non, isNon_bl, isNon_int, isNon_str, isNon_lst, isNon_tup, isNon_dct, isNon_ins, isNon_exc, dXv, reprG, DD.D.ins.injEq, DD.D.exc.injEq, cmpIG, neIG, clsD, Option.bind_some, B.s.injEq, if_true, if_false, dNeg, dLenSet, dIndex, dClrE, dAppE, dCallK, eqKG, sortedSG, dNL, dNR, slotD, eqL, neL, inL, isInX, ixL, itemX, getD', lenX, dLenN, dGet2, dPutN, ownS, setX, dRev, dClr, dPop, dPopAt, dExt, dAug, dDc, dLend, lendE, lend1, lentB, isLD, dDctT, dLenSetA, keyT, keyL, List.mem_cons, List.not_mem_nil, or_false, false_or, or_true, true_or, Nat.reduceEqDiff, decide_true, decide_false, Bool.or_true, Bool.true_or, Bool.false_or, Bool.or_false, Bool.and_true, Bool.true_and, reduceCtorEq, DD.D.dct.injEq, DD.D.dcT.injEq, dDctT0, nilG, nilL, List.isEmpty_nil, List.isEmpty_cons, dTold, dChg, dLendM, dListM, dNM, dRetP, dMethM, dCallM, clrZ, clrM, clr1, B.told, noM, isM1, onlyM, plainB, isPl, List.all_cons, List.all_nil, List.map_cons, List.map_nil, lstsD, dOfM, B.plain, dCallQ, dAugN, iEnumT, $xs,*])
def topS (i : Nat) : Stmt := PySem.Challenge.pw_everypair_k29_whole_set_algebra.main.body.getD i (.Pass ⟨0, 0, 0, 0⟩)
section
variable {P : Program} {w : World} {K : PySem.W.Frag} {mg : Str → Option Value} {base : Heap}

def rowD (r : MRow) : D := .tup [.int (r.1 : Nat), .int (r.2.1 : Nat), .int (r.2.2 : Nat)]
def iD (n : Nat) : D := .int (n : Int)
theorem rowD_inj {r s : MRow} (h : rowD r = rowD s) : r = s := by
  unfold rowD at h
  simp only [D.tup.injEq, List.cons.injEq, D.int.injEq, and_true] at h
  obtain ⟨h1, h2, h3⟩ := h
  exact Prod.ext (Int.ofNat_inj.mp h1) (Prod.ext (Int.ofNat_inj.mp h2) (Int.ofNat_inj.mp h3))
def ky (n : Nat) : Key := .inl (n : Int)
theorem ky_inj {a b : Nat} (h : ky a = ky b) : a = b := by
  unfold ky at h
  injection h with h
  exact Int.ofNat_inj.mp h
theorem ky_mem {o : List Nat} {s : Nat} : ky s ∈ o.map ky ↔ s ∈ o := ⟨fun h => by
  obtain ⟨a, ha, e⟩ := List.mem_map.mp h
  rw [← ky_inj e]
  exact ha, fun h => List.mem_map.mpr ⟨s, h, rfl⟩⟩
def tr (_ : Nat) : D := .bl true
theorem known_get {o : List Nat} {s : Nat} : (lookG (o.map ky) (o.map tr) (.inl (s : Int))).isSome = decide (s ∈ o) := by
  by_cases h : s ∈ o
  · rw [decide_eq_true h]
    have := lookG_map (f := ky) (g := tr) (fun a b => ky_inj) h
    rw [show (Sum.inl (s : Int) : Key) = ky s from rfl, this]
    rfl
  · rw [decide_eq_false h, show (Sum.inl (s : Int) : Key) = ky s from rfl, lookG_not (fun z => h (ky_mem.mp z))]
    rfl
theorem known_put {o : List Nat} {s : Nat} (h : s ∉ o) : putG (o.map ky) (o.map tr) (.inl (s : Int)) (.bl true) = ((o ++ [s]).map ky, (o ++ [s]).map tr) := by
  rw [show (Sum.inl (s : Int) : Key) = ky s from rfl, putG_new (fun z => h (ky_mem.mp z)), List.map_append, List.map_append]
  rfl

abbrev s_first_met : Stmt := topS 21
theorem sc_first_met : FnScope ["rows", "order", "known", "at", "state"] ["rows"] (defScope s_first_met) := ⟨rfl, rfl, rfl, by decide +kernel, rfl, by decide +kernel, by decide +kernel⟩
def spd_first_met  : Spd := fun bs R _ => ∃ rs d, bs = [.p d] ∧ (d = .lst (rs.map rowD) ∨ d = .tup (rs.map rowD)) ∧ RowsOk rs ∧ R (.o (.lst ((met rs).map iD))) 0
theorem cal_first_met (Da : DefAt K mg "first_met" s_first_met) (m_len : mg "len" = none) : Cal P w K mg base "first_met" 1 ["rows"] spd_first_met := by
  refine cal_mk none Da sc_first_met (fun _ _ _ _ _ _ us hl => match us, hl with | [_], _ => rfl) (fun bs R E h => ?_) (fun bs R E h => ?_) fun f cdv A outer s H E W bs R ED gu hr te h fh => ?_
  · obtain ⟨rs, d, rfl, hd, ok, q⟩ := h
    rfl
  · obtain ⟨rs, d, rfl, hd, ok, q⟩ := h
    exact pur_none (by simp [B.own])
  · obtain ⟨rs, d, rfl, hd, ok, q⟩ := h
    have nd := sc_first_met.nd
    have hu := hr.units
    have ps := passes_of (X := cxOf (L2N.CX P w) P w K mg base ["rows", "order", "known", "at", "state"] "first_met" (defScope s_first_met) f cdv A outer s H E) rfl
    refine ⟨_, (dss_cons (ds_set (i := 1) nd rfl (by first | exact Or.inl rfl | exact Or.inr rfl) (de_lst (da_cons de_int da_nil))) (dss_cons (ds_set (i := 2) nd rfl (by first | exact Or.inl rfl | exact Or.inr rfl) (de_dctN (dv_cons rfl (fun _ => de_bl) dv_nil) (by decide) rfl rfl (by simp) (by simp) (by simp))) (dss_cons (ds_set (i := 3) nd rfl (by first | exact Or.inl rfl | exact Or.inr rfl) de_int) (dss_cons (ds_while ps (dt_cmp op_lt rd_intB0 (de_v 3) (de_lenN 1 m_len) rfl) (dss_cons (ds_for te ps rfl (di_any (de_ixN 0 hu (de_ixN 1 hu (de_v 3) (fun _ _ => rfl)) (fun _ _ => rfl))) (fun _ => (dg_name (i := 4) nd rfl (by first | exact Or.inl rfl | exact Or.inr rfl))) (fun _ te => (dss_one (ds_if (dt_cmpR 2 (op_notInX hu) rl_in (de_v 4)) (dss_cons (ds_putN 2 hu de_bl (de_v 4)) (dss_one (ds_append (i := 1) rfl (by first | exact Or.inl rfl | exact Or.inr (Or.inl rfl)) (de_v 4) (hpe := fun ta h => pe_bm PySem.F.plainAttrs_list PySem.F.slot_list_append PySem.F.type_list_append mt_append (pv 1) (pa_cons h pa_nil))))) dss_nil)))) (dss_one (ds_set (i := 3) nd rfl (by first | exact Or.inl rfl | exact Or.inr rfl) (de_op op_addAll rd_add (de_v 3) de_int))))) (dss_one (ds_ret (de_m 1))))))), ?_⟩
    refine dseq ?_
    simp only [zM]
    refine dseq ?_
    simp only [zM]
    refine dseq ?_
    simp only [zM]
    refine dseq ?_
    simp only [zM]
    refine while_inv (fun m δ => ∃ k x4, m = rs.length - k ∧ k ≤ rs.length ∧ k ≤ (bfs rs k).length ∧ δ = [some (.p d), some (.o (.lst ((bfs rs k).map iD))), some (.o (.dct ((bfs rs k).map ky) ((bfs rs k).map tr))), some (.p (.int (k : Nat))), x4]) (fun m δ hI N hN => ?_) ⟨0, none, rfl, Nat.zero_le _, Nat.zero_le _, rfl⟩
    obtain ⟨k, x4, rfl, hk, hkl, rfl⟩ := hI
    simp only [zM]
    have og := bfs_ok ok k
    have ogl := og.len
    have ole := ok.le
    by_cases hlt : k < (bfs rs k).length
    · rw [if_pos (show ((k : Nat) : Int) < ((bfs rs k).length : Nat) by omega)]
      have eq0 : (bfs rs k)[k]? = some ((bfs rs k).getD k 0) := by rw [List.getD_eq_getElem?_getD, List.getElem?_eq_getElem hlt]; rfl
      have hq : (bfs rs k).getD k 0 < rs.length := og.lt _ (List.mem_of_getElem? eq0)
      obtain ⟨er, r1, r2, r3⟩ := ok.at hq
      refine dseq ?_
      simp only [zM]
      refine ⟨_, atI_map eq0, rowD (rowAt rs ((bfs rs k).getD k 0)), ?_, _, rfl, ?_⟩
      · rcases hd with rfl | rfl
        · exact atI_map er
        · exact atI_map er
      refine forL_run iD (fun p δ => ∃ x4, δ = [some (.p d), some (.o (.lst ((p.foldl addN (bfs rs k)).map iD))), some (.o (.dct ((p.foldl addN (bfs rs k)).map ky) ((p.foldl addN (bfs rs k)).map tr))), some (.p (.int (k : Nat))), x4]) (l := [(rowAt rs ((bfs rs k).getD k 0)).1, (rowAt rs ((bfs rs k).getD k 0)).2.1, (rowAt rs ((bfs rs k).getD k 0)).2.2]) (pre := []) (fun p a r δ e hI M hM => ?_) (fun δ hI => ?_) ⟨x4, rfl⟩
      · obtain ⟨y4, rfl⟩ := hI
        have hmem : ∀ x ∈ p ++ a :: r, x < rs.length := fun x hx => by
          rw [← e] at hx
          simp only [List.nil_append, List.mem_cons, List.not_mem_nil, or_false] at hx
          rcases hx with rfl | rfl | rfl
          · exact r1
          · exact r2
          · exact r3
        have fold_ok : ∀ (p : List Nat) (o : List Nat), (∀ x ∈ p, x < rs.length) → OrdOk rs.length o → OrdOk rs.length (p.foldl addN o) := fun p => by
          induction p with
          | nil => intro o _ h; exact h
          | cons b p ih => intro o hp h; exact ih _ (fun x hx => hp x (List.mem_cons_of_mem _ hx)) (h.add (hp b List.mem_cons_self))
        have po := fold_ok p (bfs rs k) (fun x hx => hmem x (List.mem_append_left _ hx)) og
        have pol := po.len
        have hM2 : ∀ o x4, o = addN (p.foldl addN (bfs rs k)) a → M [some (.p d), some (.o (.lst (o.map iD))), some (.o (.dct (o.map ky) (o.map tr))), some (.p (.int (k : Nat))), x4] := fun o x4 e => hM _ ⟨x4, by rw [List.foldl_append, e]; rfl⟩
        simp only [zM, iD]
        rw [known_get]
        by_cases hm : a ∈ p.foldl addN (bfs rs k)
        · rw [decide_eq_true hm]
          exact iteF (hM2 _ _ (addN_in hm).symm)
        · rw [decide_eq_false hm]
          refine iteT (dseq ?_)
          simp only [zM]
          refine ⟨_, if_pos (by omega), by omega, ?_⟩
          rw [known_put hm]
          have z := hM2 _ (some (.p (.int (a : Nat)))) (addN_out hm).symm
          rw [List.map_append (f := iD)] at z
          exact z
      · obtain ⟨y4, rfl⟩ := hI
        simp only [zM]
        have ev : bfs rs (k + 1) = visit rs (bfs rs k) ((bfs rs k).getD k 0) := by
          show (if k < (bfs rs k).length then _ else _) = _
          rw [if_pos hlt]
        have ok1 := (bfs_ok ok (k + 1)).len
        have l1 : (bfs rs k).length ≤ (bfs rs (k + 1)).length := by
          rw [ev]
          exact visit_len
        exact hN (rs.length - (k + 1)) _ (by omega) ⟨k + 1, y4, rfl, by omega, by omega, by rw [ev]; rfl⟩
    · rw [if_neg (show ¬ ((k : Nat) : Int) < ((bfs rs k).length : Nat) by omega)]
      have ee : met rs = bfs rs k := bfs_end (by omega) hk
      rw [ee] at q
      exact ⟨0, q⟩
end
section
variable {P : Program} {w : World} {K : PySem.W.Frag} {mg : Str → Option Value} {base : Heap}

def bD (b : Bool) : D := .bl b
theorem ky_nodup {o : List Nat} (h : o.Nodup) : (o.map ky).Nodup := by
  rw [List.nodup_iff_pairwise_ne] at h ⊢
  rw [List.pairwise_map]
  exact h.imp fun n e => n (ky_inj e)
theorem plc_get {o : List Nat} {s : Nat} (hn : o.Nodup) (h : s ∈ o) : lookG (o.map ky) ((List.range' 0 o.length).map iD) (.inl (s : Int)) = some (iD (plc o s)) := by
  refine lookG_at (ky_nodup hn) (i := plc o s) ?_ ?_
  · rw [List.getElem?_map, plc_at h]
    rfl
  · rw [List.getElem?_map, List.getElem?_range' (plc_lt h)]
    simp

abbrev s_renumbered : Stmt := topS 22
theorem sc_renumbered : FnScope ["rows", "accepting", "order", "place", "at", "state", "steps"] ["rows", "accepting"] (defScope s_renumbered) := ⟨rfl, rfl, rfl, by decide +kernel, rfl, by decide +kernel, by decide +kernel⟩
def spd_renumbered  : Spd := fun bs R _ => ∃ rs d fl df, bs = [.p d, .p df] ∧ (d = .lst (rs.map rowD) ∨ d = .tup (rs.map rowD)) ∧ (df = .lst (fl.map bD) ∨ df = .tup (fl.map bD)) ∧ RowsOk rs ∧ fl.length = rs.length ∧ R (.p (.tup [.lst ((renR rs).map rowD), .lst ((renF rs fl).map bD)])) 0
theorem cal_renumbered (Da : DefAt K mg "renumbered" s_renumbered) (c_first_met : Cal P w K mg base "first_met" 1 ["rows"] spd_first_met) (m_enumerate : mg "enumerate" = none) : Cal P w K mg base "renumbered" 2 ["rows", "accepting"] spd_renumbered := by
  refine cal_mk none Da sc_renumbered (fun _ _ _ _ _ _ us hl => match us, hl with | [_, _], _ => rfl) (fun bs R E h => ?_) (fun bs R E h => ?_) fun f cdv A outer s H E W bs R ED gu hr te h fh => ?_
  · obtain ⟨rs, d, fl, df, rfl, hd, hdf, ok, hl, q⟩ := h
    rfl
  · obtain ⟨rs, d, fl, df, rfl, hd, hdf, ok, hl, q⟩ := h
    exact pur_none (by simp [B.own])
  · obtain ⟨rs, d, fl, df, rfl, hd, hdf, ok, hl, q⟩ := h
    have nd := sc_renumbered.nd
    have hu := hr.units
    refine ⟨_, (dss_cons (ds_set (i := 2) nd rfl (by first | exact Or.inl rfl | exact Or.inr rfl) (de_c c_first_met gu hr (da_cons (de_v 0) da_nil))) (dss_cons (ds_set (i := 3) nd rfl (by first | exact Or.inl rfl | exact Or.inr rfl) (de_dc rfl nd (di_enum rfl m_enumerate (da_cons (de_v 2) da_nil)) (own := [("at", 4), ("state", 5)]) (blkOk_by (by kernel_rfl)) (fun _ _ _ _ _ _ => (dgc_tup (n := 2) rfl (dgcs_cons (dgc_name (i := 4) (by decide) nd rfl (by first | exact Or.inl rfl | exact Or.inr rfl)) (dgcs_cons (dgc_name (i := 5) (by decide) nd rfl (by first | exact Or.inl rfl | exact Or.inr rfl)) dgcs_nil)))) (fun _ _ _ _ _ _ => dts_nil) (fun _ _ _ _ _ _ => (de_v 5)) (fun _ _ _ _ _ _ => (de_v 4)))) (dss_cons (ds_setLc (i := 6) rfl nd rfl rfl rfl (di_any (de_v 2)) (own := [("state", 5)]) (blkOk_by (by kernel_rfl)) (fun _ _ _ _ _ _ => (dgc_name (i := 5) (by decide) nd rfl (by first | exact Or.inl rfl | exact Or.inr rfl))) (fun _ _ _ _ _ _ => dts_nil) (fun _ _ _ _ _ _ => (de_tup (da_cons (de_ixN 3 hu (de_ix2 hu (de_ixN 0 hu (de_v 5) (fun _ _ => rfl)) de_int fun _ _ => rfl) (fun _ _ => rfl)) (da_cons (de_ixN 3 hu (de_ix2 hu (de_ixN 0 hu (de_v 5) (fun _ _ => rfl)) de_int fun _ _ => rfl) (fun _ _ => rfl)) (da_cons (de_ixN 3 hu (de_ix2 hu (de_ixN 0 hu (de_v 5) (fun _ _ => rfl)) de_int fun _ _ => rfl) (fun _ _ => rfl)) da_nil)))))) (dss_one (ds_ret (de_tup (da_cons (de_v 6) (da_cons (de_lc rfl nd (di_any (de_v 2)) (own := [("state", 5)]) (blkOk_by (by kernel_rfl)) (fun _ _ _ _ _ _ => (dgc_name (i := 5) (by decide) nd rfl (by first | exact Or.inl rfl | exact Or.inr rfl))) (fun _ _ _ _ _ _ => dts_nil) (fun _ _ _ _ _ _ => (de_ixN 1 hu (de_v 5) (fun _ _ => rfl)))) da_nil)))))))), ?_⟩
    refine dseq ?_
    simp only [zM]
    refine ⟨rs, d, rfl, hd, ok, rfl, dseq ?_⟩
    simp only [zM]
    have hn := met_ok ok
    have hnl := hn.len
    have hle := ok.le
    refine .inr ?_
    rw [enumD_map]
    refine dcL_mapA _ (fun p => iD p.1) (fun p => iD p.2) (fun p => ky p.1) (fun p => [some (.p d), some (.p df), some (.p (.lst ((met rs).map iD))), none, some (.p (iD p.2)), some (.p (iD p.1)), none]) (fun p hp Y N y => ?_) (fun p hp => ⟨rfl, rfl⟩) (by rw [List.length_zipIdx, sizeLine_eq, List.length_nil]; omega) (fun _ _ h => by cases h) (by rw [zipIdx_fst ky]; exact ky_nodup hn.nd) ?_
    · simp only [zM, dYes]
      exact y
    · rw [zipIdx_fst ky, zipIdx_snd iD]
      have pl : ∀ s, s ∈ met rs → lookG ((met rs).map ky) ((List.range' 0 (met rs).length).map iD) (.inl (s : Int)) = some (iD (plc (met rs) s)) := fun s hs => plc_get hn.nd hs
      refine dseq ?_
      simp only [zM]
      have hlD : ((met rs).map iD).length ≤ 4094 := by rw [List.length_map]; omega
      have rowAt' : ∀ q, q < rs.length → itemX d (.int (q : Nat)) = some (rowD (rowAt rs q)) := fun q hq => by
        rcases hd with rfl | rfl <;> exact atI_map (ok.at hq).1
      have flAt : ∀ q, q < rs.length → itemX df (.int (q : Nat)) = some (bD (fl.getD q false)) := fun q hq => by
        have e : fl[q]? = some (fl.getD q false) := by rw [List.getD_eq_getElem?_getD, List.getElem?_eq_getElem (by omega)]; rfl
        rcases hdf with rfl | rfl <;> exact atI_map e
      have cl := met_closed ok
      refine lcL_allA iD (fun q => rowD (renRow rs (met rs) q))
        (fun q => [some (.p d), some (.p df), some (.p (.lst ((met rs).map iD))), some (.o (.dct ((met rs).map ky) ((List.range' 0 (met rs).length).map iD))), none, some (.p (iD q)), none]) (fun q hq Y N y => ?_) (fun q hq => rfl) (by rw [List.length_nil, sizeLine_eq]; omega) ?_
      · have hq' := hn.lt q hq
        obtain ⟨c1, c2, c3⟩ := cl q hq
        simp only [zM, dYes, iD]
        refine ⟨_, rowAt' q hq', _, rfl, _, pl _ c1, _, rowAt' q hq', _, rfl, _, pl _ c2, _, rowAt' q hq', _, rfl, _, pl _ c3, ?_⟩
        exact y
      · simp only [zM]
        refine lcL_allA iD (fun q => bD (fl.getD q false)) (fun q => [some (.p d), some (.p df), some (.p (.lst ((met rs).map iD))), some (.o (.dct ((met rs).map ky) ((List.range' 0 (met rs).length).map iD))), none, some (.p (iD q)), some (.p (.lst ((met rs).map fun q => rowD (renRow rs (met rs) q))))]) (fun q hq Y N y => ?_) (fun q hq => rfl) (by rw [List.length_nil, sizeLine_eq]; omega) ?_
        · have hq' := hn.lt q hq
          simp only [zM, dYes, iD]
          exact ⟨_, flAt q hq', y⟩
        · have e1 : (met rs).map (fun q => rowD (renRow rs (met rs) q)) = (renR rs).map rowD := by
            unfold renR
            rw [List.map_map]
            rfl
          have e2 : (met rs).map (fun q => bD (fl.getD q false)) = (renF rs fl).map bD := by
            unfold renF
            rw [List.map_map]
            rfl
          rw [e1, e2, List.nil_append]
          exact ⟨0, q⟩
end
section
variable {P : Program} {w : World} {K : PySem.W.Frag} {mg : Str → Option Value} {base : Heap}

def k4D (k : KeyN) : D := .tup [.int (k.1 : Nat), .int (k.2.1 : Nat), .int (k.2.2.1 : Nat), .int (k.2.2.2 : Nat)]
def kT (k : KeyN) : List Key := [.inl (k.1 : Nat), .inl (k.2.1 : Nat), .inl (k.2.2.1 : Nat), .inl (k.2.2.2 : Nat)]
theorem kT_inj (a b : KeyN) (h : kT a = kT b) : a = b := by
  unfold kT at h
  simp only [List.cons.injEq, Sum.inl.injEq, and_true] at h
  obtain ⟨h1, h2, h3, h4⟩ := h
  exact Prod.ext (Int.ofNat_inj.mp h1) (Prod.ext (Int.ofNat_inj.mp h2) (Prod.ext (Int.ofNat_inj.mp h3) (Int.ofNat_inj.mp h4)))
theorem kT_mem {o : List KeyN} {s : KeyN} : kT s ∈ o.map kT ↔ s ∈ o := ⟨fun h => by
  obtain ⟨a, ha, e⟩ := List.mem_map.mp h
  rw [← kT_inj _ _ e]
  exact ha, fun h => List.mem_map.mpr ⟨s, h, rfl⟩⟩
theorem kT_nodup {o : List KeyN} (h : o.Nodup) : (o.map kT).Nodup := by
  rw [List.nodup_iff_pairwise_ne] at h ⊢
  rw [List.pairwise_map]
  exact h.imp fun n e => n (kT_inj _ _ e)
theorem num_has {o : List KeyN} {s : KeyN} : (lookG (o.map kT) ((List.range o.length).map iD) (kT s)).isSome = decide (s ∈ o) := by
  by_cases h : s ∈ o
  · rw [decide_eq_true h]
    cases q : lookG (o.map kT) ((List.range o.length).map iD) (kT s) with
    | some _ => rfl
    | none =>
      rw [lookG_none (by simp)] at q
      exact absurd (kT_mem.mpr h) q
  · rw [decide_eq_false h, lookG_not (fun z => h (kT_mem.mp z))]
    rfl
theorem num_get {o : List KeyN} {s : KeyN} (hn : o.Nodup) (h : s ∈ o) : lookG (o.map kT) ((List.range o.length).map iD) (kT s) = some (iD (idxK o s)) := by
  have hl := idxK_lt h
  refine lookG_at (kT_nodup hn) (i := idxK o s) ?_ ?_
  · rw [List.getElem?_map, idxK_at h]
    rfl
  · rw [List.getElem?_map, List.getElem?_range hl]
    rfl
theorem num_put {o : List KeyN} {s : KeyN} (h : s ∉ o) : putG (o.map kT) ((List.range o.length).map iD) (kT s) (iD o.length) = ((o ++ [s]).map kT, (List.range (o ++ [s]).length).map iD) := by
  rw [putG_new (fun z => h (kT_mem.mp z)), List.length_append, List.length_singleton, List.range_succ, List.map_append, List.map_append]
  rfl
theorem dedup_spec (ns : List Int) : (dedup ns).Nodup ∧ ∀ x, x ∈ dedup ns ↔ x ∈ ns := by
  have aux : ∀ i, i ≤ ns.length → (firstMet (fun i => ns.getD i 0) i).Nodup ∧ ∀ x, x ∈ firstMet (fun i => ns.getD i 0) i ↔ x ∈ ns.take i := fun i => by
    induction i with
    | zero => intro _; exact ⟨List.nodup_nil, fun x => by simp [firstMet]⟩
    | succ i ih =>
      intro hi
      obtain ⟨h1, h2⟩ := ih (by omega)
      have e : ns.getD i 0 = ns[i] := by
        rw [List.getD_eq_getElem?_getD, List.getElem?_eq_getElem (by omega)]
        rfl
      have tk : ns.take (i + 1) = ns.take i ++ [ns[i]] := by
        rw [List.take_add_one, List.getElem?_eq_getElem (by omega)]
        rfl
      rw [firstMet_succ, tk]
      unfold step_dedup
      rw [e]
      by_cases hm : (firstMet (fun i => ns.getD i 0) i).any (· == ns[i]) = true
      · rw [if_pos hm]
        refine ⟨h1, fun x => ?_⟩
        rw [h2, List.mem_append, List.mem_singleton]
        obtain ⟨y, hy, ey⟩ := List.any_eq_true.mp hm
        rw [beq_iff_eq] at ey
        exact ⟨.inl, fun z => z.elim id fun z => by rw [z, ← ey]; exact (h2 y).mp hy⟩
      · rw [if_neg hm]
        refine ⟨?_, fun x => by rw [List.mem_append, List.mem_append, h2]⟩
        rw [List.nodup_append]
        exact ⟨h1, by simp, fun a ha b hb => by
          rw [List.mem_singleton.mp hb]
          exact fun z => hm (List.any_eq_true.mpr ⟨a, ha, by rw [z]; simp⟩)⟩
  obtain ⟨h1, h2⟩ := aux ns.length (Nat.le_refl _)
  rw [List.take_length] at h2
  exact ⟨h1, h2⟩
theorem dedup_many {ns : List Nat} : (dedup (ns.map fun n : Nat => (n : Int))).length = manyN ns := by
  obtain ⟨h1, h2⟩ := dedup_spec (ns.map fun n : Nat => (n : Int))
  have hi : ∀ {l : List Nat}, l.Nodup → (l.map fun n : Nat => (n : Int)).Nodup := fun {l} h => by
    rw [List.nodup_iff_pairwise_ne] at h ⊢
    rw [List.pairwise_map]
    exact h.imp fun n e => n (Int.ofNat_inj.mp e)
  unfold manyN
  rw [len_eq h1 (hi (nubs_nodup (l := ns))) fun x => ?_, List.length_map]
  rw [h2, List.mem_map, List.mem_map]
  constructor
  · rintro ⟨a, ha, rfl⟩
    exact ⟨a, mem_nubs.mpr ha, rfl⟩
  · rintro ⟨a, ha, rfl⟩
    exact ⟨a, mem_nubs.mp ha, rfl⟩

abbrev s_grouped : Stmt := topS 23
theorem sc_grouped : FnScope ["rows", "accepting", "found", "one", "many", "keys", "state", "row", "numbers", "key"] ["rows", "accepting"] (defScope s_grouped) := ⟨rfl, rfl, rfl, by decide +kernel, rfl, by decide +kernel, by decide +kernel⟩
def spd_grouped  : Spd := fun bs R _ => ∃ rs fl, bs = [.p (.lst (rs.map rowD)), .p (.lst (fl.map bD))] ∧ RowsOk rs ∧ fl.length = rs.length ∧ ∀ c, Stab rs fl c → R (.o (.lst (c.map iD))) 0
theorem cal_grouped (Da : DefAt K mg "grouped" s_grouped) (m_len : mg "len" = none) (m_set : mg "set" = none) (m_int : mg "int" = none) (m_enumerate : mg "enumerate" = none) : Cal P w K mg base "grouped" 1 ["rows", "accepting"] spd_grouped := by
  refine cal_mk none Da sc_grouped (fun _ _ _ _ _ _ us hl => match us, hl with | [_, _], _ => rfl) (fun bs R E h => ?_) (fun bs R E h => ?_) fun f cdv A outer s H E W bs R ED gu hr te h fh => ?_
  · obtain ⟨rs, fl, rfl, ok, hl, q⟩ := h
    rfl
  · obtain ⟨rs, fl, rfl, ok, hl, q⟩ := h
    exact pur_none (by simp [B.own])
  · obtain ⟨rs, fl, rfl, ok, hl, q⟩ := h
    have nd := sc_grouped.nd
    have hu := hr.units
    have ps := passes_of (X := cxOf (L2N.CX P w) P w K mg base ["rows", "accepting", "found", "one", "many", "keys", "state", "row", "numbers", "key"] "grouped" (defScope s_grouped) f cdv A outer s H E) rfl
    refine ⟨_, (dss_cons (ds_set (i := 2) nd rfl (by first | exact Or.inl rfl | exact Or.inr rfl) (de_lc rfl nd (di_any (de_v 1)) (own := [("one", 3)]) (blkOk_by (by kernel_rfl)) (fun _ _ _ _ _ _ => (dgc_name (i := 3) (by decide) nd rfl (by first | exact Or.inl rfl | exact Or.inr rfl))) (fun _ _ _ _ _ _ => dts_nil) (fun _ _ _ _ _ _ => (de_callTy call_int1 rc_int rfl m_int bt_int (da_cons (de_v 3) da_nil))))) (dss_cons (ds_set (i := 4) nd rfl (by first | exact Or.inl rfl | exact Or.inr rfl) (de_lend [2] (fun W => (de_lenSetA rfl m_len m_set (de_v 2))))) (dss_one (ds_while ps (dt_val (he := fun _ => rfl) de_bl) (dss_cons (ds_setLc (i := 5) rfl nd rfl rfl rfl (di_enum rfl m_enumerate (da_cons (de_v 0) da_nil)) (own := [("state", 6), ("row", 7)]) (blkOk_by (by kernel_rfl)) (fun _ _ _ _ _ _ => (dgc_tup (n := 2) rfl (dgcs_cons (dgc_name (i := 6) (by decide) nd rfl (by first | exact Or.inl rfl | exact Or.inr rfl)) (dgcs_cons (dgc_name (i := 7) (by decide) nd rfl (by first | exact Or.inl rfl | exact Or.inr rfl)) dgcs_nil)))) (fun _ _ _ _ _ _ => dts_nil) (fun _ _ _ _ _ _ => (de_tup (da_cons (de_ixN 2 hu (de_v 6) (fun _ _ => rfl)) (da_cons (de_ixN 2 hu (de_ixN 7 hu de_int (fun _ _ => rfl)) (fun _ _ => rfl)) (da_cons (de_ixN 2 hu (de_ixN 7 hu de_int (fun _ _ => rfl)) (fun _ _ => rfl)) (da_cons (de_ixN 2 hu (de_ixN 7 hu de_int (fun _ _ => rfl)) (fun _ _ => rfl)) da_nil))))))) (dss_cons (ds_set (i := 8) nd rfl (by first | exact Or.inl rfl | exact Or.inr rfl) de_dctT0) (dss_cons (ds_for te ps rfl (di_any (de_v 5)) (fun _ => (dg_name (i := 9) nd rfl (by first | exact Or.inl rfl | exact Or.inr rfl))) (fun _ te => (dss_one (ds_if (dt_cmpR 8 (op_notInX hu) rl_in (de_v 9)) (dss_one (ds_putN 8 hu (de_lenN 8 m_len) (de_v 9))) dss_nil)))) (dss_cons (ds_if (dt_cmpR 4 (op_eqAll hu) rl_eq (de_lenN 8 m_len)) (dss_one (ds_ret (de_m 2))) dss_nil) (dss_cons (ds_set (i := 4) nd rfl (by first | exact Or.inl rfl | exact Or.inr rfl) (de_lenN 8 m_len)) (dss_one (ds_set (i := 2) nd rfl (by first | exact Or.inl rfl | exact Or.inr rfl) (de_lc rfl nd (di_any (de_v 5)) (own := [("key", 9)]) (blkOk_by (by kernel_rfl)) (fun _ _ _ _ _ _ => (dgc_name (i := 9) (by decide) nd rfl (by first | exact Or.inl rfl | exact Or.inr rfl))) (fun _ _ _ _ _ _ => dts_nil) (fun _ _ _ _ _ _ => (de_ixN 8 hu (de_v 9) (fun _ _ => rfl))))))))))))))), ?_⟩
    have ole := ok.le
    have opos := ok.pos
    refine dseq ?_
    simp only [zM]
    refine lcL_allA bD (fun b => iD (if b = true then 1 else 0)) (fun b => [some (.p (.lst (rs.map rowD))), some (.p (.lst (fl.map bD))), none, some (.p (bD b)), none, none, none, none, none, none]) (fun b hb Y N y => ?_) (fun b hb => rfl) (by rw [List.length_nil, sizeLine_eq]; omega) ?_
    · simp only [zM, dYes, bD]
      cases b <;> exact y
    · have e0 : ([] : List D) ++ fl.map (fun b => iD (if b = true then 1 else 0)) = (c01 fl).map iD := by
        unfold c01
        rw [List.map_map]
        rfl
      rw [e0]
      refine dseq ?_
      simp only [zM]
      have ei : ∀ c : List Nat, c.map iD = (c.map fun n : Nat => (n : Int)).map D.int := fun c => by
        rw [List.map_map]
        rfl
      refine ⟨(c01 fl).map fun n : Nat => (n : Int), ei _, by unfold c01; rw [List.length_map, List.length_map]; omega, ?_⟩
      rw [dedup_many]
      refine ⟨rfl, ?_⟩
      refine while_inv (fun m δ => ∃ c x5 x6 x7 x8 x9, m = rs.length - manyN c ∧ Part rs fl c ∧ δ = [some (.p (.lst (rs.map rowD))), some (.p (.lst (fl.map bD))), some (.o (.lst (c.map iD))), none, some (.p (.int (manyN c : Nat))), x5, x6, x7, x8, x9]) (fun m δ hI N hN => ?_) ⟨c01 fl, _, _, _, _, _, rfl, part_c01 hl, rfl⟩
      obtain ⟨c, x5, x6, x7, x8, x9, rfl, hp, rfl⟩ := hI
      have cl := hp.len
      have cget : ∀ q, q < rs.length → atI (c.map iD) (q : Int) = some (iD (cAt c q)) := fun q hq => by
        refine atI_map ?_
        unfold cAt
        rw [List.getD_eq_getElem?_getD, List.getElem?_eq_getElem (by omega)]
        rfl
      simp only [zM]
      refine dseq ?_
      simp only [zM]
      refine .inr ?_
      rw [enumD_map]
      have zat : ∀ p ∈ rs.zipIdx 0, p.2 < rs.length ∧ p.1 = rowAt rs p.2 := fun p hp => by
        obtain ⟨h1, h2, h3⟩ := List.mem_zipIdx hp
        refine ⟨by omega, ?_⟩
        unfold rowAt
        rw [List.getD_eq_getElem?_getD, List.getElem?_eq_getElem (by omega), h3]
        simp
      refine lcL_allA _ (fun p => k4D (keyN rs c p.2)) (fun p => [some (.p (.lst (rs.map rowD))), some (.p (.lst (fl.map bD))), some (.o (.lst (c.map iD))), none, some (.p (.int (manyN c : Nat))), x5, some (.p (.int (p.2 : Nat))), some (.p (rowD p.1)), x8, x9]) (fun p hp2 Y N y => ?_) (fun p hp2 => rfl) (by rw [List.length_nil, List.length_zipIdx, sizeLine_eq]; omega) ?_
      · obtain ⟨p1, p2⟩ := zat p hp2
        obtain ⟨_, r1, r2, r3⟩ := ok.at p1
        simp only [zM, dYes]
        rw [p2]
        refine ⟨_, cget _ p1, _, rfl, _, cget _ r1, _, rfl, _, cget _ r2, _, rfl, _, cget _ r3, ?_⟩
        rw [p2] at y
        exact y
      · have ek : ([] : List D) ++ (rs.zipIdx 0).map (fun p => k4D (keyN rs c p.2)) = (keysN rs c).map k4D := by
          rw [zipIdx_snd (fun i => k4D (keyN rs c i))]
          unfold keysN
          rw [List.map_map, List.range_eq_range']
          rfl
        rw [ek]
        have kl := keysN_len (rs := rs) (c := c)
        have nle := nubs_le (l := keysN rs c)
        refine dseq ?_
        simp only [zM]
        refine dseq ?_
        simp only [zM]
        refine forL_run k4D (fun p δ => ∃ x9, δ = [some (.p (.lst (rs.map rowD))), some (.p (.lst (fl.map bD))), some (.o (.lst (c.map iD))), none, some (.p (.int (manyN c : Nat))), some (.p (.lst ((keysN rs c).map k4D))), none, none, some (.o (.dcT ((nubs p).map kT) ((List.range (nubs p).length).map iD))), x9]) (l := keysN rs c) (pre := []) (fun p a r δ e hI M hM => ?_) (fun δ hI => ?_) ⟨x9, rfl⟩
        · obtain ⟨y9, rfl⟩ := hI
          have nl : (nubs p).length ≤ 4094 := by
            have h1 := nubs_le (l := p)
            have h2 := congrArg List.length e
            rw [List.nil_append, List.length_append, List.length_cons] at h2
            omega
          have hM2 : ∀ x9, M [some (.p (.lst (rs.map rowD))), some (.p (.lst (fl.map bD))), some (.o (.lst (c.map iD))), none, some (.p (.int (manyN c : Nat))), some (.p (.lst ((keysN rs c).map k4D))), none, none, some (.o (.dcT ((addK (nubs p) a).map kT) ((List.range (addK (nubs p) a).length).map iD))), x9] := fun x9 => hM _ ⟨x9, by rw [nubs_snoc]⟩
          have kk : keyT (k4D a) = some (kT a) := rfl
          simp only [zM, k4D]
          have nh := num_has (o := nubs p) (s := a)
          have np : a ∉ nubs p → _ := num_put (o := nubs p) (s := a)
          unfold kT at nh np
          unfold kT
          rw [nh]
          by_cases hm : a ∈ nubs p
          · rw [decide_eq_true hm]
            have z := hM2 (some (.p (k4D a)))
            rw [addK_in hm] at z
            exact iteF z
          · rw [decide_eq_false hm]
            refine iteT ⟨_, if_pos (by omega), ?_⟩
            rw [show (D.int ((nubs p).length : Nat)) = iD (nubs p).length from rfl, np hm]
            have z := hM2 (some (.p (k4D a)))
            rw [addK_out hm] at z
            exact z
        · obtain ⟨y9, rfl⟩ := hI
          rw [List.nil_append]
          have cnt := many_refine (rs := rs) (c := c)
          have mle := many_le (rs := rs) hp.len
          simp only [zM]
          refine dseq ?_
          simp only [zM, eqD_int]
          by_cases he : (nubs (keysN rs c)).length = manyN c
          · rw [if_pos (show (((nubs (keysN rs c)).length : Nat) : Int) = (manyN c : Nat) by omega)]
            exact ⟨0, q c (hp.stab he)⟩
          · rw [if_neg (show ¬ (((nubs (keysN rs c)).length : Nat) : Int) = (manyN c : Nat) by omega)]
            refine dseq ?_
            simp only [zM]
            refine lcL_allA k4D (fun k => iD (idxK (nubs (keysN rs c)) k)) (fun k => [some (.p (.lst (rs.map rowD))), some (.p (.lst (fl.map bD))), some (.o (.lst (c.map iD))), none, some (.p (.int ((nubs (keysN rs c)).length : Nat))), some (.p (.lst ((keysN rs c).map k4D))), none, none, some (.o (.dcT ((nubs (keysN rs c)).map kT) ((List.range (nubs (keysN rs c)).length).map iD))), some (.p (k4D k))]) (fun k hk Y M y => ?_) (fun k hk => rfl) (by rw [List.length_nil, sizeLine_eq]; omega) ?_
            · have ng := num_get (o := nubs (keysN rs c)) (s := k) nubs_nodup (mem_nubs.mpr hk)
              unfold kT at ng
              simp only [zM, dYes, k4D, kT]
              exact ⟨_, ng, y⟩
            · have er : ([] : List D) ++ (keysN rs c).map (fun k => iD (idxK (nubs (keysN rs c)) k)) = (refine1 rs c).map iD := by
                unfold refine1
                rw [List.map_map]
                rfl
              rw [er]
              refine hN (rs.length - manyN (refine1 rs c)) _ (by omega) ⟨refine1 rs c, some (.p (.lst ((keysN rs c).map k4D))), none, none, some (.o (.dcT ((nubs (keysN rs c)).map kT) ((List.range (nubs (keysN rs c)).length).map iD))), none, rfl, hp.refine ok, by rw [cnt]; rfl⟩
end
section
variable {P : Program} {w : World} {K : PySem.W.Frag} {mg : Str → Option Value} {base : Heap}

theorem heads_get {o c : List Nat} {x : Nat} (h : x ∈ o) : lookG (o.map ky) (o.map fun x => iD (headN c x)) (.inl (x : Int)) = some (iD (headN c x)) := lookG_map (f := ky) (g := fun x => iD (headN c x)) (fun a b => ky_inj) h
theorem heads_has {o c : List Nat} {x : Nat} : (lookG (o.map ky) (o.map fun x => iD (headN c x)) (.inl (x : Int))).isSome = decide (x ∈ o) := by
  by_cases h : x ∈ o
  · rw [heads_get h, decide_eq_true h]
    rfl
  · rw [decide_eq_false h, show (Sum.inl (x : Int) : Key) = ky x from rfl, lookG_not (fun z => h (ky_mem.mp z))]
    rfl
theorem heads_put {o c : List Nat} {x : Nat} (h : x ∉ o) : putG (o.map ky) (o.map fun x => iD (headN c x)) (.inl (x : Int)) (iD (headN c x)) = ((o ++ [x]).map ky, (o ++ [x]).map fun x => iD (headN c x)) := by
  rw [show (Sum.inl (x : Int) : Key) = ky x from rfl, putG_new (fun z => h (ky_mem.mp z)), List.map_append, List.map_append]
  rfl
theorem head_new {p r : List Nat} {a : Nat} (h : a ∉ p) : headN (p ++ a :: r) a = p.length := by
  unfold headN
  induction p with
  | nil => simp
  | cons b p ih =>
    rw [List.mem_cons, not_or] at h
    rw [List.cons_append, List.idxOf_cons, ih h.2]
    have : (b == a) = false := beq_eq_false_iff_ne.mpr fun z => h.1 z.symm
    rw [this]
    rfl

abbrev s_least_machine : Stmt := topS 24
theorem sc_least_machine : FnScope ["rows", "accepting", "steps", "flags", "numbers", "heads", "state", "number", "joined", "row"] ["rows", "accepting"] (defScope s_least_machine) := ⟨rfl, rfl, rfl, by decide +kernel, rfl, by decide +kernel, by decide +kernel⟩
def spd_least_machine  : Spd := fun bs R _ => ∃ rs d fl df, bs = [.p d, .p df] ∧ (d = .lst (rs.map rowD) ∨ d = .tup (rs.map rowD)) ∧ (df = .lst (fl.map bD) ∨ df = .tup (fl.map bD)) ∧ RowsOk rs ∧ fl.length = rs.length ∧ R (.p (.tup [.lst ((lstR rs fl).map rowD), .lst ((lstF rs fl).map bD)])) 0
theorem cal_least_machine (Da : DefAt K mg "least_machine" s_least_machine) (c_renumbered : Cal P w K mg base "renumbered" 2 ["rows", "accepting"] spd_renumbered) (c_grouped : Cal P w K mg base "grouped" 1 ["rows", "accepting"] spd_grouped) (m_enumerate : mg "enumerate" = none) : Cal P w K mg base "least_machine" 3 ["rows", "accepting"] spd_least_machine := by
  refine cal_mk none Da sc_least_machine (fun _ _ _ _ _ _ us hl => match us, hl with | [_, _], _ => rfl) (fun bs R E h => ?_) (fun bs R E h => ?_) fun f cdv A outer s H E W bs R ED gu hr te h fh => ?_
  · obtain ⟨rs, d, fl, df, rfl, hd, hdf, ok, hl, q⟩ := h
    rfl
  · obtain ⟨rs, d, fl, df, rfl, hd, hdf, ok, hl, q⟩ := h
    exact pur_none (by simp [B.own])
  · obtain ⟨rs, d, fl, df, rfl, hd, hdf, ok, hl, q⟩ := h
    have nd := sc_least_machine.nd
    have hu := hr.units
    have ps := passes_of (X := cxOf (L2N.CX P w) P w K mg base ["rows", "accepting", "steps", "flags", "numbers", "heads", "state", "number", "joined", "row"] "least_machine" (defScope s_least_machine) f cdv A outer s H E) rfl
    refine ⟨_, (dss_cons (ds_asg (de_c c_renumbered gu hr (da_cons (de_v 0) (da_cons (de_v 1) da_nil))) (dg_tup (n := 2) rfl (dgs_cons (dg_name (i := 2) nd rfl (by first | exact Or.inl rfl | exact Or.inr rfl)) (dgs_cons (dg_name (i := 3) nd rfl (by first | exact Or.inl rfl | exact Or.inr rfl)) dgs_nil)))) (dss_cons (ds_set (i := 4) nd rfl (by first | exact Or.inl rfl | exact Or.inr rfl) (de_c c_grouped gu hr (da_cons (de_v 2) (da_cons (de_v 3) da_nil)))) (dss_cons (ds_set (i := 5) nd rfl (by first | exact Or.inl rfl | exact Or.inr rfl) de_dct0) (dss_cons (ds_for te ps rfl (di_enum rfl m_enumerate (da_cons (de_v 4) da_nil)) (fun _ => (dg_tup (n := 2) rfl (dgs_cons (dg_name (i := 6) nd rfl (by first | exact Or.inl rfl | exact Or.inr rfl)) (dgs_cons (dg_name (i := 7) nd rfl (by first | exact Or.inl rfl | exact Or.inr rfl)) dgs_nil)))) (fun _ te => (dss_one (ds_if (dt_cmpR 5 (op_notInX hu) rl_in (de_v 7)) (dss_one (ds_putN 5 hu (de_v 6) (de_v 7))) dss_nil)))) (dss_cons (ds_setLc (i := 8) rfl nd rfl rfl rfl (di_any (de_v 2)) (own := [("row", 9)]) (blkOk_by (by kernel_rfl)) (fun _ _ _ _ _ _ => (dgc_name (i := 9) (by decide) nd rfl (by first | exact Or.inl rfl | exact Or.inr rfl))) (fun _ _ _ _ _ _ => dts_nil) (fun _ _ _ _ _ _ => (de_tup (da_cons (de_ixN 5 hu (de_ixN 4 hu (de_ixN 9 hu de_int (fun _ _ => rfl)) (fun _ _ => rfl)) (fun _ _ => rfl)) (da_cons (de_ixN 5 hu (de_ixN 4 hu (de_ixN 9 hu de_int (fun _ _ => rfl)) (fun _ _ => rfl)) (fun _ _ => rfl)) (da_cons (de_ixN 5 hu (de_ixN 4 hu (de_ixN 9 hu de_int (fun _ _ => rfl)) (fun _ _ => rfl)) (fun _ _ => rfl)) da_nil)))))) (dss_one (ds_ret (de_c c_renumbered gu hr (da_cons (de_v 8) (da_cons (de_v 3) da_nil)))))))))), ?_⟩
    refine dseq ?_
    simp only [zM]
    refine ⟨rs, d, fl, df, rfl, hd, hdf, ok, hl, rfl, rfl, _, rfl, rfl, _, _, rfl, _, _, rfl, rfl, dseq ?_⟩
    have ok2 := renR_ok ok
    have st := ren_stab (fl := fl) ok
    have le2 := ok2.le
    simp only [zM]
    refine ⟨renR rs, renF rs fl, rfl, ok2, by rw [renF_len, renR_len], fun c hc => ⟨rfl, dseq ?_⟩⟩
    have hcl := hc.len
    have cmem : ∀ q, q < (renR rs).length → cAt c q ∈ nubs c := fun q hq => mem_nubs.mpr (cAt_mem (by omega))
    simp only [zM]
    refine dseq ?_
    simp only [zM]
    refine .inr ?_
    rw [enumD_map]
    refine forL_run (fun p : Nat × Nat => D.tup [.int (p.2 : Nat), iD p.1]) (fun p δ => ∃ x6 x7, δ = [some (.p d), some (.p df), some (.p (.lst ((renR rs).map rowD))), some (.p (.lst ((renF rs fl).map bD))), some (.p (.lst (c.map iD))), some (.o (.dct ((nubs (p.map (·.1))).map ky) ((nubs (p.map (·.1))).map fun x => iD (headN c x)))), x6, x7, none, none]) (l := c.zipIdx 0) (pre := []) (fun p a r δ e hI M hM => ?_) (fun δ hI => ?_) ⟨none, none, rfl⟩
    · obtain ⟨x6, x7, rfl⟩ := hI
      have ec : c = p.map (·.1) ++ a.1 :: r.map (·.1) := by
        have z := congrArg (List.map (·.1)) e
        rw [List.nil_append, zipIdx_fst (fun x => x), List.map_id'] at z
        rw [z, List.map_append, List.map_cons]
      have ea : a.2 = p.length := by
        have z := congrArg (fun l => l[p.length]?) e
        simp only [List.nil_append] at z
        rw [List.getElem?_append_right (Nat.le_refl _), Nat.sub_self, List.getElem?_cons_zero, List.getElem?_zipIdx] at z
        cases q : c[p.length]? with
        | none =>
          rw [q] at z
          cases z
        | some y =>
          rw [q] at z
          have z := Option.some.inj z
          rw [← z]
          simp
      have nle := nubs_le (l := p.map (·.1))
      rw [List.length_map] at nle
      have ple : p.length ≤ 4094 := by
        have z := congrArg List.length ec
        rw [List.length_append, List.length_map] at z
        omega
      have hM2 : ∀ x6 x7, M [some (.p d), some (.p df), some (.p (.lst ((renR rs).map rowD))), some (.p (.lst ((renF rs fl).map bD))), some (.p (.lst (c.map iD))), some (.o (.dct ((addK (nubs (p.map (·.1))) a.1).map ky) ((addK (nubs (p.map (·.1))) a.1).map fun x => iD (headN c x)))), x6, x7, none, none] := fun x6 x7 => hM _ ⟨x6, x7, by rw [List.map_append, List.map_cons, List.map_nil, nubs_snoc]⟩
      simp only [zM, iD]
      have hh := heads_has (o := nubs (p.map (·.1))) (c := c) (x := a.1)
      have hp := heads_put (o := nubs (p.map (·.1))) (c := c) (x := a.1)
      unfold iD at hh hp
      rw [hh]
      by_cases hm : a.1 ∈ nubs (p.map (·.1))
      · rw [decide_eq_true hm]
        have z := hM2 (some (.p (.int (a.2 : Nat)))) (some (.p (.int (a.1 : Nat))))
        rw [addK_in hm] at z
        exact iteF z
      · rw [decide_eq_false hm]
        refine iteT ⟨_, if_pos (by omega), ?_⟩
        have hd2 : a.2 = headN c a.1 := by
          have z := head_new (p := p.map (·.1)) (r := r.map (·.1)) (a := a.1) (fun z => hm (mem_nubs.mpr z))
          rw [← ec, List.length_map] at z
          rw [z, ea]
        rw [hd2, hp hm]
        have z := hM2 (some (.p (.int (headN c a.1 : Nat)))) (some (.p (.int (a.1 : Nat))))
        rw [addK_out hm] at z
        exact z
    · obtain ⟨x6, x7, rfl⟩ := hI
      rw [List.nil_append, zipIdx_fst (fun x => x), List.map_id']
      simp only [zM]
      refine dseq ?_
      simp only [zM]
      have cget : ∀ q, q < (renR rs).length → atI (c.map iD) (q : Int) = some (iD (cAt c q)) := fun q hq => by
        refine atI_map ?_
        unfold cAt
        rw [List.getD_eq_getElem?_getD, List.getElem?_eq_getElem (by omega)]
        rfl
      refine lcL_allA rowD (fun r => rowD (joinRow c r)) (fun r => [some (.p d), some (.p df), some (.p (.lst ((renR rs).map rowD))), some (.p (.lst ((renF rs fl).map bD))), some (.p (.lst (c.map iD))), some (.o (.dct ((nubs c).map ky) ((nubs c).map fun x => iD (headN c x)))), x6, x7, none, some (.p (rowD r))]) (fun r hr Y N y => ?_) (fun r hr => rfl) (by rw [List.length_nil, sizeLine_eq]; omega) ?_
      · obtain ⟨r1, r2, r3⟩ := ok2.lt r hr
        simp only [zM, dYes]
        refine ⟨_, rfl, _, cget _ r1, _, heads_get (cmem _ r1), _, rfl, _, cget _ r2, _, heads_get (cmem _ r2), _, rfl, _, cget _ r3, _, heads_get (cmem _ r3), ?_⟩
        exact y
      · have ej : ([] : List D) ++ (renR rs).map (fun r => rowD (joinRow c r)) = (jnR rs fl).map rowD := by
          unfold jnR
          rw [← joinR_eq ok2 hc st]
          unfold joinR
          rw [List.map_map]
          rfl
        rw [ej]
        simp only [zM]
        exact ⟨jnR rs fl, _, renF rs fl, _, rfl, .inl rfl, .inl rfl, jnR_ok ok, by rw [jnR_len, renF_len, renR_len], rfl, rfl, 0, q⟩
end
section
variable {P : Program} {w : World} {K : PySem.W.Frag} {mg : Str → Option Value} {base : Heap}

def isWh : D → Bool
  | .int _ => true
  | _ => false

abbrev s_is_whole : Stmt := topS 2
theorem sc_is_whole : FnScope ["value"] ["value"] (defScope s_is_whole) := ⟨rfl, rfl, rfl, by decide +kernel, rfl, by decide +kernel, by decide +kernel⟩
def spd_is_whole  : Spd := fun bs R _ => ∃ d, bs = [.p d] ∧ dat d = true ∧ R (.p (.bl (isWh d))) 0
theorem cal_is_whole (Da : DefAt K mg "is_whole" s_is_whole) (m_isinstance : mg "isinstance" = none) (m_int : mg "int" = none) (m_bool : mg "bool" = none) : Cal P w K mg base "is_whole" 1 ["value"] spd_is_whole := by
  refine cal_mk none Da sc_is_whole (fun _ _ _ _ _ _ us hl => match us, hl with | [_], _ => rfl) (fun bs R E h => ?_) (fun bs R E h => ?_) fun f cdv A outer s H E W bs R ED gu hr te h fh => ?_
  · obtain ⟨d, rfl, hd, q⟩ := h
    rfl
  · obtain ⟨d, rfl, hd, q⟩ := h
    exact pur_none (by simp [B.own])
  · obtain ⟨d, rfl, hd, q⟩ := h
    have nd := sc_is_whole.nd
    have hu := hr.units
    refine ⟨_, (dss_one (ds_ret (de_and (de_callB call_isZ (rc_isa (K := K)) rfl m_isinstance bt_isinstance (da_cons (de_v 0) (da_cons (de_ty m_int bt_int) da_nil))) (de_one (de_not (de_callB call_isZ (rc_isa (K := K)) rfl m_isinstance bt_isinstance (da_cons (de_v 0) (da_cons (de_ty m_bool bt_bool) da_nil)))))))), ?_⟩
    simp only [zP, isa_Int hd, isa_Bool hd]
    cases d <;> first | (cases hd; done) | exact ⟨0, q⟩

def isSt (many : Nat) : D → Bool
  | .int i => decide (0 ≤ i) && decide (i < (many : Int))
  | _ => false

abbrev s_is_state : Stmt := topS 33
theorem sc_is_state : FnScope ["value", "many"] ["value", "many"] (defScope s_is_state) := ⟨rfl, rfl, rfl, by decide +kernel, rfl, by decide +kernel, by decide +kernel⟩
def spd_is_state  : Spd := fun bs R _ => ∃ d many, bs = [.p d, .p (.int (many : Nat))] ∧ dat d = true ∧ R (.p (.bl (isSt many d))) 0
theorem cal_is_state (Da : DefAt K mg "is_state" s_is_state) (c_is_whole : Cal P w K mg base "is_whole" 1 ["value"] spd_is_whole) : Cal P w K mg base "is_state" 2 ["value", "many"] spd_is_state := by
  refine cal_mk none Da sc_is_state (fun _ _ _ _ _ _ us hl => match us, hl with | [_, _], _ => rfl) (fun bs R E h => ?_) (fun bs R E h => ?_) fun f cdv A outer s H E W bs R ED gu hr te h fh => ?_
  · obtain ⟨d, many, rfl, hd, q⟩ := h
    rfl
  · obtain ⟨d, many, rfl, hd, q⟩ := h
    exact pur_none (by simp [B.own])
  · obtain ⟨d, many, rfl, hd, q⟩ := h
    have nd := sc_is_state.nd
    have hu := hr.units
    refine ⟨_, (dss_one (ds_ret (de_and (de_c c_is_whole gu hr (da_cons (de_v 0) da_nil)) (de_one (de_chain op_le rd_intB0 op_lt rd_intB0 de_int (de_v 0) (de_v 1)))))), ?_⟩
    simp only [zM]
    refine ⟨d, rfl, hd, rfl, _, rfl, ?_⟩
    cases d with
    | int i =>
      refine iteT ?_
      simp only [zM]
      by_cases h0 : 0 ≤ i
      · rw [if_pos h0]
        have e : isSt many (.int i) = decide (i < (many : Int)) := by
          show (decide (0 ≤ i) && decide (i < (many : Int))) = _
          rw [decide_eq_true h0, Bool.true_and]
        rw [e] at q
        exact ⟨0, q⟩
      · rw [if_neg h0]
        have e : isSt many (.int i) = false := by
          show (decide (0 ≤ i) && decide (i < (many : Int))) = _
          rw [decide_eq_false h0, Bool.false_and]
        rw [e] at q
        exact ⟨0, q⟩
    | _ => exact iteF ⟨0, q⟩

def stOf : D → Option Int
  | .int i => some i
  | _ => none
def isRow (many : Nat) : D → Bool
  | .tup [a, b, c] => isSt many a && isSt many b && isSt many c
  | _ => false
def accOk (many : Nat) (l : List D) : Bool := l.all (isSt many) && decide (l.filterMap stOf).Nodup
def isMach : D → D → Bool
  | .lst rows, .lst acc => !rows.isEmpty && rows.all (isRow rows.length) && accOk rows.length acc
  | _, _ => false
def rowish (x : D) : Prop := dat x = true ∧ (∀ xs, x = .tup xs → ∀ y ∈ xs, dat y = true) ∧ ∀ xs, x = .cst xs → xs.length ≠ 3
structure Mch (d e : D) : Prop where
  hd : dat d = true
  he : dat e = true
  rw : ∀ ds, d = .lst ds → ds.length ≤ 4094 ∧ ∀ x ∈ ds, rowish x
  ac : ∀ ds, e = .lst ds → ds.length ≤ 4095 ∧ ∀ x ∈ ds, dat x = true
theorem tw (i : Int) : stOf (.int i) = some i := rfl
theorem accs_at {l p r : List D} {x : D} {n : Nat} {is : List Int} (e : l = p ++ x :: r) (hp : p = is.map D.int) : accOk n l = true → ∃ i, x = .int i ∧ isSt n x = true ∧ i ∉ is := by
  intro h
  unfold accOk at h
  rw [Bool.and_eq_true, decide_eq_true_eq] at h
  obtain ⟨h1, h2⟩ := h
  have hx := List.all_eq_true.mp h1 x (by rw [e]; simp)
  cases x with
  | int i =>
    refine ⟨i, rfl, hx, fun z => ?_⟩
    rw [e, hp, List.filterMap_append, List.filterMap_cons, tw] at h2
    rw [List.filterMap_map, show (stOf ∘ D.int) = some from rfl, List.filterMap_some] at h2
    exact (List.nodup_append.mp h2).2.2 i z i List.mem_cons_self rfl
  | _ => cases hx
theorem accs_all {l : List D} {n : Nat} {is : List Int} (hp : l = is.map D.int) (hs : ∀ x ∈ l, isSt n x = true) (hn : is.Nodup) : accOk n l = true := by
  unfold accOk
  rw [Bool.and_eq_true, decide_eq_true_eq]
  refine ⟨List.all_eq_true.mpr hs, ?_⟩
  rw [hp, List.filterMap_map, show (stOf ∘ D.int) = some from rfl, List.filterMap_some]
  exact hn

abbrev s_is_machine : Stmt := topS 34
theorem sc_is_machine : FnScope ["rows", "accepting", "row", "state", "known"] ["rows", "accepting"] (defScope s_is_machine) := ⟨rfl, rfl, rfl, by decide +kernel, rfl, by decide +kernel, by decide +kernel⟩
def spd_is_machine  : Spd := fun bs R _ => ∃ d e, bs = [.p d, .p e] ∧ Mch d e ∧ R (.p (.bl (isMach d e))) 0
theorem cal_is_machine (Da : DefAt K mg "is_machine" s_is_machine) (c_is_state : Cal P w K mg base "is_state" 2 ["value", "many"] spd_is_state) (m_isinstance : mg "isinstance" = none) (m_list : mg "list" = none) (m_tuple : mg "tuple" = none) (m_len : mg "len" = none) : Cal P w K mg base "is_machine" 3 ["rows", "accepting"] spd_is_machine := by
  refine cal_mk none Da sc_is_machine (fun _ _ _ _ _ _ us hl => match us, hl with | [_, _], _ => rfl) (fun bs R E h => ?_) (fun bs R E h => ?_) fun f cdv A outer s H E W bs R ED gu hr te h fh => ?_
  · obtain ⟨d, e, rfl, hm, q⟩ := h
    rfl
  · obtain ⟨d, e, rfl, hm, q⟩ := h
    exact pur_none (by simp [B.own])
  · obtain ⟨d, e, rfl, hm, q⟩ := h
    have nd := sc_is_machine.nd
    have hu := hr.units
    have ps := passes_of (X := cxOf (L2N.CX P w) P w K mg base ["rows", "accepting", "row", "state", "known"] "is_machine" (defScope s_is_machine) f cdv A outer s H E) rfl
    refine ⟨_, (dss_cons (ds_if (DW.dt (dw_or (dt_not (dt_val (he := fun _ => rfl) (de_callB call_isZ (rc_isa (K := K)) rfl m_isinstance bt_isinstance (da_cons (de_v 0) (da_cons (de_ty m_list bt_list) da_nil))))) (dw_or (dt_cmp (op_eqAll hu) rd_eq (de_lenN 0 m_len) de_int rfl) (dw_or1 (dt_not (dt_val (he := fun _ => rfl) (de_callB call_isZ (rc_isa (K := K)) rfl m_isinstance bt_isinstance (da_cons (de_v 1) (da_cons (de_ty m_list bt_list) da_nil))))))))) (dss_one (ds_ret de_bl)) dss_nil) (dss_cons (ds_for te ps rfl (di_any (de_v 0)) (fun _ => (dg_name (i := 2) nd rfl (by first | exact Or.inl rfl | exact Or.inr rfl))) (fun _ te => (dss_cons (ds_if (DW.dt (dw_or (dt_not (dt_val (he := fun _ => rfl) (de_callB call_isZ (rc_isa (K := K)) rfl m_isinstance bt_isinstance (da_cons (de_v 2) (da_cons (de_ty m_tuple bt_tuple) da_nil))))) (dw_or1 (dt_cmp (op_neAll hu) rd_ne (de_lenN 2 m_len) de_int rfl)))) (dss_one (ds_ret de_bl)) dss_nil) (dss_one (ds_if (dt_cmp (op_neNil hu) (rd_nil (t := false)) (de_lc rfl nd (di_any (de_v 2)) (own := [("state", 3)]) (blkOk_by (by kernel_rfl)) (fun _ _ _ _ _ _ => (dgc_name (i := 3) (by decide) nd rfl (by first | exact Or.inl rfl | exact Or.inr rfl))) (fun _ _ _ _ _ _ => (dts_one (dt_not (dt_val (he := fun _ => rfl) (de_c c_is_state gu hr (da_cons (de_v 3) (da_cons (de_lenN 0 m_len) da_nil))))))) (fun _ _ _ _ _ _ => (de_v 3))) (de_lst da_nil) rfl) (dss_one (ds_ret de_bl)) dss_nil))))) (dss_cons (ds_set (i := 4) nd rfl (by first | exact Or.inl rfl | exact Or.inr rfl) de_dct0) (dss_cons (ds_for te ps rfl (di_any (de_v 1)) (fun _ => (dg_name (i := 3) nd rfl (by first | exact Or.inl rfl | exact Or.inr rfl))) (fun _ te => (dss_cons (ds_if (DW.dt (dw_or (dt_not (dt_val (he := fun _ => rfl) (de_c c_is_state gu hr (da_cons (de_v 3) (da_cons (de_lenN 0 m_len) da_nil))))) (dw_or1 (dt_cmpR 4 (op_inX hu) rl_in (de_v 3))))) (dss_one (ds_ret de_bl)) dss_nil) (dss_one (ds_putN 4 hu de_bl (de_v 3)))))) (dss_one (ds_ret de_bl)))))), ?_⟩
    obtain ⟨hd, he, hd2, he2⟩ := hm
    refine dseq ?_
    simp only [zM, isa_Lst hd, isa_Lst he, dYes]
    cases d with
    | lst rows =>
      obtain ⟨hl, hr⟩ := hd2 rows rfl
      refine iteF ⟨_, rfl, _, eqD_int, ?_⟩
      by_cases hz : rows = []
      · subst hz
        exact iteT ⟨0, by cases e <;> exact q⟩
      · have en : ¬ ((rows.length : Nat) : Int) = 0 := fun z => hz (List.length_eq_zero_iff.mp (by omega))
        rw [decide_eq_false en]
        refine iteF ?_
        have hzf : rows.isEmpty = false := by
          cases rows
          · exact absurd rfl hz
          · rfl
        cases e with
        | lst acc =>
          obtain ⟨hla, hra⟩ := he2 acc rfl
          have qv : isMach (.lst rows) (.lst acc) = (rows.all (isRow rows.length) && accOk rows.length acc) := by
            show (!rows.isEmpty && _ && _) = _
            rw [hzf]
            rfl
          rw [qv] at q
          refine iteF (dseq ?_)
          simp only [zM]
          refine forL_ds (fun p δ => (∀ x ∈ p, isRow rows.length x = true) ∧ ∃ x2 x3, δ = [some (.p (.lst rows)), some (.p (.lst acc)), x2, x3, none]) (l := rows) (fun p x r δ e hI N hN => ?_) (fun δ hI => ?_) ⟨fun _ h => (by cases h), none, none, rfl⟩
          · obtain ⟨hp, x2, x3, rfl⟩ := hI
            have hx := hr x (by rw [e]; simp)
            have bad : isRow rows.length x = false → R (.p (.bl false)) 0 := fun z => by
              have w : rows.all (isRow rows.length) = false := by
                cases w : rows.all (isRow rows.length) with
                | false => rfl
                | true =>
                  have := List.all_eq_true.mp w x (by rw [e]; simp)
                  rw [z] at this
                  cases this
              rw [w] at q
              exact q
            have good : isRow rows.length x = true → ∀ x3, N [some (.p (.lst rows)), some (.p (.lst acc)), some (.p x), x3, none] := fun z x3 => hN _ ⟨fun y hy => (by
              rcases List.mem_append.mp hy with w | w
              · exact hp y w
              · rw [List.mem_singleton.mp w]
                exact z), _, _, rfl⟩
            refine dseq ?_
            simp only [zM, isa_Tup hx.1, dYes]
            cases x with
            | tup xs =>
              refine iteF ⟨_, rfl, _, eqD_int, ?_⟩
              by_cases h3 : xs.length = 3
              · obtain ⟨a, xs, rfl⟩ := List.exists_cons_of_length_eq_add_one h3
                obtain ⟨b, xs, rfl⟩ := List.exists_cons_of_length_eq_add_one (Nat.succ.inj h3)
                obtain ⟨c, xs, rfl⟩ := List.exists_cons_of_length_eq_add_one (Nat.succ.inj (Nat.succ.inj h3))
                have := List.length_eq_zero_iff.mp (Nat.succ.inj (Nat.succ.inj (Nat.succ.inj h3)))
                subst this
                have hdat := hx.2.1 [a, b, c] rfl
                refine iteF ⟨_, rfl, lcL_map (fun x => !isSt rows.length x) (fun x => x) (fun x => [some (.p (.lst rows)), some (.p (.lst acc)), some (.p (.tup [a, b, c])), some (.p x), none]) (fun x => [some (.p (.lst rows)), some (.p (.lst acc)), some (.p (.tup [a, b, c])), some (.p x), none]) (fun y hy Y M yy nn => ?_) (fun y hy => ⟨rfl, rfl⟩) (by rw [sizeLine_eq]; show 3 ≤ 16777216; decide) ?_⟩
                · simp only [zM]
                  refine ⟨y, rows.length, rfl, hdat y hy, rfl, ?_⟩
                  cases hs : isSt rows.length y with
                  | true => exact ⟨_, rfl, iteF (nn (by rw [hs]; rfl))⟩
                  | false => exact ⟨_, rfl, iteT (yy (by rw [hs]; rfl))⟩
                · have er : isRow rows.length (.tup [a, b, c]) = (isSt rows.length a && isSt rows.length b && isSt rows.length c) := rfl
                  rw [er] at bad good
                  simp only [List.filter_cons, List.filter_nil]
                  cases ha : isSt rows.length a <;> cases hb : isSt rows.length b <;> cases hc : isSt rows.length c <;> rw [ha, hb, hc] at bad good <;> first | exact iteF (good rfl _) | exact iteT ⟨0, bad rfl⟩
              · have e3 : ¬ ((xs.length : Nat) : Int) = 3 := fun z => h3 (by omega)
                rw [decide_eq_false e3]
                refine iteT ⟨0, bad ?_⟩
                unfold isRow
                split
                · rename_i z
                  rw [D.tup.inj z] at h3
                  exact absurd rfl h3
                · rfl
            | cst xs =>
              refine iteF ⟨_, rfl, _, eqD_int, ?_⟩
              have e3 : ¬ ((xs.length : Nat) : Int) = 3 := fun z => hx.2.2 xs rfl (by omega)
              rw [decide_eq_false e3]
              exact iteT ⟨0, bad rfl⟩
            | _ => exact iteT ⟨0, bad rfl⟩
          · obtain ⟨hp, x2, x3, rfl⟩ := hI
            rw [show rows.all (isRow rows.length) = true from List.all_eq_true.mpr hp, Bool.true_and] at q
            simp only [zM]
            refine dseq ?_
            simp only [zM]
            refine dseq ?_
            simp only [zM]
            refine forL_ds (fun p δ => (∀ x ∈ p, isSt rows.length x = true) ∧ ∃ (is : List Int) (x3 : Option B), p = is.map D.int ∧ is.Nodup ∧ δ = [some (.p (.lst rows)), some (.p (.lst acc)), x2, x3, some (.o (.dct (is.map fun i => (.inl i : Key)) (is.map fun _ => .bl true)))]) (l := acc) (fun p x r δ e hI N hN => ?_) (fun δ hI => ?_) ⟨fun _ h => (by cases h), [], x3, rfl, List.nodup_nil, rfl⟩
            · obtain ⟨hp, is, x3, ep, hn, rfl⟩ := hI
              have hx := hra x (by rw [e]; simp)
              simp only [zM]
              refine dseq ?_
              simp only [zM, dYes]
              have bad : ¬ (∃ i, x = .int i ∧ isSt rows.length x = true ∧ i ∉ is) → R (.p (.bl false)) 0 := fun z => by
                have w : accOk rows.length acc = false := by
                  cases w : accOk rows.length acc with
                  | false => rfl
                  | true => exact absurd (accs_at e ep w) z
                rw [w] at q
                exact q
              refine ⟨x, rows.length, rfl, hx, rfl, _, rfl, ?_⟩
              cases hs : isSt rows.length x with
              | false => exact iteT ⟨0, bad fun ⟨i, _, h, _⟩ => (by rw [hs] at h; cases h)⟩
              | true =>
                refine iteF ?_
                cases x with
                | int i =>
                  by_cases hi : i ∈ is
                  · have g := lookG_map (f := fun i : Int => (Sum.inl i : Key)) (g := fun _ => D.bl true) (fun a b h => Sum.inl.inj h) hi
                    refine ⟨true, ?_, iteT ⟨0, bad fun ⟨j, h1, _, h2⟩ => h2 (D.int.inj h1 ▸ hi)⟩⟩
                    simp only [Option.map_some]
                    rw [g]
                    rfl
                  · have hnk : (Sum.inl i : Key) ∉ is.map (fun i => (Sum.inl i : Key)) := fun z => by
                      obtain ⟨j, hj, h⟩ := List.mem_map.mp z
                      exact hi (Sum.inl.inj h ▸ hj)
                    have hle : is.length ≤ 4095 := by
                      have h1 := congrArg List.length e
                      have h2 := congrArg List.length ep
                      rw [List.length_append, List.length_cons] at h1
                      rw [List.length_map] at h2
                      omega
                    refine ⟨false, ?_, iteF ⟨_, if_pos (by omega), ?_⟩⟩
                    · simp only [Option.map_some]
                      rw [lookG_not hnk]
                      rfl
                    · rw [putG_new hnk]
                      refine hN _ ⟨fun y hy => ?_, is ++ [i], some (.p (.int i)), (by rw [ep, List.map_append]; rfl), ?_, ?_⟩
                      · rcases List.mem_append.mp hy with w | w
                        · exact hp y w
                        · rw [List.mem_singleton.mp w]
                          exact hs
                      · exact List.nodup_append.mpr ⟨hn, List.nodup_cons.mpr ⟨List.not_mem_nil, List.nodup_nil⟩, fun a ha b hb z => hi (by rw [← List.mem_singleton.mp hb, ← z]; exact ha)⟩
                      · rw [List.map_append, List.map_append]
                        rfl
                | _ => cases hs
            · obtain ⟨hp, is, x3, ep, hn, rfl⟩ := hI
              rw [accs_all ep hp hn] at q
              simp only [zM]
              exact ⟨0, q⟩
        | _ => exact iteT ⟨0, q⟩
    | _ =>
      exact iteT ⟨0, q⟩
end
section
variable {P : Program} {w : World} {K : PySem.W.Frag} {mg : Str → Option Value} {base : Heap}

def flOf (n : Nat) (acc : List Nat) : List Bool := (List.range n).map fun q => decide (q ∈ acc)
theorem flOf_len {n : Nat} {acc : List Nat} : (flOf n acc).length = n := by
  unfold flOf
  rw [List.length_map, List.length_range]
def macD (C : Addr) (rs : List MRow) (fl : List Bool) : D := .ins C ["machine"] [.tup [.tup (rs.map rowD), .tup (fl.map bD)]]
abbrev pairD (C : Addr) (rs : List MRow) (fl : List Bool) : D := macD C (lstR rs fl) (lstF rs fl)
def accOf (fl : List Bool) : List Nat := (List.range fl.length).filter fun q => fl.getD q false

abbrev s_PairSet___init__ : Stmt := memS (topS 35) 0
theorem sc_PairSet___init__ : FnScope ["self", "rows", "accepting", "known", "state", "made"] ["self", "rows", "accepting"] (defScope s_PairSet___init__) := ⟨rfl, rfl, rfl, by decide +kernel, rfl, by decide +kernel, by decide +kernel⟩
def spi_PairSet (aP aI : Addr) : SpdS := fun d0 ds R E => ∃ C d e, d0 = .ins C [] [] ∧ C = aP ∧ ds = [d, e] ∧ Mch d e ∧ ((isMach d e = true ∧ ∃ rs acc, d = .lst (rs.map rowD) ∧ e = .lst (acc.map iD) ∧ RowsOk rs ∧ acc.Nodup ∧ acc.length ≤ 4095 ∧ R (.p .non) (pairD C rs (flOf rs.length acc))) ∨ (isMach d e = false ∧ E aI [.tup [d, e]] (.ins C [] [])))
theorem cal_PairSet {a_PairSet : Addr} (Da : InitAt K mg "PairSet" a_PairSet "PairSet.__init__" s_PairSet___init__ [] []) (c_is_machine : Cal P w K mg base "is_machine" 3 ["rows", "accepting"] spd_is_machine) (c_least_machine : Cal P w K mg base "least_machine" 3 ["rows", "accepting"] spd_least_machine) (fo_m : FldOk K a_PairSet "machine") {aI fI : Addr} (o_InvalidMachine : OwnX P K aI fI) (m_InvalidMachine : mg "InvalidMachine" = some (.ref aI)) (m_tuple : mg "tuple" = none) (m_range : mg "range" = none) (m_len : mg "len" = none) :
    ∃ f fd, GnOk P w K mg base 5 f fd ["self", "rows", "accepting"] (toSpS K (spi_PairSet a_PairSet aI)) ∧ Mk K a_PairSet f ∧ mg "PairSet" = some (.ref a_PairSet) ∧ FunD K "__init__" "PairSet.__init__" (defArgs s_PairSet___init__) (defBody s_PairSet___init__) (defScope s_PairSet___init__) [] [] f fd := by
  refine make_mk Da sc_PairSet___init__ (fun d0 ds R E h => ?_) fun f cdv A outer s H E W d0 ds R ED gu hr te h fh => ?_
  · obtain ⟨C, d, e, rfl, rfl, rfl, hm, q⟩ := h
    rfl
  · obtain ⟨C, d, e, rfl, rfl, rfl, hm, q⟩ := h
    have nd := sc_PairSet___init__.nd
    have hu := hr.units
    refine ⟨_, (dss_cons (ds_if (dt_not (dt_val (he := fun _ => rfl) (de_c c_is_machine gu hr (da_cons (de_v 1) (da_cons (de_v 2) da_nil))))) (dss_one (ds_raise te o_InvalidMachine rfl hr rfl m_InvalidMachine (da_cons (de_tup (da_cons (de_v 1) (da_cons (de_v 2) da_nil))) da_nil))) dss_nil) (dss_cons (ds_set (i := 3) nd rfl (by first | exact Or.inl rfl | exact Or.inr rfl) (de_dc rfl nd (di_any (de_v 2)) (own := [("state", 4)]) (blkOk_by (by kernel_rfl)) (fun _ _ _ _ _ _ => (dgc_name (i := 4) (by decide) nd rfl (by first | exact Or.inl rfl | exact Or.inr rfl))) (fun _ _ _ _ _ _ => dts_nil) (fun _ _ _ _ _ _ => (de_v 4)) (fun _ _ _ _ _ _ => de_bl))) (dss_cons (ds_set (i := 5) nd rfl (by first | exact Or.inl rfl | exact Or.inr rfl) (de_c c_least_machine gu hr (da_cons (de_v 1) (da_cons (de_lc rfl nd (DI0.di (di_range1 rfl m_range (da_cons (de_lenN 1 m_len) da_nil))) (own := [("state", 4)]) (blkOk_by (by kernel_rfl)) (fun _ _ _ _ _ _ => (dgc_name (i := 4) (by decide) nd rfl (by first | exact Or.inl rfl | exact Or.inr rfl))) (fun _ _ _ _ _ _ => dts_nil) (fun _ _ _ _ _ _ => (de_cmpR 3 (op_inX hu) rl_in (de_v 4)))) da_nil)))) (dss_one (ds_setF (i := 0) rfl (de_tup (da_cons (de_callTy call_tuple_of rc_tuple rfl m_tuple bt_tuple (da_cons (de_ixN 5 hu de_int (fun _ _ => rfl)) da_nil)) (da_cons (de_callTy call_tuple_of rc_tuple rfl m_tuple bt_tuple (da_cons (de_ixN 5 hu de_int (fun _ _ => rfl)) da_nil)) da_nil)))))))), ?_⟩
    refine dseq ?_
    simp only [zM, dRaise]
    refine ⟨d, e, rfl, hm, ?_⟩
    rcases q with ⟨hv, rs, acc, rfl, rfl, ok, hn, hla, q⟩ | ⟨hv, q⟩
    · rw [hv]
      simp only [zM]
      refine dseq ?_
      simp only [zM]
      refine dcL_mapA iD iD tr ky (fun x => [some (.s (.ins C [] [])), some (.p (.lst (rs.map rowD))), some (.p (.lst (acc.map iD))), none, some (.p (iD x)), none]) (fun x hx Y N y => ?_) (fun x hx => ⟨rfl, rfl⟩) (by rw [sizeLine_eq, List.length_nil]; omega) (fun _ _ h => (by cases h)) (ky_nodup hn) ?_
      · simp only [zM, dYes]
        exact y
      · rw [List.nil_append, List.nil_append]
        refine dseq ?_
        simp only [zM]
        rw [upto_map]
        have le := ok.le
        refine ⟨by omega, by omega, ?_⟩
        have hfl : (List.range rs.length).map (fun q => D.bl (decide (q ∈ acc))) = (flOf rs.length acc).map bD := by
          unfold flOf
          rw [List.map_map]
          rfl
        refine lcL_allA (fun i : Nat => D.int (i : Nat)) (fun q => D.bl (decide (q ∈ acc))) (fun q => [some (.s (.ins C [] [])), some (.p (.lst (rs.map rowD))), some (.p (.lst (acc.map iD))), some (.o (.dct (acc.map ky) (acc.map tr))), some (.p (.int (q : Nat))), none]) (fun r hr Y N y => ?_) (fun r hr => rfl) (by rw [List.length_nil, List.length_range, sizeLine_eq]; omega) ?_
        · simp only [zM, dYes]
          rw [known_get]
          exact y
        · rw [List.nil_append, Int.toNat_natCast, hfl]
          simp only [zM]
          refine ⟨rs, _, flOf rs.length acc, _, rfl, .inl rfl, .inl rfl, ok, flOf_len, rfl, ?_⟩
          simp only [zM]
          exact ⟨_, rfl, _, rfl, _, rfl, _, rfl, fo_m, q⟩
    · rw [hv]
      simp only [zM]
      exact q
end
section
variable {P : Program} {w : World} {K : PySem.W.Frag} {mg : Str → Option Value} {base : Heap}
abbrev s__law_draw : Stmt := topS 42
theorem sc__law_draw : FnScope ["_law_purse_here", "_law_many", "_law_drawn", "_law_turn", "_law_number"] ["_law_purse_here", "_law_many"] (defScope s__law_draw) := ⟨rfl, rfl, rfl, by decide +kernel, rfl, by decide +kernel, by decide +kernel⟩
def spdDraw : Spd := fun bs R _ => ∃ n k, bs = [.u true n, .p (.int k)] ∧ 0 < k ∧ k < 10 ^ 2000 ∧ n < 10 ^ 6 ∧ ∀ d, 0 ≤ d → d < k → R (.p (.int d)) (n + 1)
theorem cal_draw (D : DefAt K mg "_law_draw" s__law_draw) (mi : mg "int" = none) : Cal P w K mg base "_law_draw" 1 ["_law_purse_here", "_law_many"] spdDraw := by
  obtain ⟨f, fd, F, hm⟩ := D.ex
  refine ⟨f, fd, gn_of F sc__law_draw (fun vs H Q E h => ?_) (fun cdv A outer s H vs Q E hg hr h => ?_), hm, F.kp, F.binds fun _ _ _ _ _ _ us hl => match us, hl with | [_, _], _ => rfl⟩
  · obtain ⟨F0, P0, bs, R, ED, _, ra, _, ⟨n, k, rfl, _⟩, _⟩ := h
    rw [← Paired.length ra]
    rfl
  · obtain ⟨F0, P0, bs, R, ED, fh, ra, hP, ⟨n, k, rfl, k0, kb, nb, q⟩, hQ, _⟩ := h
    have nd := sc__law_draw.nd
    have cI : ∀ {X : Cx}, CallR X (.type "int") (fun xs H Q => (∃ i, xs = [.int i] ∧ Q (.int i) H) ∨ ∃ k, xs = [.bl k] ∧ Q (.int (if k then 1 else 0)) H) := call_int1
    have px0 := fun (X : Cx) (e : Expr) => trivial
    refine ⟨_, pss_cons (ps_if (pt_cmpR op_gt (pe_ix ix_seq (pv 0) pe_int fun _ _ => rfl) pe_int rfl)
        (pss_cons (ps_set (i := 2) nd rfl (.inl rfl) (pe_op op_mod (pe_callTy call_int1 (by exact rfl) mi bt_int (pa_cons (pe_ix ix_seq (pv 0) pe_int fun _ _ => rfl) pa_nil)) (pv 1)))
          (pss_cons (ps_asg (pe_op op_fdivW (pe_ix ix_seq (pv 0) pe_int fun _ _ => rfl) (pv 1)) (pg_sub (pv 0) pe_int set_list))
            (pss_one (ps_ret (pv 2))))) pss_nil)
      (pss_cons (ps_set (i := 3) nd rfl (.inl rfl) (pe_op op_add (pe_ix ix_seq (pv 0) pe_int fun _ _ => rfl) pe_int))
      (pss_cons (ps_asg (pv 3) (pg_sub (pv 0) pe_int set_list))
      (pss_cons (ps_set (i := 4) nd rfl (.inl rfl) (pe_op op_mod (pe_callTy call_int1 (by exact rfl) mi bt_int (pa_cons (pe_op op_mulW (pe_op op_add (pe_ix ix_seq (pv 0) pe_int fun _ _ => rfl) (pe_op op_mulW pe_int (pv 3))) (pe_op op_add (pe_op op_mulW (pv 3) (pv 3)) pe_int)) pa_nil)) pe_int))
      (pss_cons (ps_set (i := 4) nd rfl (.inl rfl) (pe_op op_mod (pe_callTy call_int1 (by exact rfl) mi bt_int (pa_cons (pe_op op_add (pe_op op_mulW (pv 4) (pv 4)) (pv 3)) pa_nil)) pe_int))
      (pss_one (ps_ret (pe_op op_mod (pe_op op_fdivW (pe_op op_mod (pe_callTy call_int1 (by exact rfl) mi bt_int (pa_cons (pe_op op_mulW (pv 4) pe_int) pa_nil)) pe_int) pe_int) (pv 1)))))))), ?_⟩
    cases ra with
    | cons r0 rr =>
    cases rr with
    | cons r1 rr =>
    cases rr
    obtain ⟨_, p, x, y, z, rfl, rfl, hF, hH, hx0, hx1, hy0, hy1, hz0, hz1⟩ := r0
    have e1 := rpInt (K := K) (F := F0) r1
    subst e1
    -- what the draw leaves
    have fin : ∀ (x' z' d : Int), 0 ≤ x' → x' < 10 ^ 400 → 0 ≤ z' → z' ≤ (n + 1 : Nat) → 0 ≤ d → d < k → Q (.int d) (upd H p (.lst [.int x', .int y, .int z'])) := by
      intro x' z' d h1 h2 h3 h4 h5 h6
      refine hQ (.int d) _ F0 (.p (.int d)) (n + 1) ⟨Same.refl F0, fun a o e => ?_, fun a o e ne => ?_, fun a o e => .inl e, fun a e => ?_⟩ (by show Rp K F0 (.int d) (.int d); unfold Rp; rfl) (q d h5 h6)
      · rw [upd_ne (fun z => by rw [z, hF] at e; cases e)]
        exact fh a o e
      · rw [upd_ne (fun z => ne (by rw [z]))]
        exact e
      · cases e
        exact ⟨hF, x', y, z', upd_same, h1, h2, hy0, hy1, h3, h4⟩
    have hS : SqL K H p [.int x, .int y, .int z] := .of hH
    have i0 : ∀ {H' : Hp} {a b c : V} {Z : VK}, SqL K H' p [a, b, c] → Z a H' → rIx K (.ref p) (.int 0) H' Z := fun hs q => .inl ⟨p, _, 0, _, rfl, rfl, hs, rfl, q⟩
    have i1 : ∀ {H' : Hp} {a b c : V} {Z : VK}, SqL K H' p [a, b, c] → Z b H' → rIx K (.ref p) (.int 1) H' Z := fun hs q => .inl ⟨p, _, 1, _, rfl, rfl, hs, rfl, q⟩
    have i2 : ∀ {H' : Hp} {a b c : V} {Z : VK}, SqL K H' p [a, b, c] → Z c H' → rIx K (.ref p) (.int 2) H' Z := fun hs q => .inl ⟨p, _, 2, _, rfl, rfl, hs, rfl, q⟩
    have kn : k.natAbs < 2 ^ 8000 := by
      have : (10 : Int) ^ 2000 < 2 ^ 8000 := by decide +kernel
      omega
    refine ⟨.ref p, rfl, i0 hS ⟨x, 0, rfl, rfl, decide (0 < x), rfl, ?_⟩⟩
    refine ite2 (fun hx => ?_) (fun hx => ?_)
    · refine ⟨.ref p, rfl, i0 hS (.inl ⟨x, rfl, .int k, rfl, x, k, rfl, rfl, k0, ?_⟩)⟩
      refine ⟨.ref p, rfl, i0 hS ⟨.int k, rfl, x, k, rfl, rfl, wide_div k0 kn (by decide) (by decide), .ref p, rfl, p, _, 0, 0, rfl, rfl, hH, rfl, ?_⟩⟩
      refine ⟨.int (x % k), rfl, fin (x / k) z (x % k) (Int.ediv_nonneg hx0 (Int.le_of_lt k0)) (Int.lt_of_le_of_lt (Int.ediv_le_self _ hx0) hx1) hz0 (by omega) (Int.emod_nonneg _ (by omega)) (Int.emod_lt_of_pos _ k0)⟩
    · have zb : z + 1 < 2 ^ 32 := by omega
      refine ⟨.ref p, rfl, i2 hS ⟨z, 1, rfl, rfl, ?_⟩⟩
      refine ⟨.int (z + 1), rfl, .ref p, rfl, p, _, 2, 2, rfl, rfl, hH, rfl, ?_⟩
      have hS2 : SqL K (upd H p (.lst [.int x, .int y, .int (z + 1)])) p [.int x, .int y, .int (z + 1)] := .of upd_same
      refine ⟨.ref p, rfl, i1 hS2 ⟨.int (z + 1), rfl, 104729, z + 1, rfl, rfl, ?_, y, _, rfl, rfl, .int (z + 1), rfl, .int (z + 1), rfl, z + 1, z + 1, rfl, rfl, ?_, _, 7919, rfl, rfl, _, _, rfl, rfl, ?_, .inl ⟨_, rfl, _, _, rfl, rfl, (by show (0 : Int) < 2147483629; decide), ?_⟩⟩⟩
      · exact wide_mul (a := 20) (b := 40) (by decide) (by omega) (by decide) (by decide) (by decide)
      · exact wide_mul (a := 40) (b := 40) (by omega) (by omega) (by decide) (by decide) (by decide)
      · exact wide_mul (a := 60) (b := 90) (by omega) (by
          have h1 : (z + 1).natAbs * (z + 1).natAbs ≤ 2 ^ 32 * 2 ^ 32 := Nat.mul_le_mul (by omega) (by omega)
          have h2 : ((z + 1) * (z + 1)).natAbs = (z + 1).natAbs * (z + 1).natAbs := Int.natAbs_mul _ _
          omega) (by decide) (by decide) (by decide)
      · have bd : ∀ i : Int, 0 ≤ i % 2147483629 ∧ i % 2147483629 < 2147483629 := fun i => ⟨Int.emod_nonneg _ (by decide), Int.emod_lt_of_pos _ (by decide)⟩
        have bd2 : ∀ i : Int, 0 ≤ i % 2147483587 ∧ i % 2147483587 < 2147483587 := fun i => ⟨Int.emod_nonneg _ (by decide), Int.emod_lt_of_pos _ (by decide)⟩
        dsimp only
        generalize (y + 104729 * (z + 1)) * ((z + 1) * (z + 1) + 7919) = N1
        obtain ⟨u1, u2⟩ := bd N1
        generalize N1 % 2147483629 = N2 at u1 u2
        refine ⟨.int N2, rfl, .int N2, rfl, N2, N2, rfl, rfl, wide_mul (a := 40) (b := 40) (by omega) (by omega) (by decide) (by decide) (by decide), .int (z + 1), rfl, N2 * N2, z + 1, rfl, rfl, .inl ⟨_, rfl, _, _, rfl, rfl, (by show (0 : Int) < 2147483587; decide), ?_⟩⟩
        dsimp only
        obtain ⟨v1, v2⟩ := bd2 (N2 * N2 + (z + 1))
        generalize (N2 * N2 + (z + 1)) % 2147483587 = N3 at v1 v2
        refine ⟨.int N3, rfl, N3, 48271, rfl, rfl, wide_mul (a := 40) (b := 20) (by omega) (by decide) (by decide) (by decide) (by decide), .inl ⟨_, rfl, N3 * 48271, 2147483647, rfl, rfl, (by show (0 : Int) < 2147483647; decide), _, 64, rfl, rfl, wide_div (b := 10) (by decide) (by decide) (by decide) (by decide), .int k, rfl, _, k, rfl, rfl, k0, ?_⟩⟩
        exact fin x (z + 1) _ hx0 hx1 (by omega) (by omega) (Int.emod_nonneg _ (by omega)) (Int.emod_lt_of_pos _ k0)


abbrev s__law_purse : Stmt := topS 41
theorem sc__law_purse : FnScope ["_law_script", "_law_at", "_law_cell"] ["_law_script", "_law_at"] (defScope s__law_purse) := ⟨rfl, rfl, rfl, by decide +kernel, rfl, by decide +kernel, by decide +kernel⟩
def spdPurse : Spd := fun bs R _ => ∃ (ns : List Int) (j : Nat), bs = [.p (.scr ns), .p (.int j)] ∧ ∀ x y : Int, 0 ≤ x → x < 10 ^ 400 → 0 ≤ y → y < 2147483629 → R (.o (.lst [.int x, .int y, .int 0])) 0
theorem cal_purse (Da : DefAt K mg "_law_purse" s__law_purse) (mi : mg "int" = none) (ml : mg "len" = none) (mm : mg "max" = none) : Cal P w K mg base "_law_purse" 1 ["_law_script", "_law_at"] spdPurse := by
  refine cal_mk none Da sc__law_purse (fun _ _ _ _ _ _ us hl => match us, hl with | [_, _], _ => rfl) (fun bs R E h => ?_) (fun bs R E h => ?_) fun f cdv A outer s H E W bs R ED hg hr te h fh => ?_
  · obtain ⟨ns, j, rfl, _⟩ := h
    rfl
  · obtain ⟨ns, j, rfl, _⟩ := h
    exact pur_none (by simp [B.own])
  · obtain ⟨ns, j, rfl, q⟩ := h
    have nd := sc__law_purse.nd
    refine ⟨_, dss_cons (ds_set (i := 2) nd rfl (.inl rfl) de_int)
      (dss_cons (ds_if (dt_cmp op_lt rd_intB0 (de_v 1) (de_callB cr_lenAll rc_len (by exact rfl) ml bt_len (da_cons (de_v 0) da_nil)) rfl)
          (dss_one (ds_set (i := 2) nd rfl (.inl rfl) (de_ix (de_v 0) (de_v 1) fun _ _ => rfl))) dss_nil)
      (dss_one (ds_ret (de_lst (da_cons (de_op op_mod rd_intI (de_callTy call_int1 rc_int (by exact rfl) mi bt_int (da_cons (de_callB (call_max2 rfl) rc_max (by exact rfl) mm bt_max (da_cons (de_op op_sub rd_intI0 (de_v 2) (de_op op_powW rd_intI de_int de_int)) (da_cons de_int da_nil))) da_nil)) (de_op op_powW rd_intI (de_op op_powW rd_intI de_int de_int) de_int))
        (da_cons (de_op op_mod rd_intI (de_callTy call_int1 rc_int (by exact rfl) mi bt_int (da_cons (de_v 2) da_nil)) de_int) (da_cons de_int da_nil))))))), ?_⟩
    have c1 : CPowW 10 18 := ⟨by decide, by decide +kernel⟩
    have c2 : CPowW 10 40 := ⟨by decide, by decide +kernel⟩
    have c3 : CPowW (10 ^ Int.toNat 40) 10 := ⟨by decide, by decide +kernel⟩
    have fin : ∀ a b : Int, R (.o (.lst [.int (a % (10 ^ Int.toNat 40) ^ Int.toNat 10), .int (b % 2147483629), .int 0])) 0 := fun a b => by
      refine q _ _ (Int.emod_nonneg _ (by decide +kernel)) ?_ (Int.emod_nonneg _ (by decide)) (Int.emod_lt_of_pos _ (by decide))
      have e : ((10 : Int) ^ Int.toNat 40) ^ Int.toNat 10 = 10 ^ 400 := by decide +kernel
      rw [e]
      exact Int.emod_lt_of_pos _ (by decide +kernel)
    by_cases hj : j < ns.length
    · have hg : atI ns (j : Int) = some ns[j] := atI_nat (List.getElem?_eq_getElem hj)
      simp only [startD, List.map_cons, List.map_nil, List.length_cons, List.length_nil, Nat.reduceAdd, Nat.reduceSub, List.replicate, List.cons_append, List.nil_append, dSeq, dSet, dIfS, dT, dOp, dCB, dCons, dNil, dV, dC, dp, dNext, dRet, dLst, intG, intG0, lenG, lenD, ixG, itemD, intCG, intOf, maxG, List.getElem?_cons_zero, List.getElem?_cons_succ, List.set_cons_zero, List.set_cons_succ, Option.some.injEq, B.isU, B.isR, B.d, B.rd, exists_eq_left', exists_eq_left, exists_and_left, true_and, and_true, B.p.injEq, DD.D.bl.injEq, DD.D.int.injEq, List.cons.injEq, DD.PC, decide_eq_true_eq, and_assoc, Option.map_some, hg, if_pos (show (j : Int) < (ns.length : Int) by omega)]
      exact ⟨c1, c2, c3, by decide +kernel, by decide, by decide, 0, fin _ _⟩
    · simp only [startD, List.map_cons, List.map_nil, List.length_cons, List.length_nil, Nat.reduceAdd, Nat.reduceSub, List.replicate, List.cons_append, List.nil_append, dSeq, dSet, dIfS, dT, dOp, dCB, dCons, dNil, dV, dC, dp, dNext, dRet, dLst, intG, intG0, lenG, lenD, ixG, itemD, intCG, intOf, maxG, List.getElem?_cons_zero, List.getElem?_cons_succ, List.set_cons_zero, List.set_cons_succ, Option.some.injEq, B.isU, B.isR, B.d, B.rd, exists_eq_left', exists_eq_left, exists_and_left, true_and, and_true, B.p.injEq, DD.D.bl.injEq, DD.D.int.injEq, List.cons.injEq, DD.PC, decide_eq_true_eq, and_assoc, Option.map_some, if_neg (show ¬ (j : Int) < (ns.length : Int) by omega)]
      exact ⟨c1, c2, c3, by decide +kernel, by decide, by decide, 0, fin _ _⟩


structure TableOk (most : Nat) (rs : List MRow) (acc : List Nat) : Prop where
  ok : RowsOk rs
  le : rs.length ≤ most
  nd : acc.Nodup
  lt : ∀ a ∈ acc, a < rs.length
theorem int_nat {i : Int} (h : 0 ≤ i) : ∃ n : Nat, i = (n : Int) := ⟨i.toNat, (Int.toNat_of_nonneg h).symm⟩
theorem len_snoc {α : Type} {l : List α} {a : α} : (l ++ [a]).length = l.length + 1 := by rw [List.length_append, List.length_singleton]
theorem len_pre {α : Type} {l p r : List α} {a : α} (e : l = p ++ a :: r) : p.length < l.length := by
  rw [e, List.length_append, List.length_cons]
  omega
theorem upto_at {n : Nat} {p r : List D} {d : D} (e : upto 0 n = p ++ d :: r) : d = .int (p.length : Nat) ∧ p.length < n := by
  rw [upto_map] at e
  have h := congrArg (fun l => l[p.length]?) e
  have hl := len_pre e
  rw [List.length_map, List.length_range] at hl
  rw [List.getElem?_append_right (Nat.le_refl _), Nat.sub_self, List.getElem?_cons_zero, List.getElem?_map, List.getElem?_range hl] at h
  exact ⟨(Option.some.inj h).symm, hl⟩
theorem flat_iD {as : List Nat} : (as.map iD).all flatD = true := List.all_eq_true.mpr fun d hd => by
  obtain ⟨a, _, rfl⟩ := List.mem_map.mp hd
  rfl
theorem inD_nat {n : Nat} {as : List Nat} : (if (flatD (.int (n : Nat)) && (as.map iD).all flatD) = true then some (inD (.int (n : Nat)) (as.map iD)) else none) = some (decide (n ∈ as)) := by
  rw [flat_iD, if_pos (show (flatD (.int (n : Nat)) && true) = true from rfl)]
  congr 1
  unfold inD inV
  rw [Bool.eq_iff_iff, decide_eq_true_eq, List.any_eq_true]
  constructor
  · rintro ⟨v, hv, h⟩
    obtain ⟨d, hd, rfl⟩ := List.mem_map.mp hv
    obtain ⟨a, ha, rfl⟩ := List.mem_map.mp hd
    have h : ((a : Int) == (n : Int)) = true := h
    have := Int.ofNat_inj.mp (eq_of_beq h)
    rw [← this]
    exact ha
  · intro h
    exact ⟨.int (n : Nat), List.mem_map.mpr ⟨iD n, List.mem_map.mpr ⟨n, h, rfl⟩, rfl⟩, (show ((n : Int) == (n : Int)) = true from beq_self_eq_true _)⟩
theorem upto_ln {n : Nat} : (upto 0 n).length = n := by rw [upto_map, List.length_map, List.length_range]

abbrev s__law_table : Stmt := topS 45
theorem sc__law_table : FnScope ["_law_purse_here", "_law_most", "_law_many", "_law_chain", "_law_rows", "_law_state", "_law_row", "_law_mark", "_law_rare", "_law_accepting"] ["_law_purse_here", "_law_most"] (defScope s__law_table) := ⟨rfl, rfl, rfl, by decide +kernel, rfl, by decide +kernel, by decide +kernel⟩
def spd__law_table  : Spd := fun bs R _ => ∃ (n most : Nat), bs = [.u true n, .p (.int (most : Nat))] ∧ 1 ≤ most ∧ most ≤ 60 ∧ n ≤ 900000 ∧ ∀ rs acc m, TableOk most rs acc → n ≤ m → m ≤ n + 400 → R (.p (.tup [.lst (rs.map rowD), .lst (acc.map iD)])) m
theorem cal__law_table (Da : DefAt K mg "_law_table" s__law_table) (c__law_draw : Cal P w K mg base "_law_draw" 1 ["_law_purse_here", "_law_many"] spdDraw) (m_range : mg "range" = none) (m_int : mg "int" = none) : Cal P w K mg base "_law_table" 3 ["_law_purse_here", "_law_most"] spd__law_table := by
  refine cal_mk (some 0) Da sc__law_table (fun _ _ _ _ _ _ us hl => match us, hl with | [_, _], _ => rfl) (fun bs R E h => ?_) (fun bs R E h => ?_) fun f cdv A outer s H E W bs R ED gu hr te h fh => ?_
  · obtain ⟨n, most, rfl, h1, h60, hn, q⟩ := h
    rfl
  · obtain ⟨n, most, rfl, h1, h60, hn, q⟩ := h
    exact pur_zero (by simp [B.own])
  · obtain ⟨n, most, rfl, h1, h60, hn, q⟩ := h
    have nd := sc__law_table.nd
    have hu := hr.units
    have ps := passes_of (X := cxOf (L2N.CX P w) P w K mg base ["_law_purse_here", "_law_most", "_law_many", "_law_chain", "_law_rows", "_law_state", "_law_row", "_law_mark", "_law_rare", "_law_accepting"] "_law_table" (defScope s__law_table) f cdv A outer s H E) rfl
    refine ⟨_, (dss_cons (ds_set (i := 2) nd rfl (by first | exact Or.inl rfl | exact Or.inr rfl) (de_op op_addAll rd_add de_int (de_cP c__law_draw gu hr (i := 0) rfl (da_cons (de_v 1) da_nil)))) (dss_cons (ds_set (i := 3) nd rfl (by first | exact Or.inl rfl | exact Or.inr rfl) (de_cP c__law_draw gu hr (i := 0) rfl (da_cons de_int da_nil))) (dss_cons (ds_set (i := 4) nd rfl (by first | exact Or.inl rfl | exact Or.inr rfl) (de_lst da_nil)) (dss_cons (ds_forR ps rfl (di_range1 rfl m_range (da_cons (de_v 2) da_nil)) (dg_name (i := 5) nd rfl (by first | exact Or.inl rfl | exact Or.inr rfl)) (dss_cons (ds_setLc (i := 6) rfl nd rfl rfl rfl (DI0.di (di_range1 rfl m_range (da_cons de_int da_nil))) (own := [("_law_mark", 7)]) (blkOk_by (by kernel_rfl)) (fun _ _ _ _ _ _ => (dgc_name (i := 7) (by decide) nd rfl (by first | exact Or.inl rfl | exact Or.inr rfl))) (fun _ _ _ _ _ _ => dts_nil) (fun _ _ _ _ _ _ => (de_cP c__law_draw gu hr (i := 0) rfl (da_cons (de_v 2) da_nil)))) (dss_cons (ds_if (dt_cmpL 3 (op_eqAll hu) rl_eq de_int) (dss_one (ds_putN 6 hu (de_op op_mod rd_intI (de_callTy call_int1 rc_int rfl m_int bt_int (da_cons (de_op op_addAll rd_add (de_v 5) de_int) da_nil)) (de_v 2)) (de_cP c__law_draw gu hr (i := 0) rfl (da_cons de_int da_nil)))) dss_nil) (dss_one (ds_append (i := 4) rfl (by first | exact Or.inl rfl | exact Or.inr (Or.inl rfl)) (de_tup (da_cons (de_ixN 6 hu de_int (fun _ _ => rfl)) (da_cons (de_ixN 6 hu de_int (fun _ _ => rfl)) (da_cons (de_ixN 6 hu de_int (fun _ _ => rfl)) da_nil)))) (hpe := fun ta h => pe_bm PySem.F.plainAttrs_list PySem.F.slot_list_append PySem.F.type_list_append mt_append (pv 4) (pa_cons h pa_nil))))))) (dss_cons (ds_set (i := 8) nd rfl (by first | exact Or.inl rfl | exact Or.inr rfl) (de_op op_addAll rd_add de_int (de_op op_mulAll rd_mul de_int (de_v 3)))) (dss_cons (ds_setLc (i := 9) rfl nd rfl rfl rfl (DI0.di (di_range1 rfl m_range (da_cons (de_v 2) da_nil))) (own := [("_law_state", 5)]) (blkOk_by (by kernel_rfl)) (fun _ _ _ _ _ _ => (dgc_name (i := 5) (by decide) nd rfl (by first | exact Or.inl rfl | exact Or.inr rfl))) (fun _ _ _ _ _ _ => (dts_one (dt_cmp (op_eqAll hu) rd_eq (de_cP c__law_draw gu hr (i := 0) rfl (da_cons (de_v 8) da_nil)) de_int rfl))) (fun _ _ _ _ _ _ => (de_v 5))) (dss_cons (ds_if (DW.dt (dw_and (dt_cmpL 3 (op_eqAll hu) rl_eq de_int) (dw_and1 (dt_cmpR 9 (op_notInX hu) rl_in (de_op op_sub rd_intI0 (de_v 2) de_int))))) (dss_one (ds_append (i := 9) rfl (by first | exact Or.inl rfl | exact Or.inr (Or.inl rfl)) (de_op op_sub rd_intI0 (de_v 2) de_int) (hpe := fun ta h => pe_bm PySem.F.plainAttrs_list PySem.F.slot_list_append PySem.F.type_list_append mt_append (pv 9) (pa_cons h pa_nil)))) dss_nil) (dss_one (ds_ret (de_tup (da_cons (de_v 4) (da_cons (de_v 9) da_nil)))))))))))), ?_⟩
    refine dseq ?_
    simp only [zM]
    refine ⟨n, (most : Int), rfl, by omega, by omega, by omega, fun d d0 d1 => ?_⟩
    simp only [zM]
    obtain ⟨d, rfl⟩ := int_nat d0
    have hN : (1 : Int) + (d : Int) = ((d + 1 : Nat) : Int) := by omega
    rw [hN]
    have hle : d + 1 ≤ most := by omega
    generalize d + 1 = N at hle hN
    refine dseq ?_
    simp only [zM]
    refine ⟨n + 1, 2, rfl, by decide, by decide, by omega, fun c c0 c1 => ?_⟩
    simp only [zM]
    refine dseq ?_
    simp only [zM]
    refine dseq ?_
    simp only [zM]
    refine ⟨by omega, by omega, ?_⟩
    rw [Int.toNat_natCast]
    refine forL_ds (fun p δ => ∃ (rs : List MRow) (m : Nat) (x5 x6 : Option B), rs.length = p.length ∧ (∀ r ∈ rs, r.1 < N ∧ r.2.1 < N ∧ r.2.2 < N) ∧ n + 2 ≤ m ∧ m ≤ n + 2 + 4 * p.length ∧ δ = [some (.u true m), some (.p (.int (most : Nat))), some (.p (.int (N : Nat))), some (.p (.int c)), some (.o (.lst (rs.map rowD))), x5, x6, none, none, none]) (fun p d r δ e hI M hM => ?_) (fun δ hI => ?_) ⟨[], n + 2, none, none, rfl, fun _ h => (by cases h), by omega, by omega, rfl⟩
    · obtain ⟨rs, m, x5, x6, hl, hr, m0, m1, rfl⟩ := hI
      obtain ⟨rfl, hp⟩ := upto_at e
      simp only [zM]
      refine dseq ?_
      simp only [zM]
      refine ⟨by decide, by decide, ?_⟩
      refine lcL_pre (fun q acc δ => ∃ (as : List Nat), acc = as.map iD ∧ as.length = q.length ∧ q.length ≤ 3 ∧ (∀ a ∈ as, a < N) ∧ δ = [some (.u true (m + q.length)), some (.p (.int (most : Nat))), some (.p (.int (N : Nat))), some (.p (.int c)), some (.o (.lst (rs.map rowD))), some (.p (.int (p.length : Nat))), x6, none, none, none]) (fun q acc δ hI => ?_) (pre := []) (fun q d r acc δ e hI Y M' hY _ => ?_) (fun acc δ hI => ?_) ⟨[], rfl, rfl, by decide, fun _ h => (by cases h), rfl⟩
      · obtain ⟨as, rfl, h1, h2, _⟩ := hI
        rw [List.length_map, sizeLine_eq]
        omega
      · obtain ⟨as, rfl, h1, h2, h3, rfl⟩ := hI
        have hl := congrArg List.length e
        rw [List.nil_append, List.length_append, List.length_cons, upto_len] at hl
        have hl : 3 = q.length + (r.length + 1) := hl
        simp only [zM, dYes]
        refine ⟨_, _, rfl, by omega, by omega, by omega, fun a a0 a1 => ?_⟩
        obtain ⟨a, rfl⟩ := int_nat a0
        refine ⟨rfl, rfl, hY (iD a) [some (.u true (m + q.length + 1)), some (.p (.int (most : Nat))), some (.p (.int (N : Nat))), some (.p (.int c)), some (.o (.lst (rs.map rowD))), some (.p (.int (p.length : Nat))), x6, some (.p d), none, none] ⟨as ++ [a], by rw [List.map_append]; rfl, by rw [len_snoc, len_snoc, h1], by rw [len_snoc]; omega, fun y hy => ?_, by rw [len_snoc]; rfl⟩⟩
        rcases List.mem_append.mp hy with z | z
        · exact h3 y z
        · rw [List.mem_singleton.mp z]
          omega
      · obtain ⟨as, rfl, h1, h2, h3, rfl⟩ := hI
        rw [List.nil_append] at h1 h2 ⊢
        rw [upto_len] at h1 h2 ⊢
        match as, h1, h3 with
        | [a, b, e3], _, h3 =>
          have ha : a < N := h3 a (by simp)
          have hb : b < N := h3 b (by simp)
          have he : e3 < N := h3 e3 (by simp)
          have ec : (((p.length : Nat) : Int) + 1) % (N : Int) = (((p.length + 1) % N : Nat) : Int) := by
            rw [Int.natCast_emod]
            rfl
          have hs : (p.length + 1) % N < N := Nat.mod_lt _ (by omega)
          have fin : ∀ (a b e3 : Nat) (m' : Nat), a < N → b < N → e3 < N → m ≤ m' → m' ≤ m + 4 → M [some (.u true m'), some (.p (.int (most : Nat))), some (.p (.int (N : Nat))), some (.p (.int c)), some (.o (.lst (rs.map rowD ++ [rowD (a, b, e3)]))), some (.p (.int (p.length : Nat))), some (.o (.lst [iD a, iD b, iD e3])), none, none, none] := fun a b e3 m' ha hb he z1 z2 => hM _ ⟨rs ++ [(a, b, e3)], m', _, _, by rw [len_snoc, len_snoc, hl], fun r hr' => (by
            rcases List.mem_append.mp hr' with z | z
            · exact hr r z
            · rw [List.mem_singleton.mp z]
              exact ⟨ha, hb, he⟩), by omega, by rw [len_snoc]; omega, by rw [List.map_append]; rfl⟩
          simp only [zM]
          refine dseq ?_
          simp only [zM]
          refine ⟨_, eqD_int, ?_⟩
          by_cases hc : c = 1
          · rw [decide_eq_true hc]
            refine iteT ⟨by omega, _, _, rfl, by decide, by decide, by omega, fun k k0 k1 => ?_⟩
            rw [ec]
            have hk : k = 0 ∨ k = 1 ∨ k = 2 := by omega
            rcases hk with rfl | rfl | rfl
            · exact ⟨rfl, rfl, _, rfl, _, rfl, _, rfl, _, rfl, by omega, fin _ _ _ _ hs hb he (by omega) (by omega)⟩
            · exact ⟨rfl, rfl, _, rfl, _, rfl, _, rfl, _, rfl, by omega, fin _ _ _ _ ha hs he (by omega) (by omega)⟩
            · exact ⟨rfl, rfl, _, rfl, _, rfl, _, rfl, _, rfl, by omega, fin _ _ _ _ ha hb hs (by omega) (by omega)⟩
          · rw [decide_eq_false hc]
            exact iteF ⟨_, rfl, _, rfl, _, rfl, by omega, fin _ _ _ _ ha hb he (by omega) (by omega)⟩
    · obtain ⟨rs, m, x5, x6, hl, hr, m0, m1, rfl⟩ := hI
      rw [upto_ln] at hl m1
      simp only [zM]
      refine dseq ?_
      simp only [zM]
      have hcm : CMulW 3 c := by
        rcases (show c = 0 ∨ c = 1 by omega) with rfl | rfl <;> (show _ < 1000000; decide)
      refine ⟨hcm, dseq ?_⟩
      simp only [zM]
      refine ⟨by omega, by omega, ?_⟩
      rw [Int.toNat_natCast]
      have hN0 : 0 < N := by omega
      refine lcL_pre (fun q acc δ => ∃ (as : List Nat), acc = as.map iD ∧ as.Nodup ∧ q.length ≤ N ∧ (∀ a ∈ as, a < q.length) ∧ as.length ≤ q.length ∧ δ = [some (.u true (m + q.length)), some (.p (.int (most : Nat))), some (.p (.int (N : Nat))), some (.p (.int c)), some (.o (.lst (rs.map rowD))), none, x6, none, some (.p (.int (2 + 3 * c))), none]) (fun q acc δ hI => ?_) (pre := []) (fun q d r acc δ e hI Y M' hY hM' => ?_) (fun acc δ hI => ?_) ⟨[], rfl, List.nodup_nil, by simp, fun _ h => (by cases h), Nat.le_refl _, rfl⟩
      · obtain ⟨as, rfl, h1, h2, h3, h4, _⟩ := hI
        rw [List.length_map, sizeLine_eq]
        omega
      · obtain ⟨as, rfl, h1, h2, h3, h4, rfl⟩ := hI
        rw [List.nil_append] at e
        obtain ⟨rfl, hq⟩ := upto_at e
        simp only [zM]
        refine ⟨_, _, rfl, by omega, by omega, by omega, fun a a0 a1 => ⟨rfl, rfl, _, eqD_int, ?_⟩⟩
        by_cases ha : a = 0
        · rw [decide_eq_true ha]
          refine iteT (hY _ _ ⟨as ++ [q.length], by rw [List.map_append]; rfl, ?_, by rw [len_snoc]; omega, fun y hy => ?_, by rw [len_snoc, len_snoc]; omega, by rw [len_snoc]; rfl⟩)
          · exact List.nodup_append.mpr ⟨h1, List.nodup_cons.mpr ⟨List.not_mem_nil, List.nodup_nil⟩, fun a ha b hb z => by
              have := h3 a ha
              rw [List.mem_singleton.mp hb] at z
              omega⟩
          · rw [len_snoc]
            rcases List.mem_append.mp hy with z | z
            · have := h3 y z
              omega
            · rw [List.mem_singleton.mp z]
              omega
        · rw [decide_eq_false ha]
          exact iteF (hM' _ ⟨as, rfl, h1, by rw [len_snoc]; omega, fun y hy => by
            have := h3 y hy
            rw [len_snoc]
            omega, by rw [len_snoc]; omega, by rw [len_snoc]; rfl⟩)
      · obtain ⟨as, rfl, h1, h2, h3, h4, rfl⟩ := hI
        rw [List.nil_append, upto_ln] at h3 h4 ⊢
        simp only [zM]
        refine dseq ?_
        simp only [zM]
        have okr : RowsOk rs := ⟨by omega, by omega, fun r hr' => by
          rw [hl]
          exact hr r hr'⟩
        have tf : TableOk most rs as := ⟨okr, by omega, h1, fun a ha => by
          rw [hl]
          exact h3 a ha⟩
        refine ⟨_, eqD_int, ?_⟩
        have out := q rs as (m + N) tf (by omega) (by omega)
        by_cases hc : c = 1
        · rw [decide_eq_true hc]
          have eN : (N : Int) - 1 = ((N - 1 : Nat) : Int) := by omega
          rw [eN]
          refine iteT ⟨_, inD_nat, ?_⟩
          by_cases hm : N - 1 ∈ as
          · rw [decide_eq_true hm]
            exact iteF out
          · rw [decide_eq_false hm]
            refine iteT ⟨by omega, ?_⟩
            have tf2 : TableOk most rs (as ++ [N - 1]) := ⟨okr, by omega, List.nodup_append.mpr ⟨h1, List.nodup_cons.mpr ⟨List.not_mem_nil, List.nodup_nil⟩, fun a ha b hb z => hm (by rw [← List.mem_singleton.mp hb, ← z]; exact ha)⟩, fun a ha => by
              rw [hl]
              rcases List.mem_append.mp ha with z | z
              · exact h3 a z
              · rw [List.mem_singleton.mp z]
                omega⟩
            have out2 := q rs (as ++ [N - 1]) (m + N) tf2 (by omega) (by omega)
            rw [List.map_append] at out2
            exact out2
        · rw [decide_eq_false hc]
          exact iteF out
end
section
variable {P : Program} {w : World} {K : PySem.W.Frag} {mg : Str → Option Value} {base : Heap}

def tabD (rs : List MRow) (acc : List Nat) : D := .tup [.lst (rs.map rowD), .lst (acc.map iD)]
def pD (x : PairN) : D := .tup [.int (x.1 : Nat), .int (x.2 : Nat)]
def kyP (x : PairN) : List Key := [ky x.1, ky x.2]
theorem kyP_inj {x y : PairN} (h : kyP x = kyP y) : x = y := by
  unfold kyP at h
  simp only [List.cons.injEq, and_true] at h
  exact Prod.ext (ky_inj h.1) (ky_inj h.2)
theorem kyP_mem {os : List PairN} {x : PairN} : kyP x ∈ os.map kyP ↔ x ∈ os := ⟨fun h => by
  obtain ⟨a, ha, e⟩ := List.mem_map.mp h
  rw [← kyP_inj e]
  exact ha, fun h => List.mem_map.mpr ⟨x, h, rfl⟩⟩
def idsD (n : Nat) : List D := (List.range n).map iD
theorem pl_get {os : List PairN} {x : PairN} (nd : os.Nodup) (h : x ∈ os) : lookG (os.map kyP) (idsD os.length) (kyP x) = some (iD (plP os x)) := by
  have hp := plP_at h
  have hl := (List.getElem?_eq_some_iff.mp hp).1
  refine lookG_at (i := plP os x) (nodup_mapOn nd fun a _ b _ e => kyP_inj e) ?_ ?_
  · rw [List.getElem?_map, hp]
    rfl
  · unfold idsD
    rw [List.getElem?_map, List.getElem?_range hl]
    rfl
theorem pl_no {os : List PairN} {x : PairN} (h : x ∉ os) : lookG (os.map kyP) (idsD os.length) (kyP x) = none := lookG_not fun z => h (kyP_mem.mp z)
theorem pl_put {os : List PairN} {x : PairN} (h : x ∉ os) : putG (os.map kyP) (idsD os.length) (kyP x) (iD os.length) = ((os ++ [x]).map kyP, idsD (os ++ [x]).length) := by
  rw [putG_new (fun z => h (kyP_mem.mp z)), List.map_append]
  unfold idsD
  rw [len_snoc, List.range_succ, List.map_append]
  rfl
theorem row_k {rs : List MRow} {q k : Nat} (h : k < 3) : atI [D.int ((rowAt rs q).1 : Nat), D.int ((rowAt rs q).2.1 : Nat), D.int ((rowAt rs q).2.2 : Nat)] (k : Nat) = some (.int (nxt rs q k : Nat)) := by
  match k, h with
  | 0, _ => rfl
  | 1, _ => rfl
  | 2, _ => rfl
theorem row_at {rs : List MRow} (ok : RowsOk rs) {q : Nat} (h : q < rs.length) : atI (rs.map rowD) (q : Nat) = some (rowD (rowAt rs q)) := atI_map (ok.at h).1
def wayB (way : Nat) (a b : Bool) : Bool := match way with
  | 0 => a && b
  | 1 => a || b
  | 2 => a && !b
  | _ => a != b
theorem at_0 {a : D} {l : List D} : atI (a :: l) 0 = some a := atI_nat (j := 0) rfl
theorem at_1 {a b : D} {l : List D} : atI (a :: b :: l) 1 = some b := atI_nat (j := 1) rfl
theorem inG_nat {n : Nat} {as : List Nat} {Q : B → Prop} : inG false (.int (n : Nat)) (.lst (as.map iD)) Q = Q (.p (.bl (decide (n ∈ as)))) := by
  unfold inG
  have h : isIn (.int (n : Nat)) (.lst (as.map iD)) = some (decide (n ∈ as)) := inD_nat
  rw [h]
  exact propext ⟨fun ⟨b, e, q⟩ => Option.some.inj e ▸ q, fun q => ⟨_, rfl, q⟩⟩
theorem eqD_bl {a b : Bool} : eqD (.bl a) (.bl b) = some (a == b) := by
  cases a <;> cases b <;> rfl
def jaccN (way : Nat) (os : List PairN) (a1 a2 : List Nat) (n : Nat) : List Nat := (List.range n).filter fun i => wayB way (decide ((os.getD i (0, 0)).1 ∈ a1)) (decide ((os.getD i (0, 0)).2 ∈ a2))
abbrev jacc (way : Nat) (os : List PairN) (a1 a2 : List Nat) : List Nat := jaccN way os a1 a2 os.length
theorem jacc_le {way : Nat} {os : List PairN} {a1 a2 : List Nat} {n : Nat} : (jaccN way os a1 a2 n).length ≤ n := by
  unfold jaccN
  exact Nat.le_trans (List.length_filter_le _ _) (Nat.le_of_eq List.length_range)
theorem jacc_succ {way : Nat} {os : List PairN} {a1 a2 : List Nat} {n : Nat} : jaccN way os a1 a2 (n + 1) = jaccN way os a1 a2 n ++ if wayB way (decide ((os.getD n (0, 0)).1 ∈ a1)) (decide ((os.getD n (0, 0)).2 ∈ a2)) = true then [n] else [] := by
  unfold jaccN
  rw [List.range_succ, List.filter_append]
  congr 1
  rw [List.filter_cons, List.filter_nil]
abbrev s__law_joined : Stmt := topS 48
theorem sc__law_joined : FnScope ["_law_one", "_law_other", "_law_way", "_law_pairs", "_law_place", "_law_rows", "_law_first", "_law_second", "_law_row", "_law_k", "_law_pair", "_law_accepting", "_law_at", "_law_here", "_law_there"] ["_law_one", "_law_other", "_law_way"] (defScope s__law_joined) := ⟨rfl, rfl, rfl, by decide +kernel, rfl, by decide +kernel, by decide +kernel⟩
def spd__law_joined  : Spd := fun bs R _ => ∃ (r1 r2 : List MRow) (a1 a2 : List Nat) (way : Nat), bs = [.p (tabD r1 a1), .p (tabD r2 a2), .p (.int (way : Nat))] ∧ RowsOk r1 ∧ RowsOk r2 ∧ way < 4 ∧ r1.length * r2.length ≤ 1000000 ∧ a1.length ≤ 4095 ∧ a2.length ≤ 4095 ∧ ∀ os rows, Joined r1 r2 os rows → R (.p (tabD rows (jacc way os a1 a2))) 0
theorem cal__law_joined (Da : DefAt K mg "_law_joined" s__law_joined) (m_range : mg "range" = none) (m_len : mg "len" = none) : Cal P w K mg base "_law_joined" 3 ["_law_one", "_law_other", "_law_way"] spd__law_joined := by
  refine cal_mk none Da sc__law_joined (fun _ _ _ _ _ _ us hl => match us, hl with | [_, _, _], _ => rfl) (fun bs R E h => ?_) (fun bs R E h => ?_) fun f cdv A outer s H E W bs R ED gu hr te h fh => ?_
  · obtain ⟨r1, r2, a1, a2, way, rfl, ok1, ok2, hw, hb, l1, l2, q⟩ := h
    rfl
  · obtain ⟨r1, r2, a1, a2, way, rfl, ok1, ok2, hw, hb, l1, l2, q⟩ := h
    exact pur_none (by simp [B.own])
  · obtain ⟨r1, r2, a1, a2, way, rfl, ok1, ok2, hw, hb, l1, l2, q⟩ := h
    have nd := sc__law_joined.nd
    have hu := hr.units
    have ps := passes_of (X := cxOf (L2N.CX P w) P w K mg base ["_law_one", "_law_other", "_law_way", "_law_pairs", "_law_place", "_law_rows", "_law_first", "_law_second", "_law_row", "_law_k", "_law_pair", "_law_accepting", "_law_at", "_law_here", "_law_there"] "_law_joined" (defScope s__law_joined) f cdv A outer s H E) rfl
    refine ⟨_, (dss_cons (ds_par3 (i := 3) (j := 4) (l := 5) rfl nd rfl rfl rfl (by decide) (by decide) (by decide) rfl rfl rfl (db_cons (fun _ => (de_lst (da_cons (de_tup (da_cons de_int (da_cons de_int da_nil))) da_nil))) (db_cons (fun _ => (de_dctT hu (fun _ => (de_tup (da_cons de_int (da_cons de_int da_nil)))) (fun _ => de_int))) (db_cons (fun _ => (de_lst da_nil)) db_nil))) rfl) (dss_cons (ds_while ps (dt_cmp op_lt rd_intB0 (de_lenN 5 m_len) (de_lenN 3 m_len) rfl) (dss_cons (ds_asg (de_ixN 3 hu (de_lenN 5 m_len) (fun _ _ => rfl)) (dg_tup (n := 2) rfl (dgs_cons (dg_name (i := 6) nd rfl (by first | exact Or.inl rfl | exact Or.inr rfl)) (dgs_cons (dg_name (i := 7) nd rfl (by first | exact Or.inl rfl | exact Or.inr rfl)) dgs_nil)))) (dss_cons (ds_set (i := 8) nd rfl (by first | exact Or.inl rfl | exact Or.inr rfl) (de_lst da_nil)) (dss_cons (ds_forR ps rfl (di_range1 rfl m_range (da_cons de_int da_nil)) (dg_name (i := 9) nd rfl (by first | exact Or.inl rfl | exact Or.inr rfl)) (dss_cons (ds_set (i := 10) nd rfl (by first | exact Or.inl rfl | exact Or.inr rfl) (de_tup (da_cons (de_ix2 hu (de_ix2 hu (de_ixN 0 hu de_int (fun _ _ => rfl)) (de_v 6) fun _ _ => rfl) (de_v 9) fun _ _ => rfl) (da_cons (de_ix2 hu (de_ix2 hu (de_ixN 1 hu de_int (fun _ _ => rfl)) (de_v 7) fun _ _ => rfl) (de_v 9) fun _ _ => rfl) da_nil)))) (dss_cons (ds_if (dt_cmpR 4 (op_notInX hu) rl_in (de_v 10)) (dss_cons (ds_putN 4 hu (de_lenN 3 m_len) (de_v 10)) (dss_one (ds_append (i := 3) rfl (by first | exact Or.inl rfl | exact Or.inr (Or.inl rfl)) (de_v 10) (hpe := fun ta h => pe_bm PySem.F.plainAttrs_list PySem.F.slot_list_append PySem.F.type_list_append mt_append (pv 3) (pa_cons h pa_nil))))) dss_nil) (dss_one (ds_append (i := 8) rfl (by first | exact Or.inl rfl | exact Or.inr (Or.inl rfl)) (de_ixN 4 hu (de_v 10) (fun _ _ => rfl)) (hpe := fun ta h => pe_bm PySem.F.plainAttrs_list PySem.F.slot_list_append PySem.F.type_list_append mt_append (pv 8) (pa_cons h pa_nil))))))) (dss_one (ds_append (i := 5) rfl (by first | exact Or.inl rfl | exact Or.inr (Or.inl rfl)) (de_tup (da_cons (de_ixN 8 hu de_int (fun _ _ => rfl)) (da_cons (de_ixN 8 hu de_int (fun _ _ => rfl)) (da_cons (de_ixN 8 hu de_int (fun _ _ => rfl)) da_nil)))) (hpe := fun ta h => pe_bm PySem.F.plainAttrs_list PySem.F.slot_list_append PySem.F.type_list_append mt_append (pv 5) (pa_cons h pa_nil)))))))) (dss_cons (ds_set (i := 11) nd rfl (by first | exact Or.inl rfl | exact Or.inr rfl) (de_lst da_nil)) (dss_cons (ds_forR ps rfl (di_range1 rfl m_range (da_cons (de_lenN 3 m_len) da_nil)) (dg_name (i := 12) nd rfl (by first | exact Or.inl rfl | exact Or.inr rfl)) (dss_cons (ds_par (i := 13) (j := 14) rfl nd rfl rfl (by decide) rfl rfl (db_cons (fun _ => (de_cmp op_inAll rd_in (de_ix2 hu (de_ixN 3 hu (de_v 12) (fun _ _ => rfl)) de_int fun _ _ => rfl) (de_ixN 0 hu de_int (fun _ _ => rfl)) rfl)) (db_cons (fun _ => (de_cmp op_inAll rd_in (de_ix2 hu (de_ixN 3 hu (de_v 12) (fun _ _ => rfl)) de_int fun _ _ => rfl) (de_ixN 1 hu de_int (fun _ _ => rfl)) rfl)) db_nil)) rfl) (dss_one (ds_if (dt_val (he := fun _ => rfl) (de_ix2 hu (de_lst (da_cons (de_and (de_v 13) (de_one (de_v 14))) (da_cons (de_or (de_v 13) (de_one (de_v 14))) (da_cons (de_and (de_v 13) (de_one (de_not (de_v 14)))) (da_cons (de_cmpR 14 (op_neAll hu) rl_ne (de_v 13)) da_nil))))) (de_v 2) fun _ _ => rfl)) (dss_one (ds_append (i := 11) rfl (by first | exact Or.inl rfl | exact Or.inr (Or.inl rfl)) (de_v 12) (hpe := fun ta h => pe_bm PySem.F.plainAttrs_list PySem.F.slot_list_append PySem.F.type_list_append mt_append (pv 11) (pa_cons h pa_nil)))) dss_nil)))) (dss_one (ds_ret (de_tup (da_cons (de_v 5) (da_cons (de_v 11) da_nil))))))))), ?_⟩
    refine dseq ?_
    simp only [zM]
    refine dseq ?_
    refine while_inv (fun m δ => ∃ os rows x6 x7 x8 x9 x10, Join r1 r2 os rows ∧ m + rows.length = r1.length * r2.length ∧ δ = [some (.p (tabD r1 a1)), some (.p (tabD r2 a2)), some (.p (.int (way : Nat))), some (.o (.lst (os.map pD))), some (.o (.dcT (os.map kyP) (idsD os.length))), some (.o (.lst (rows.map rowD))), x6, x7, x8, x9, x10, none, none, none, none]) (fun m δ hI N hN => ?_) (m := r1.length * r2.length) ⟨[(0, 0)], [], none, none, none, none, none, ⟨Nat.zero_le _, by simp, rfl, fun x hx => (by rw [List.mem_singleton.mp hx]; exact ⟨ok1.pos, ok2.pos⟩), fun x hx => ⟨[], fun _ h => (by cases h), List.mem_singleton.mp hx⟩, fun i hi => (by cases hi)⟩, by simp, rfl⟩
    obtain ⟨os, rows, x6, x7, x8, x9, x10, J, hm, rfl⟩ := hI
    have hle := J.le
    simp only [zM]
    by_cases hlt : rows.length < os.length
    · rw [if_pos (show ((rows.length : Nat) : Int) < (os.length : Nat) by omega)]
      refine dseq ?_
      have hx := List.getElem?_eq_getElem hlt
      have xm := List.getElem_mem hlt
      generalize os[rows.length] = x at hx xm
      have xl := J.lt x xm
      simp only [zM]
      refine ⟨_, atI_map hx, ?_⟩
      simp only [zM, pD]
      refine dseq ?_
      simp only [zM]
      refine dseq ?_
      simp only [zM]
      refine ⟨by decide, by decide, ?_⟩
      refine forL_ds (fun p δ => ∃ (O : List PairN) (as : List Nat) (y9 y10 : Option B), (∃ t, O = os ++ t) ∧ Grow r1 r2 O ∧ as.length = p.length ∧ p.length ≤ 3 ∧ (∀ j a, as[j]? = some a → O[a]? = some (aft r1 r2 x j)) ∧ δ = [some (.p (tabD r1 a1)), some (.p (tabD r2 a2)), some (.p (.int (way : Nat))), some (.o (.lst (O.map pD))), some (.o (.dcT (O.map kyP) (idsD O.length))), some (.o (.lst (rows.map rowD))), some (.p (.int (x.1 : Nat))), some (.p (.int (x.2 : Nat))), some (.o (.lst (as.map iD))), y9, y10, none, none, none, none]) (fun p d r δ e hI M hM => ?_) (fun δ hI => ?_) ⟨os, [], x9, x10, ⟨[], (List.append_nil _).symm⟩, ⟨J.nd, J.lt, J.rch⟩, rfl, by decide, fun j a h => (by cases h), rfl⟩
      · obtain ⟨O, as, y9, y10, ⟨t, et⟩, G, hal, hp3, hat, rfl⟩ := hI
        obtain ⟨rfl, hp⟩ := upto_at (n := 3) e
        have hgl := pairs_le G.nd G.lt
        have xt : x ∈ O := by
          rw [et]
          exact List.mem_append_left _ xm
        have G' := G.add ok1 ok2 xt hp
        simp only [zM]
        refine dseq ?_
        simp only [zM]
        refine ⟨_, rfl, _, row_at ok1 xl.1, _, row_k hp, _, rfl, _, row_at ok2 xl.2, _, row_k hp, dseq ?_⟩
        simp only [zM]
        by_cases hy : aft r1 r2 x p.length ∈ O
        · have lk := pl_get G.nd hy
          rw [show lookG (O.map kyP) (idsD O.length) [Sum.inl ((nxt r1 x.1 p.length : Nat) : Int), Sum.inl ((nxt r2 x.2 p.length : Nat) : Int)] = some (iD (plP O (aft r1 r2 x p.length))) from lk]
          refine iteF ⟨_, rfl, by omega, hM _ ⟨O, as ++ [plP O (aft r1 r2 x p.length)], _, _, ⟨t, et⟩, G, by rw [len_snoc, len_snoc, hal], by rw [len_snoc]; omega, fun j a h => ?_, by rw [List.map_append]; rfl⟩⟩
          by_cases hj : j < as.length
          · rw [List.getElem?_append_left hj] at h
            exact hat j a h
          · have hj2 := (List.getElem?_eq_some_iff.mp h).1
            rw [len_snoc] at hj2
            have : j = as.length := by omega
            subst this
            rw [List.getElem?_append_right (Nat.le_refl _), Nat.sub_self] at h
            cases h
            rw [hal]
            exact plP_at hy
        · have lk := pl_no hy
          rw [show lookG (O.map kyP) (idsD O.length) [Sum.inl ((nxt r1 x.1 p.length : Nat) : Int), Sum.inl ((nxt r2 x.2 p.length : Nat) : Int)] = none from lk]
          refine iteT (dseq ?_)
          simp only [zM]
          have e' : addP O (aft r1 r2 x p.length) = O ++ [aft r1 r2 x p.length] := addP_out hy
          have G2 : Grow r1 r2 (O ++ [aft r1 r2 x p.length]) := by
            rw [← e']
            exact G'
          have gl2 := pairs_le G2.nd G2.lt
          have ym : aft r1 r2 x p.length ∈ O ++ [aft r1 r2 x p.length] := List.mem_append_right _ List.mem_cons_self
          have pp := pl_put hy
          refine ⟨.dcT ((O ++ [aft r1 r2 x p.length]).map kyP) (idsD (O ++ [aft r1 r2 x p.length]).length), ?_, by omega, iD (plP (O ++ [aft r1 r2 x p.length]) (aft r1 r2 x p.length)), pl_get G2.nd ym, by omega, hM _ ⟨O ++ [aft r1 r2 x p.length], as ++ [plP (O ++ [aft r1 r2 x p.length]) (aft r1 r2 x p.length)], _, _, ⟨t ++ [aft r1 r2 x p.length], by rw [et, List.append_assoc]⟩, G2, by rw [len_snoc, len_snoc, hal], by rw [len_snoc]; omega, fun j a h => ?_, by rw [List.map_append, List.map_append, List.map_append]; rfl⟩⟩
          · rw [if_pos (by omega)]
            show some (D.dcT (putG (O.map kyP) (idsD O.length) (kyP (aft r1 r2 x p.length)) (iD O.length)).1 (putG (O.map kyP) (idsD O.length) (kyP (aft r1 r2 x p.length)) (iD O.length)).2) = _
            rw [pp]
          · by_cases hj : j < as.length
            · rw [List.getElem?_append_left hj] at h
              have g := hat j a h
              rw [List.getElem?_append_left (List.getElem?_eq_some_iff.mp g).1]
              exact g
            · have hj2 := (List.getElem?_eq_some_iff.mp h).1
              rw [len_snoc] at hj2
              have : j = as.length := by omega
              subst this
              rw [List.getElem?_append_right (Nat.le_refl _), Nat.sub_self] at h
              cases h
              rw [hal]
              exact plP_at ym
      · obtain ⟨O, as, y9, y10, ⟨t, rfl⟩, G, hal, hp3, hat, rfl⟩ := hI
        rw [show (upto 0 (Int.toNat 3)).length = 3 from upto_ln (n := 3)] at hal
        match as, hal, hat with
        | [a, b, c], _, hat =>
          have JJ := J.step hx G (hat 0 a rfl) (hat 1 b rfl) (hat 2 c rfl)
          simp only [zM]
          exact ⟨_, rfl, _, rfl, _, rfl, by omega, hN (m - 1) _ (by omega) ⟨os ++ t, rows ++ [(a, b, c)], _, _, _, _, _, JJ, by rw [len_snoc]; omega, by rw [List.map_append (f := rowD), List.length_append]; rfl⟩⟩
    · rw [if_neg (show ¬ ((rows.length : Nat) : Int) < (os.length : Nat) by omega)]
      have JJ := J.done hlt
      refine dseq ?_
      simp only [zM]
      refine dseq ?_
      simp only [zM]
      refine ⟨by omega, by omega, ?_⟩
      rw [Int.toNat_natCast]
      refine forL_ds (fun p δ => ∃ x12 x13 x14, δ = [some (.p (tabD r1 a1)), some (.p (tabD r2 a2)), some (.p (.int (way : Nat))), some (.o (.lst (os.map pD))), some (.o (.dcT (os.map kyP) (idsD os.length))), some (.o (.lst (rows.map rowD))), x6, x7, x8, x9, x10, some (.o (.lst ((jaccN way os a1 a2 p.length).map iD))), x12, x13, x14]) (fun p d r δ e hI M hM => ?_) (fun δ hI => ?_) ⟨none, none, none, rfl⟩
      · obtain ⟨x12, x13, x14, rfl⟩ := hI
        obtain ⟨rfl, hp⟩ := upto_at e
        have hx := List.getElem?_eq_getElem hp
        have hg : os.getD p.length (0, 0) = os[p.length] := by
          rw [List.getD_eq_getElem?_getD, hx]
          rfl
        have hx2 := atI_map (f := pD) hx
        generalize os[p.length] = y at hx hx2 hg
        simp only [zM]
        refine dseq ?_
        simp only [zM, tabD, hx2, pD, at_0, at_1, inG_nat]
        have js := jacc_succ (way := way) (os := os) (a1 := a1) (a2 := a2) (n := p.length)
        rw [hg] at js
        have jl := jacc_le (way := way) (os := os) (a1 := a1) (a2 := a2) (n := p.length)
        have yes : wayB way (decide (y.1 ∈ a1)) (decide (y.2 ∈ a2)) = true → ∀ x12 x13 x14, M [some (.p (tabD r1 a1)), some (.p (tabD r2 a2)), some (.p (.int (way : Nat))), some (.o (.lst (os.map pD))), some (.o (.dcT (os.map kyP) (idsD os.length))), some (.o (.lst (rows.map rowD))), x6, x7, x8, x9, x10, some (.o (.lst ((jaccN way os a1 a2 p.length).map iD ++ [D.int (p.length : Nat)]))), x12, x13, x14] := fun z x12 x13 x14 => hM _ ⟨x12, x13, x14, by rw [len_snoc, js, if_pos z, List.map_append]; rfl⟩
        have no : wayB way (decide (y.1 ∈ a1)) (decide (y.2 ∈ a2)) = false → ∀ x12 x13 x14, M [some (.p (tabD r1 a1)), some (.p (tabD r2 a2)), some (.p (.int (way : Nat))), some (.o (.lst (os.map pD))), some (.o (.dcT (os.map kyP) (idsD os.length))), some (.o (.lst (rows.map rowD))), x6, x7, x8, x9, x10, some (.o (.lst ((jaccN way os a1 a2 p.length).map iD))), x12, x13, x14] := fun z x12 x13 x14 => hM _ ⟨x12, x13, x14, by rw [len_snoc, js, if_neg (by rw [z]; exact Bool.false_ne_true), List.append_nil]⟩
        have hw4 : way = 0 ∨ way = 1 ∨ way = 2 ∨ way = 3 := by omega
        by_cases h1 : y.1 ∈ a1 <;> by_cases h2 : y.2 ∈ a2 <;> simp only [h1, h2, decide_true, decide_false, if_true, if_false, Bool.not_true, Bool.not_false, eqD_bl] at yes no ⊢ <;> rcases hw4 with rfl | rfl | rfl | rfl <;> first | exact ⟨_, rfl, _, rfl, _, rfl, iteF (no rfl _ _ _)⟩ | exact ⟨_, rfl, _, rfl, _, rfl, iteT ⟨by omega, yes rfl _ _ _⟩⟩
      · obtain ⟨x12, x13, x14, rfl⟩ := hI
        rw [upto_ln]
        simp only [zM]
        exact ⟨0, q os rows JJ⟩
end
section
variable {P : Program} {w : World} {K : PySem.W.Frag} {mg : Str → Option Value} {base : Heap}

theorem row_ish (r : MRow) : rowish (rowD r) := ⟨rfl, fun xs e y hy => by
  cases e
  simp only [List.mem_cons, List.not_mem_nil, or_false] at hy
  rcases hy with rfl | rfl | rfl <;> rfl, fun xs e => by cases e⟩
theorem tab_mch {rs : List MRow} {acc : List Nat} (ok : RowsOk rs) (la : acc.length ≤ 4095) : Mch (.lst (rs.map rowD)) (.lst (acc.map iD)) :=
  ⟨rfl, rfl, fun ds e => by
    cases e
    refine ⟨by rw [List.length_map]; exact ok.le, fun x hx => ?_⟩
    obtain ⟨r, _, rfl⟩ := List.mem_map.mp hx
    exact row_ish r, fun ds e => by
    cases e
    refine ⟨by rw [List.length_map]; exact la, fun x hx => ?_⟩
    obtain ⟨r, _, rfl⟩ := List.mem_map.mp hx
    rfl⟩
theorem tab_mach {rs : List MRow} {acc : List Nat} (ok : RowsOk rs) (nd : acc.Nodup) (lt : ∀ a ∈ acc, a < rs.length) : isMach (.lst (rs.map rowD)) (.lst (acc.map iD)) = true := by
  have h1 : (rs.map rowD).isEmpty = false := by
    have := ok.pos
    cases rs
    · cases this
    · rfl
  have si : ∀ {a : Nat}, a < rs.length → isSt rs.length (.int (a : Nat)) = true := fun {a} h => by
    show (decide ((0 : Int) ≤ (a : Int)) && decide ((a : Int) < (rs.length : Int))) = true
    rw [decide_eq_true (by omega), decide_eq_true (show ((a : Nat) : Int) < (rs.length : Nat) by omega)]
    rfl
  have h2 : (rs.map rowD).all (isRow rs.length) = true := List.all_eq_true.mpr fun x hx => by
    obtain ⟨r, hr, rfl⟩ := List.mem_map.mp hx
    obtain ⟨g1, g2, g3⟩ := ok.lt r hr
    show (isSt _ _ && isSt _ _ && isSt _ _) = true
    rw [si g1, si g2, si g3]
    rfl
  have h3 : accOk rs.length (acc.map iD) = true := by
    refine accs_all (is := acc.map fun n : Nat => (n : Int)) (by rw [List.map_map]; rfl) (fun x hx => ?_) (nodup_mapOn nd fun a _ b _ e => Int.ofNat_inj.mp e)
    obtain ⟨a, ha, rfl⟩ := List.mem_map.mp hx
    exact si (lt a ha)
  show (!(rs.map rowD).isEmpty && (rs.map rowD).all (isRow (rs.map rowD).length) && accOk (rs.map rowD).length (acc.map iD)) = true
  rw [List.length_map, h1, h2, h3]
  rfl
theorem mem_acc {fl : List Bool} {a : Nat} : a ∈ accOf fl ↔ fl.getD a false = true := by
  unfold accOf
  rw [List.mem_filter, List.mem_range]
  refine ⟨fun h => h.2, fun h => ⟨?_, h⟩⟩
  by_cases hl : a < fl.length
  · exact hl
  · rw [List.getD_eq_getElem?_getD, List.getElem?_eq_none (by omega)] at h
    cases h
theorem acc_lt {fl : List Bool} : ∀ a ∈ accOf fl, a < fl.length := fun a h => by
  unfold accOf at h
  exact List.mem_range.mp (List.mem_filter.mp h).1
theorem acc_asc {fl : List Bool} : (accOf fl).Pairwise (· < ·) := by
  unfold accOf
  exact List.Pairwise.filter _ List.pairwise_lt_range
theorem acc_nd {fl : List Bool} : (accOf fl).Nodup := by
  rw [List.nodup_iff_pairwise_ne]
  exact acc_asc.imp fun h => Nat.ne_of_lt h
theorem acc_len {fl : List Bool} : (accOf fl).length ≤ fl.length := by
  unfold accOf
  exact Nat.le_trans (List.length_filter_le _ _) (Nat.le_of_eq List.length_range)
theorem fl_at {n : Nat} {acc : List Nat} {q : Nat} (h : q < n) : (flOf n acc).getD q false = decide (q ∈ acc) := by
  unfold flOf
  rw [List.getD_eq_getElem?_getD, List.getElem?_map, List.getElem?_range h]
  rfl
theorem fl_acc {fl : List Bool} : flOf fl.length (accOf fl) = fl := by
  apply List.ext_getElem?
  intro i
  by_cases h : i < fl.length
  · have e := fl_at (acc := accOf fl) h
    have g : fl.getD i false = fl[i] := by
      rw [List.getD_eq_getElem?_getD, List.getElem?_eq_getElem h]
      rfl
    have hl : i < (flOf fl.length (accOf fl)).length := by rw [flOf_len]; exact h
    rw [List.getD_eq_getElem?_getD, List.getElem?_eq_getElem hl] at e
    rw [List.getElem?_eq_getElem h, List.getElem?_eq_getElem hl]
    congr 1
    have e : (flOf fl.length (accOf fl))[i] = decide (i ∈ accOf fl) := e
    rw [e, Bool.eq_iff_iff, decide_eq_true_eq, mem_acc, g]
  · rw [List.getElem?_eq_none (by rw [flOf_len]; omega), List.getElem?_eq_none (by omega)]

end
section
variable {P : Program} {w : World} {K : PySem.W.Frag} {mg : Str → Option Value} {base : Heap}
abbrev s__law_set : Stmt := topS 47
theorem sc__law_set : FnScope ["_law_table_here"] ["_law_table_here"] (defScope s__law_set) := ⟨rfl, rfl, rfl, by decide +kernel, rfl, by decide +kernel, by decide +kernel⟩
def spd__law_set (aP : Addr) : Spd := fun bs R _ => ∃ rs acc, bs = [.p (tabD rs acc)] ∧ RowsOk rs ∧ acc.Nodup ∧ (∀ a ∈ acc, a < rs.length) ∧ R (.o (pairD aP rs (flOf rs.length acc))) 0
theorem cal__law_set (Da : DefAt K mg "_law_set" s__law_set) {a_PairSet aI : Addr} (mk_PairSet_2 : MakC P w K mg base "PairSet" a_PairSet 5 ["self", "rows", "accepting"] [] (spi_PairSet a_PairSet aI)) (m_list : mg "list" = none) : Cal P w K mg base "_law_set" 7 ["_law_table_here"] (spd__law_set a_PairSet) := by
  refine cal_mk none Da sc__law_set (fun _ _ _ _ _ _ us hl => match us, hl with | [_], _ => rfl) (fun bs R E h => ?_) (fun bs R E h => ?_) fun f cdv A outer s H E W bs R ED gu hr te h fh => ?_
  · obtain ⟨rs, acc, rfl, ok, na, lt, q⟩ := h
    rfl
  · obtain ⟨rs, acc, rfl, ok, na, lt, q⟩ := h
    exact pur_none (by simp [B.own])
  · obtain ⟨rs, acc, rfl, ok, na, lt, q⟩ := h
    have nd := sc__law_set.nd
    have hu := hr.units
    refine ⟨_, (dss_one (ds_ret (de_make mk_PairSet_2 gu hr (da_cons (de_callTy call_list_of rc_list rfl m_list bt_list (da_cons (de_ixN 0 hu de_int (fun _ _ => rfl)) da_nil)) (da_cons (de_callTy call_list_of rc_list rfl m_list bt_list (da_cons (de_ixN 0 hu de_int (fun _ _ => rfl)) da_nil)) da_nil))))), ?_⟩
    have la : acc.length ≤ 4095 := by
      have := OrdOk.len ⟨na, lt⟩
      have := ok.le
      omega
    simp only [zM, tabD, at_0, at_1]
    refine ⟨_, _, _, rfl, rfl, rfl, tab_mch ok la, .inl ⟨tab_mach ok na lt, rs, acc, rfl, rfl, ok, na, la, rfl, 0, q⟩⟩
end
section
variable {P : Program} {w : World} {K : PySem.W.Frag} {mg : Str → Option Value} {base : Heap}

def mcD (rs : List MRow) (fl : List Bool) : D := .tup [.tup (rs.map rowD), .tup (fl.map bD)]
def tblD (t : Bool → Bool → Bool) : D := .tup [.bl (t false false), .bl (t false true), .bl (t true false), .bl (t true true)]
def jfl (t : Bool → Bool → Bool) (os : List PairN) (f1 f2 : List Bool) : List Bool := os.map fun x => t (f1.getD x.1 false) (f2.getD x.2 false)
theorem jfl_len {t : Bool → Bool → Bool} {os : List PairN} {f1 f2 : List Bool} : (jfl t os f1 f2).length = os.length := by
  unfold jfl
  rw [List.length_map]
theorem bl_at {fl : List Bool} {q : Nat} (h : q < fl.length) : atI (fl.map bD) (q : Nat) = some (.bl (fl.getD q false)) := by
  refine atI_map (f := bD) ?_
  rw [List.getD_eq_getElem?_getD, List.getElem?_eq_getElem h]
  rfl

abbrev s_product : Stmt := topS 25
theorem sc_product : FnScope ["one", "other", "table", "pairs", "place", "rows", "at", "first", "second", "row", "mark", "pair"] ["one", "other", "table"] (defScope s_product) := ⟨rfl, rfl, rfl, by decide +kernel, rfl, by decide +kernel, by decide +kernel⟩
def spd_product  : Spd := fun bs R _ => ∃ (r1 r2 : List MRow) (f1 f2 : List Bool) (t : Bool → Bool → Bool), bs = [.p (mcD r1 f1), .p (mcD r2 f2), .p (tblD t)] ∧ RowsOk r1 ∧ RowsOk r2 ∧ f1.length = r1.length ∧ f2.length = r2.length ∧ r1.length * r2.length ≤ 1000000 ∧ ∀ os rows, Joined r1 r2 os rows → R (.p (.tup [.lst (rows.map rowD), .lst ((jfl t os f1 f2).map bD)])) 0
theorem cal_product (Da : DefAt K mg "product" s_product) (m_range : mg "range" = none) (m_len : mg "len" = none) (m_int : mg "int" = none) : Cal P w K mg base "product" 2 ["one", "other", "table"] spd_product := by
  refine cal_mk none Da sc_product (fun _ _ _ _ _ _ us hl => match us, hl with | [_, _, _], _ => rfl) (fun bs R E h => ?_) (fun bs R E h => ?_) fun f cdv A outer s H E W bs R ED gu hr te h fh => ?_
  · obtain ⟨r1, r2, f1, f2, t, rfl, ok1, ok2, l1, l2, hb, q⟩ := h
    rfl
  · obtain ⟨r1, r2, f1, f2, t, rfl, ok1, ok2, l1, l2, hb, q⟩ := h
    exact pur_none (by simp [B.own])
  · obtain ⟨r1, r2, f1, f2, t, rfl, ok1, ok2, l1, l2, hb, q⟩ := h
    have nd := sc_product.nd
    have hu := hr.units
    have ps := passes_of (X := cxOf (L2N.CX P w) P w K mg base ["one", "other", "table", "pairs", "place", "rows", "at", "first", "second", "row", "mark", "pair"] "product" (defScope s_product) f cdv A outer s H E) rfl
    refine ⟨_, (dss_cons (ds_set (i := 3) nd rfl (by first | exact Or.inl rfl | exact Or.inr rfl) (de_lst (da_cons (de_tup (da_cons de_int (da_cons de_int da_nil))) da_nil))) (dss_cons (ds_set (i := 4) nd rfl (by first | exact Or.inl rfl | exact Or.inr rfl) (de_dctT hu (fun _ => (de_tup (da_cons de_int (da_cons de_int da_nil)))) (fun _ => de_int))) (dss_cons (ds_set (i := 5) nd rfl (by first | exact Or.inl rfl | exact Or.inr rfl) (de_lst da_nil)) (dss_cons (ds_set (i := 6) nd rfl (by first | exact Or.inl rfl | exact Or.inr rfl) de_int) (dss_cons (ds_while ps (dt_cmp op_lt rd_intB0 (de_v 6) (de_lenN 3 m_len) rfl) (dss_cons (ds_asg (de_ixN 3 hu (de_v 6) (fun _ _ => rfl)) (dg_tup (n := 2) rfl (dgs_cons (dg_name (i := 7) nd rfl (by first | exact Or.inl rfl | exact Or.inr rfl)) (dgs_cons (dg_name (i := 8) nd rfl (by first | exact Or.inl rfl | exact Or.inr rfl)) dgs_nil)))) (dss_cons (ds_set (i := 9) nd rfl (by first | exact Or.inl rfl | exact Or.inr rfl) (de_lst da_nil)) (dss_cons (ds_forR ps rfl (di_range1 rfl m_range (da_cons de_int da_nil)) (dg_name (i := 10) nd rfl (by first | exact Or.inl rfl | exact Or.inr rfl)) (dss_cons (ds_set (i := 11) nd rfl (by first | exact Or.inl rfl | exact Or.inr rfl) (de_tup (da_cons (de_ix2 hu (de_ix2 hu (de_ixN 0 hu de_int (fun _ _ => rfl)) (de_v 7) fun _ _ => rfl) (de_v 10) fun _ _ => rfl) (da_cons (de_ix2 hu (de_ix2 hu (de_ixN 1 hu de_int (fun _ _ => rfl)) (de_v 8) fun _ _ => rfl) (de_v 10) fun _ _ => rfl) da_nil)))) (dss_cons (ds_if (dt_cmpR 4 (op_notInX hu) rl_in (de_v 11)) (dss_cons (ds_putN 4 hu (de_lenN 3 m_len) (de_v 11)) (dss_one (ds_append (i := 3) rfl (by first | exact Or.inl rfl | exact Or.inr (Or.inl rfl)) (de_v 11) (hpe := fun ta h => pe_bm PySem.F.plainAttrs_list PySem.F.slot_list_append PySem.F.type_list_append mt_append (pv 3) (pa_cons h pa_nil))))) dss_nil) (dss_one (ds_append (i := 9) rfl (by first | exact Or.inl rfl | exact Or.inr (Or.inl rfl)) (de_ixN 4 hu (de_v 11) (fun _ _ => rfl)) (hpe := fun ta h => pe_bm PySem.F.plainAttrs_list PySem.F.slot_list_append PySem.F.type_list_append mt_append (pv 9) (pa_cons h pa_nil))))))) (dss_cons (ds_append (i := 5) rfl (by first | exact Or.inl rfl | exact Or.inr (Or.inl rfl)) (de_tup (da_cons (de_ixN 9 hu de_int (fun _ _ => rfl)) (da_cons (de_ixN 9 hu de_int (fun _ _ => rfl)) (da_cons (de_ixN 9 hu de_int (fun _ _ => rfl)) da_nil)))) (hpe := fun ta h => pe_bm PySem.F.plainAttrs_list PySem.F.slot_list_append PySem.F.type_list_append mt_append (pv 5) (pa_cons h pa_nil))) (dss_one (ds_set (i := 6) nd rfl (by first | exact Or.inl rfl | exact Or.inr rfl) (de_op op_addAll rd_add (de_v 6) de_int)))))))) (dss_one (ds_ret (de_tup (da_cons (de_v 5) (da_cons (de_lc rfl nd (di_any (de_v 3)) (own := [("first", 7), ("second", 8)]) (blkOk_by (by kernel_rfl)) (fun _ _ _ _ _ _ => (dgc_tup (n := 2) rfl (dgcs_cons (dgc_name (i := 7) (by decide) nd rfl (by first | exact Or.inl rfl | exact Or.inr rfl)) (dgcs_cons (dgc_name (i := 8) (by decide) nd rfl (by first | exact Or.inl rfl | exact Or.inr rfl)) dgcs_nil)))) (fun _ _ _ _ _ _ => dts_nil) (fun _ _ _ _ _ _ => (de_ixN 2 hu (de_op op_addAll rd_add (de_op op_mulAll rd_mul de_int (de_callTy call_int1 rc_int rfl m_int bt_int (da_cons (de_ix2 hu (de_ixN 0 hu de_int (fun _ _ => rfl)) (de_v 7) fun _ _ => rfl) da_nil))) (de_callTy call_int1 rc_int rfl m_int bt_int (da_cons (de_ix2 hu (de_ixN 1 hu de_int (fun _ _ => rfl)) (de_v 8) fun _ _ => rfl) da_nil))) (fun _ _ => rfl)))) da_nil)))))))))), ?_⟩
    refine dseq ?_
    simp only [zM]
    refine dseq ?_
    simp only [zM]
    refine dseq ?_
    simp only [zM]
    refine dseq ?_
    simp only [zM]
    refine dseq ?_
    refine while_inv (fun m δ => ∃ os rows x7 x8 x9 x10 x11, Join r1 r2 os rows ∧ m + rows.length = r1.length * r2.length ∧ δ = [some (.p (mcD r1 f1)), some (.p (mcD r2 f2)), some (.p (tblD t)), some (.o (.lst (os.map pD))), some (.o (.dcT (os.map kyP) (idsD os.length))), some (.o (.lst (rows.map rowD))), some (.p (.int (rows.length : Nat))), x7, x8, x9, x10, x11]) (fun m δ hI N hN => ?_) (m := r1.length * r2.length) ⟨[(0, 0)], [], none, none, none, none, none, ⟨Nat.zero_le _, by simp, rfl, fun x hx => (by rw [List.mem_singleton.mp hx]; exact ⟨ok1.pos, ok2.pos⟩), fun x hx => ⟨[], fun _ h => (by cases h), List.mem_singleton.mp hx⟩, fun i hi => (by cases hi)⟩, by simp, rfl⟩
    obtain ⟨os, rows, x7, x8, x9, x10, x11, J, hm, rfl⟩ := hI
    have hle := J.le
    simp only [zM]
    by_cases hlt : rows.length < os.length
    · rw [if_pos (show ((rows.length : Nat) : Int) < (os.length : Nat) by omega)]
      refine dseq ?_
      have hx := List.getElem?_eq_getElem hlt
      have xm := List.getElem_mem hlt
      generalize os[rows.length] = x at hx xm
      have xl := J.lt x xm
      simp only [zM]
      refine ⟨_, atI_map hx, ?_⟩
      simp only [zM, pD]
      refine dseq ?_
      simp only [zM]
      refine dseq ?_
      simp only [zM]
      refine ⟨by decide, by decide, ?_⟩
      refine forL_ds (fun p δ => ∃ (O : List PairN) (as : List Nat) (y10 y11 : Option B), (∃ t, O = os ++ t) ∧ Grow r1 r2 O ∧ as.length = p.length ∧ p.length ≤ 3 ∧ (∀ j a, as[j]? = some a → O[a]? = some (aft r1 r2 x j)) ∧ δ = [some (.p (mcD r1 f1)), some (.p (mcD r2 f2)), some (.p (tblD t)), some (.o (.lst (O.map pD))), some (.o (.dcT (O.map kyP) (idsD O.length))), some (.o (.lst (rows.map rowD))), some (.p (.int (rows.length : Nat))), some (.p (.int (x.1 : Nat))), some (.p (.int (x.2 : Nat))), some (.o (.lst (as.map iD))), y10, y11]) (fun p d r δ e hI M hM => ?_) (fun δ hI => ?_) ⟨os, [], x10, x11, ⟨[], (List.append_nil _).symm⟩, ⟨J.nd, J.lt, J.rch⟩, rfl, by decide, fun j a h => (by cases h), rfl⟩
      · obtain ⟨O, as, y10, y11, ⟨t', et⟩, G, hal, hp3, hat, rfl⟩ := hI
        obtain ⟨rfl, hp⟩ := upto_at (n := 3) e
        have hgl := pairs_le G.nd G.lt
        have xt : x ∈ O := by
          rw [et]
          exact List.mem_append_left _ xm
        have G' := G.add ok1 ok2 xt hp
        simp only [zM]
        refine dseq ?_
        simp only [zM, mcD, at_0]
        refine ⟨_, row_at ok1 xl.1, _, row_k hp, _, row_at ok2 xl.2, _, row_k hp, dseq ?_⟩
        simp only [zM]
        by_cases hy : aft r1 r2 x p.length ∈ O
        · have lk := pl_get G.nd hy
          rw [show lookG (O.map kyP) (idsD O.length) [Sum.inl ((nxt r1 x.1 p.length : Nat) : Int), Sum.inl ((nxt r2 x.2 p.length : Nat) : Int)] = some (iD (plP O (aft r1 r2 x p.length))) from lk]
          refine iteF ⟨_, rfl, by omega, hM _ ⟨O, as ++ [plP O (aft r1 r2 x p.length)], _, _, ⟨t', et⟩, G, by rw [len_snoc, len_snoc, hal], by rw [len_snoc]; omega, fun j a h => ?_, by rw [List.map_append]; rfl⟩⟩
          by_cases hj : j < as.length
          · rw [List.getElem?_append_left hj] at h
            exact hat j a h
          · have hj2 := (List.getElem?_eq_some_iff.mp h).1
            rw [len_snoc] at hj2
            have : j = as.length := by omega
            subst this
            rw [List.getElem?_append_right (Nat.le_refl _), Nat.sub_self] at h
            cases h
            rw [hal]
            exact plP_at hy
        · have lk := pl_no hy
          rw [show lookG (O.map kyP) (idsD O.length) [Sum.inl ((nxt r1 x.1 p.length : Nat) : Int), Sum.inl ((nxt r2 x.2 p.length : Nat) : Int)] = none from lk]
          refine iteT (dseq ?_)
          simp only [zM]
          have e' : addP O (aft r1 r2 x p.length) = O ++ [aft r1 r2 x p.length] := addP_out hy
          have G2 : Grow r1 r2 (O ++ [aft r1 r2 x p.length]) := by
            rw [← e']
            exact G'
          have gl2 := pairs_le G2.nd G2.lt
          have ym : aft r1 r2 x p.length ∈ O ++ [aft r1 r2 x p.length] := List.mem_append_right _ List.mem_cons_self
          have pp := pl_put hy
          refine ⟨.dcT ((O ++ [aft r1 r2 x p.length]).map kyP) (idsD (O ++ [aft r1 r2 x p.length]).length), ?_, by omega, iD (plP (O ++ [aft r1 r2 x p.length]) (aft r1 r2 x p.length)), pl_get G2.nd ym, by omega, hM _ ⟨O ++ [aft r1 r2 x p.length], as ++ [plP (O ++ [aft r1 r2 x p.length]) (aft r1 r2 x p.length)], _, _, ⟨t' ++ [aft r1 r2 x p.length], by rw [et, List.append_assoc]⟩, G2, by rw [len_snoc, len_snoc, hal], by rw [len_snoc]; omega, fun j a h => ?_, by rw [List.map_append, List.map_append, List.map_append]; rfl⟩⟩
          · rw [if_pos (by omega)]
            show some (D.dcT (putG (O.map kyP) (idsD O.length) (kyP (aft r1 r2 x p.length)) (iD O.length)).1 (putG (O.map kyP) (idsD O.length) (kyP (aft r1 r2 x p.length)) (iD O.length)).2) = _
            rw [pp]
          · by_cases hj : j < as.length
            · rw [List.getElem?_append_left hj] at h
              have g := hat j a h
              rw [List.getElem?_append_left (List.getElem?_eq_some_iff.mp g).1]
              exact g
            · have hj2 := (List.getElem?_eq_some_iff.mp h).1
              rw [len_snoc] at hj2
              have : j = as.length := by omega
              subst this
              rw [List.getElem?_append_right (Nat.le_refl _), Nat.sub_self] at h
              cases h
              rw [hal]
              exact plP_at ym
      · obtain ⟨O, as, y10, y11, ⟨t', rfl⟩, G, hal, hp3, hat, rfl⟩ := hI
        rw [show (upto 0 (Int.toNat 3)).length = 3 from upto_ln (n := 3)] at hal
        match as, hal, hat with
        | [a, b, c], _, hat =>
          have JJ := J.step hx G (hat 0 a rfl) (hat 1 b rfl) (hat 2 c rfl)
          simp only [zM]
          refine dseq ?_
          simp only [zM]
          refine ⟨_, rfl, _, rfl, _, rfl, by omega, ?_⟩
          exact hN (m - 1) _ (by omega) ⟨os ++ t', rows ++ [(a, b, c)], _, _, _, _, _, JJ, by rw [len_snoc]; omega, by rw [List.map_append (f := rowD), List.length_append, len_snoc]; rfl⟩
    · rw [if_neg (show ¬ ((rows.length : Nat) : Int) < (os.length : Nat) by omega)]
      have JJ := J.done hlt
      refine lcL_allA pD (fun x => bD (t (f1.getD x.1 false) (f2.getD x.2 false))) (fun x => [some (.p (mcD r1 f1)), some (.p (mcD r2 f2)), some (.p (tblD t)), some (.p (.lst (os.map pD))), some (.o (.dcT (os.map kyP) (idsD os.length))), some (.p (.lst (rows.map rowD))), some (.p (.int (rows.length : Nat))), some (.p (.int (x.1 : Nat))), some (.p (.int (x.2 : Nat))), x9, x10, x11]) (fun x hx Y N y => ?_) (fun x hx => rfl) (by rw [List.length_nil, sizeLine_eq]; omega) ?_
      · have xl := J.lt x hx
        have b1 := bl_at (fl := f1) (q := x.1) (by omega)
        have b2 := bl_at (fl := f2) (q := x.2) (by omega)
        simp only [zM, dYes, pD, mcD, tblD, at_1, b1, b2]

        unfold bD at y
        cases h1 : f1.getD x.1 false <;> cases h2 : f2.getD x.2 false <;> rw [h1, h2] at y <;> exact ⟨by show _ < 1000000; decide, _, rfl, y⟩
      · rw [List.nil_append]
        have z := q os rows JJ
        unfold jfl at z
        rw [List.map_map] at z
        exact ⟨0, z⟩
end
section
variable {P : Program} {w : World} {K : PySem.W.Frag} {mg : Str → Option Value} {base : Heap}

theorem lst_small {rs : List MRow} {fl : List Bool} (ok : RowsOk rs) : (lstR rs fl).length ≤ rs.length := by
  unfold lstR
  rw [renR_len]
  refine Nat.le_trans (met_ok (jnR_ok ok)).len ?_
  rw [jnR_len, renR_len]
  exact (met_ok ok).len
theorem sh_row (r : MRow) : Sh 1 (rowD r) := sh_tup fun d hd => by
  simp only [List.mem_cons, List.not_mem_nil, or_false] at hd
  rcases hd with rfl | rfl | rfl <;> exact sh_int
def Within (r1 : List MRow) (f1 : List Bool) (r2 : List MRow) (f2 : List Bool) : Prop := ∀ w, lang r1 f1 w = true → lang r2 f2 w = true
theorem inD_bl {fl : List Bool} : inD (.bl true) (fl.map bD) = decide (true ∈ fl) := by
  unfold inD inV
  rw [Bool.eq_iff_iff, decide_eq_true_eq, List.any_eq_true]
  constructor
  · rintro ⟨v, hv, h⟩
    obtain ⟨d, hd, rfl⟩ := List.mem_map.mp hv
    obtain ⟨b, hb, rfl⟩ := List.mem_map.mp hd
    cases b with
    | true => exact hb
    | false => cases h
  · intro h
    exact ⟨.bl true, List.mem_map.mpr ⟨bD true, List.mem_map.mpr ⟨true, h, rfl⟩, rfl⟩, rfl⟩
theorem flat_bl {fl : List Bool} : (fl.map bD).all flatD = true := List.all_eq_true.mpr fun d hd => by
  obtain ⟨b, _, rfl⟩ := List.mem_map.mp hd
  rfl
theorem in_bl {fl : List Bool} : (if (flatD (.bl true) && (fl.map bD).all flatD) = true then some (inD (.bl true) (fl.map bD)) else none) = some (decide (true ∈ fl)) := by
  rw [flat_bl, inD_bl]
  rfl
theorem within_jfl {r1 r2 : List MRow} {os : List PairN} {rows : List MRow} {f1 f2 : List Bool} (J : Joined r1 r2 os rows) : true ∉ jfl (fun a b => a && !b) os f1 f2 ↔ Within r1 f1 r2 f2 := by
  constructor
  · intro h w hw
    have hx := joined_run J _ w rfl
    cases e : lang r2 f2 w with
    | true => rfl
    | false =>
      refine absurd (List.mem_map.mpr ⟨_, List.mem_of_getElem? hx, ?_⟩) h
      unfold lang at hw e
      show ((f1.getD (mrun r1 0 w) false) && !(f2.getD (mrun r2 0 w) false)) = true
      rw [hw, e]
      rfl
  · intro h z
    obtain ⟨x, hx, e⟩ := List.mem_map.mp z
    obtain ⟨w, _, rfl⟩ := J.rch x hx
    have e : ((f1.getD (mrun r1 0 w) false) && !(f2.getD (mrun r2 0 w) false)) = true := e
    rw [Bool.and_eq_true] at e
    have := h w e.1
    unfold lang at this
    rw [this] at e
    cases e.2
theorem Ex_row (r s : MRow) : Ex 1 (rowD r) (rowD s) := ex_tup (fun c hc d hd => by
  simp only [List.mem_cons, List.not_mem_nil, or_false] at hc hd
  rcases hc with rfl | rfl | rfl <;> rcases hd with rfl | rfl | rfl <;> exact ex_int) (fun c hc => by
  simp only [List.mem_cons, List.not_mem_nil, or_false] at hc
  rcases hc with rfl | rfl | rfl <;> exact sh_int) (fun c hc => by
  simp only [List.mem_cons, List.not_mem_nil, or_false] at hc
  rcases hc with rfl | rfl | rfl <;> exact sh_int)
theorem rows_inj {rs rs' : List MRow} (h : rs.map rowD = rs'.map rowD) : rs = rs' := List.map_inj_right (fun a b e => rowD_inj e) |>.mp h
theorem bls_inj {f f' : List Bool} (h : f.map bD = f'.map bD) : f = f' := List.map_inj_right (fun a b e => by cases e; rfl) |>.mp h
theorem ex_mac (r1 r2 : List MRow) (f1 f2 : List Bool) : ∃ b, eqD (.tup [.tup (r1.map rowD), .tup (f1.map bD)]) (.tup [.tup (r2.map rowD), .tup (f2.map bD)]) = some b ∧ (b = true ↔ r1 = r2 ∧ f1 = f2) := by
  have shr : ∀ r : List MRow, Sh 2 (.tup (r.map rowD)) := fun r => sh_tup fun d hd => by
    obtain ⟨x, _, rfl⟩ := List.mem_map.mp hd
    exact sh_row x
  have shb : ∀ f : List Bool, Sh 2 (.tup (f.map bD)) := fun f => (sh_tup (k := 0) fun d hd => by
    obtain ⟨x, _, rfl⟩ := List.mem_map.mp hd
    exact sh_bl).mono (by decide)
  have rr : ∀ r r' : List MRow, Ex 2 (.tup (r.map rowD)) (.tup (r'.map rowD)) := fun r r' => ex_tup (fun c hc d hd => by
    obtain ⟨x, _, rfl⟩ := List.mem_map.mp hc
    obtain ⟨y, _, rfl⟩ := List.mem_map.mp hd
    exact Ex_row x y) (fun d hd => by
    obtain ⟨x, _, rfl⟩ := List.mem_map.mp hd
    exact sh_row x) (fun d hd => by
    obtain ⟨x, _, rfl⟩ := List.mem_map.mp hd
    exact sh_row x)
  have bb : ∀ f f' : List Bool, Ex 2 (.tup (f.map bD)) (.tup (f'.map bD)) := fun f f' => (ex_tup (k := 0) (fun c hc d hd => by
    obtain ⟨x, _, rfl⟩ := List.mem_map.mp hc
    obtain ⟨y, _, rfl⟩ := List.mem_map.mp hd
    exact ex_bl) (fun d hd => by
    obtain ⟨x, _, rfl⟩ := List.mem_map.mp hd
    exact sh_bl) (fun d hd => by
    obtain ⟨x, _, rfl⟩ := List.mem_map.mp hd
    exact sh_bl)).mono (by decide)
  have rb : ∀ (r : List MRow) (f : List Bool), Ex 2 (.tup (r.map rowD)) (.tup (f.map bD)) := fun r f => ex_tup (fun c hc d hd => by
    obtain ⟨x, _, rfl⟩ := List.mem_map.mp hc
    obtain ⟨y, _, rfl⟩ := List.mem_map.mp hd
    exact ex_kind (sh_row x) (sh_bl.mono (by decide)) (fun e => by cases e)) (fun d hd => by
    obtain ⟨x, _, rfl⟩ := List.mem_map.mp hd
    exact sh_row x) (fun d hd => by
    obtain ⟨x, _, rfl⟩ := List.mem_map.mp hd
    exact sh_bl.mono (by decide))
  have br : ∀ (r : List MRow) (f : List Bool), Ex 2 (.tup (f.map bD)) (.tup (r.map rowD)) := fun r f => ex_tup (fun c hc d hd => by
    obtain ⟨x, _, rfl⟩ := List.mem_map.mp hc
    obtain ⟨y, _, rfl⟩ := List.mem_map.mp hd
    exact ex_kind (sh_bl.mono (by decide)) (sh_row y) (fun e => by cases e)) (fun d hd => by
    obtain ⟨x, _, rfl⟩ := List.mem_map.mp hd
    exact sh_bl.mono (by decide)) (fun d hd => by
    obtain ⟨x, _, rfl⟩ := List.mem_map.mp hd
    exact sh_row x)
  have all : Ex 3 (.tup [.tup (r1.map rowD), .tup (f1.map bD)]) (.tup [.tup (r2.map rowD), .tup (f2.map bD)]) := ex_tup (fun c hc d hd => by
    simp only [List.mem_cons, List.not_mem_nil, or_false] at hc hd
    rcases hc with rfl | rfl <;> rcases hd with rfl | rfl
    · exact rr _ _
    · exact rb _ _
    · exact br _ _
    · exact bb _ _) (fun c hc => by
    simp only [List.mem_cons, List.not_mem_nil, or_false] at hc
    rcases hc with rfl | rfl
    · exact shr _
    · exact shb _) (fun c hc => by
    simp only [List.mem_cons, List.not_mem_nil, or_false] at hc
    rcases hc with rfl | rfl
    · exact shr _
    · exact shb _)
  obtain ⟨b, h1, h2⟩ := all.eq (by decide)
  refine ⟨b, h1, h2.trans ⟨fun e => ?_, fun e => by rw [e.1, e.2]⟩⟩
  simp only [D.tup.injEq, List.cons.injEq, and_true] at e
  exact ⟨rows_inj e.1, bls_inj e.2⟩
def AskP (aP aS : Addr) (S : List MRow → List Bool → List MRow → List Bool → Prop) (m d : D) (R : B → Nat → Prop) (E : Addr → List D → Nat → Prop) : Prop :=
  ∃ r1 f1, m = macD aP r1 f1 ∧ RowsOk r1 ∧ f1.length = r1.length ∧ ((∃ r2 f2, d = macD aP r2 f2 ∧ RowsOk r2 ∧ f2.length = r2.length ∧ r1.length * r2.length ≤ 1000000 ∧ ∀ b : Bool, (b = true ↔ S r1 f1 r2 f2) → R (.p (.bl b)) 0) ∨ (dat d = true ∧ E aS [d] 0))
theorem AskP.imp {aP aS : Addr} {S S' : List MRow → List Bool → List MRow → List Bool → Prop} {m d : D} {R R' : B → Nat → Prop} {E E' : Addr → List D → Nat → Prop} (h : AskP aP aS S m d R E) (hS : ∀ r1 f1 r2 f2, S r1 f1 r2 f2 ↔ S' r1 f1 r2 f2) (f : ∀ b : Bool, R (.p (.bl b)) 0 → R' (.p (.bl b)) 0) (g : E aS [d] 0 → E' aS [d] 0) : AskP aP aS S' m d R' E' := by
  obtain ⟨r1, f1, e, ok, l, h⟩ := h
  refine ⟨r1, f1, e, ok, l, ?_⟩
  rcases h with ⟨r2, f2, e2, ok2, l2, hb, h⟩ | ⟨hd, h⟩
  · exact .inl ⟨r2, f2, e2, ok2, l2, hb, fun b hbS => f _ (h b (hbS.trans (hS r1 f1 r2 f2).symm))⟩
  · exact .inr ⟨hd, g h⟩

abbrev s_is_within : Stmt := topS 38
theorem sc_is_within : FnScope ["one", "other"] ["one", "other"] (defScope s_is_within) := ⟨rfl, rfl, rfl, by decide +kernel, rfl, by decide +kernel, by decide +kernel⟩
def spd_is_within (aP aS : Addr) : Spd := fun bs R E => ∃ m d, bs = [.p m, .p d] ∧ AskP aP aS (Within) m d R E
theorem cal_is_within (Da : DefAt K mg "is_within" s_is_within) {a_PairSet : Addr} (c_product : Cal P w K mg base "product" 2 ["one", "other", "table"] spd_product) {aS fS : Addr} (o_InvalidSet : OwnX P K aS fS) (m_InvalidSet : mg "InvalidSet" = some (.ref aS)) (c_PairSet : ConAt K mg "PairSet" (.ref a_PairSet)) (io_PairSet : InsOk K a_PairSet) (nk_PairSet : NoKit K a_PairSet) (fo_m : FldOk K a_PairSet "machine") (m_isinstance : mg "isinstance" = none) : Cal P w K mg base "is_within" 3 ["one", "other"] (spd_is_within a_PairSet aS) := by
  refine cal_mk none Da sc_is_within (fun _ _ _ _ _ _ us hl => match us, hl with | [_, _], _ => rfl) (fun bs R E h => ?_) (fun bs R E h => ?_) fun f cdv A outer s H E W bs R ED gu hr te h fh => ?_
  · obtain ⟨m, d, rfl, r1, f1, rfl, ok1, l1, q⟩ := h
    rfl
  · obtain ⟨m, d, rfl, r1, f1, rfl, ok1, l1, q⟩ := h
    exact pur_none (by simp [B.own])
  · obtain ⟨m, d, rfl, r1, f1, rfl, ok1, l1, q⟩ := h
    have nd := sc_is_within.nd
    have hu := hr.units
    refine ⟨_, (dss_cons (ds_if (dt_not (dt_val (he := fun _ => rfl) (de_callB call_isZ (rc_isa (K := K)) rfl m_isinstance bt_isinstance (da_cons (de_v 1) (da_cons (de_con c_PairSet) da_nil))))) (dss_one (ds_raise te o_InvalidSet rfl hr rfl m_InvalidSet (da_cons (de_v 1) da_nil))) dss_nil) (dss_one (ds_ret (de_cmp op_notInAll rd_in de_bl (de_ix2 hu (de_c c_product gu hr (da_cons (de_fld (de_v 0)) (da_cons (de_fld (de_v 1)) (da_cons (de_tup (da_cons de_bl (da_cons de_bl (da_cons de_bl (da_cons de_bl da_nil))))) da_nil)))) de_int fun _ _ => rfl) rfl)))), ?_⟩
    refine dseq ?_
    simp only [zM, dRaise]
    rcases q with ⟨r2, f2, rfl, ok2, l2, hb, q⟩ | ⟨hd, q⟩
    · unfold macD
      simp only [zM, isa_ins io_PairSet kitOne_self]
      refine ⟨fo_m, fo_m, r1, r2, f1, f2, fun a b => a && !b, rfl, ok1, ok2, l1, l2, hb, fun os rows J => ?_⟩
      simp only [zM, at_0, at_1, inG, isIn]
      refine ⟨_, in_bl, 0, q _ ?_⟩
      show _ ↔ Within r1 f1 r2 f2
      rw [← within_jfl J]
      simp
    · simp only [zM, isa_no hd nk_PairSet]
      exact ⟨0, q⟩
abbrev s_is_over : Stmt := topS 39
theorem sc_is_over : FnScope ["one", "other"] ["one", "other"] (defScope s_is_over) := ⟨rfl, rfl, rfl, by decide +kernel, rfl, by decide +kernel, by decide +kernel⟩
def spd_is_over (aP aS : Addr) : Spd := fun bs R E => ∃ m d, bs = [.p m, .p d] ∧ AskP aP aS (fun r1 f1 r2 f2 => Within r2 f2 r1 f1) m d R E
theorem cal_is_over (Da : DefAt K mg "is_over" s_is_over) {a_PairSet : Addr} (c_product : Cal P w K mg base "product" 2 ["one", "other", "table"] spd_product) {aS fS : Addr} (o_InvalidSet : OwnX P K aS fS) (m_InvalidSet : mg "InvalidSet" = some (.ref aS)) (c_PairSet : ConAt K mg "PairSet" (.ref a_PairSet)) (io_PairSet : InsOk K a_PairSet) (nk_PairSet : NoKit K a_PairSet) (fo_m : FldOk K a_PairSet "machine") (m_isinstance : mg "isinstance" = none) : Cal P w K mg base "is_over" 3 ["one", "other"] (spd_is_over a_PairSet aS) := by
  refine cal_mk none Da sc_is_over (fun _ _ _ _ _ _ us hl => match us, hl with | [_, _], _ => rfl) (fun bs R E h => ?_) (fun bs R E h => ?_) fun f cdv A outer s H E W bs R ED gu hr te h fh => ?_
  · obtain ⟨m, d, rfl, r1, f1, rfl, ok1, l1, q⟩ := h
    rfl
  · obtain ⟨m, d, rfl, r1, f1, rfl, ok1, l1, q⟩ := h
    exact pur_none (by simp [B.own])
  · obtain ⟨m, d, rfl, r1, f1, rfl, ok1, l1, q⟩ := h
    have nd := sc_is_over.nd
    have hu := hr.units
    refine ⟨_, (dss_cons (ds_if (dt_not (dt_val (he := fun _ => rfl) (de_callB call_isZ (rc_isa (K := K)) rfl m_isinstance bt_isinstance (da_cons (de_v 1) (da_cons (de_con c_PairSet) da_nil))))) (dss_one (ds_raise te o_InvalidSet rfl hr rfl m_InvalidSet (da_cons (de_v 1) da_nil))) dss_nil) (dss_one (ds_ret (de_cmp op_notInAll rd_in de_bl (de_ix2 hu (de_c c_product gu hr (da_cons (de_fld (de_v 1)) (da_cons (de_fld (de_v 0)) (da_cons (de_tup (da_cons de_bl (da_cons de_bl (da_cons de_bl (da_cons de_bl da_nil))))) da_nil)))) de_int fun _ _ => rfl) rfl)))), ?_⟩
    refine dseq ?_
    simp only [zM, dRaise]
    rcases q with ⟨r2, f2, rfl, ok2, l2, hb, q⟩ | ⟨hd, q⟩
    · unfold macD
      simp only [zM, isa_ins io_PairSet kitOne_self]
      refine ⟨fo_m, fo_m, r2, r1, f2, f1, fun a b => a && !b, rfl, ok2, ok1, l2, l1, by rw [Nat.mul_comm]; exact hb, fun os rows J => ?_⟩
      simp only [zM, at_0, at_1, inG, isIn]
      refine ⟨_, in_bl, 0, q _ ?_⟩
      show _ ↔ Within r2 f2 r1 f1
      rw [← within_jfl J]
      simp
    · simp only [zM, isa_no hd nk_PairSet]
      exact ⟨0, q⟩
end
section
variable {P : Program} {w : World} {K : PySem.W.Frag} {mg : Str → Option Value} {base : Heap}
abbrev s_PairSet___le__ : Stmt := memS (topS 35) 9
theorem sc_PairSet___le__ : FnScope ["self", "other"] ["self", "other"] (defScope s_PairSet___le__) := ⟨rfl, rfl, rfl, by decide +kernel, rfl, by decide +kernel, by decide +kernel⟩
def spd_PairSet___le__ (aP aS : Addr) : Spd := fun bs R E => ∃ m d, bs = [.p m, .p d] ∧ AskP aP aS (Within) m d R E
theorem cal_PairSet___le__ {a_PairSet : Addr} (Da : MethAt K a_PairSet "__le__" "PairSet.__le__" s_PairSet___le__) {aS : Addr} (c_is_within : Cal P w K mg base "is_within" 3 ["one", "other"] (spd_is_within a_PairSet aS)) (fo_m : FldOk K a_PairSet "machine") : MethC P w K mg base a_PairSet "__le__" 4 ["self", "other"] (spd_PairSet___le__ a_PairSet aS) := by
  refine meth_mk Da sc_PairSet___le__ (fun _ _ _ _ _ _ us hl => match us, hl with | [_, _], _ => rfl) (fun bs R E h => ?_) (fun bs R E h => ?_) fun f cdv A outer s H E W bs R ED gu hr te h fh => ?_
  · obtain ⟨m, d, rfl, q⟩ := h
    rfl
  · obtain ⟨m, d, rfl, q⟩ := h
    exact pur_none (by simp [B.own])
  · obtain ⟨m, d, rfl, q⟩ := h
    have nd := sc_PairSet___le__.nd
    have hu := hr.units
    refine ⟨_, (dss_one (ds_ret (de_cX te c_is_within gu hr (da_cons (de_v 0) (da_cons (de_v 1) da_nil))))), ?_⟩
    simp only [zM]
    exact ⟨m, d, rfl, q.imp (fun _ _ _ _ => Iff.rfl) (fun b z => ⟨rfl, rfl, 0, z⟩) fun z => ⟨0, z⟩⟩
abbrev s_PairSet___ge__ : Stmt := memS (topS 35) 11
theorem sc_PairSet___ge__ : FnScope ["self", "other"] ["self", "other"] (defScope s_PairSet___ge__) := ⟨rfl, rfl, rfl, by decide +kernel, rfl, by decide +kernel, by decide +kernel⟩
def spd_PairSet___ge__ (aP aS : Addr) : Spd := fun bs R E => ∃ m d, bs = [.p m, .p d] ∧ AskP aP aS (fun r1 f1 r2 f2 => Within r2 f2 r1 f1) m d R E
theorem cal_PairSet___ge__ {a_PairSet : Addr} (Da : MethAt K a_PairSet "__ge__" "PairSet.__ge__" s_PairSet___ge__) {aS : Addr} (c_is_over : Cal P w K mg base "is_over" 3 ["one", "other"] (spd_is_over a_PairSet aS)) (fo_m : FldOk K a_PairSet "machine") : MethC P w K mg base a_PairSet "__ge__" 4 ["self", "other"] (spd_PairSet___ge__ a_PairSet aS) := by
  refine meth_mk Da sc_PairSet___ge__ (fun _ _ _ _ _ _ us hl => match us, hl with | [_, _], _ => rfl) (fun bs R E h => ?_) (fun bs R E h => ?_) fun f cdv A outer s H E W bs R ED gu hr te h fh => ?_
  · obtain ⟨m, d, rfl, q⟩ := h
    rfl
  · obtain ⟨m, d, rfl, q⟩ := h
    exact pur_none (by simp [B.own])
  · obtain ⟨m, d, rfl, q⟩ := h
    have nd := sc_PairSet___ge__.nd
    have hu := hr.units
    refine ⟨_, (dss_one (ds_ret (de_cX te c_is_over gu hr (da_cons (de_v 0) (da_cons (de_v 1) da_nil))))), ?_⟩
    simp only [zM]
    exact ⟨m, d, rfl, q.imp (fun _ _ _ _ => Iff.rfl) (fun b z => ⟨rfl, rfl, 0, z⟩) fun z => ⟨0, z⟩⟩
abbrev s_PairSet___lt__ : Stmt := memS (topS 35) 10
theorem sc_PairSet___lt__ : FnScope ["self", "other"] ["self", "other"] (defScope s_PairSet___lt__) := ⟨rfl, rfl, rfl, by decide +kernel, rfl, by decide +kernel, by decide +kernel⟩
def spd_PairSet___lt__ (aP aS : Addr) : Spd := fun bs R E => ∃ m d, bs = [.p m, .p d] ∧ AskP aP aS (fun r1 f1 r2 f2 => Within r1 f1 r2 f2 ∧ ¬ (r1 = r2 ∧ f1 = f2)) m d R E
theorem cal_PairSet___lt__ {a_PairSet : Addr} (Da : MethAt K a_PairSet "__lt__" "PairSet.__lt__" s_PairSet___lt__) {aS : Addr} (c_is_within : Cal P w K mg base "is_within" 3 ["one", "other"] (spd_is_within a_PairSet aS)) (fo_m : FldOk K a_PairSet "machine") : MethC P w K mg base a_PairSet "__lt__" 4 ["self", "other"] (spd_PairSet___lt__ a_PairSet aS) := by
  refine meth_mk Da sc_PairSet___lt__ (fun _ _ _ _ _ _ us hl => match us, hl with | [_, _], _ => rfl) (fun bs R E h => ?_) (fun bs R E h => ?_) fun f cdv A outer s H E W bs R ED gu hr te h fh => ?_
  · obtain ⟨m, d, rfl, r1, f1, rfl, ok1, l1, q⟩ := h
    rfl
  · obtain ⟨m, d, rfl, r1, f1, rfl, ok1, l1, q⟩ := h
    exact pur_none (by simp [B.own])
  · obtain ⟨m, d, rfl, r1, f1, rfl, ok1, l1, q⟩ := h
    have nd := sc_PairSet___lt__.nd
    have hu := hr.units
    refine ⟨_, (dss_one (ds_ret (de_and (de_cX te c_is_within gu hr (da_cons (de_v 0) (da_cons (de_v 1) da_nil))) (de_one (de_cmp (op_neAll hu) rd_ne (de_fld (de_v 0)) (de_fld (de_v 1)) rfl))))), ?_⟩
    simp only [zM]
    refine ⟨_, d, rfl, r1, f1, rfl, ok1, l1, ?_⟩
    rcases q with ⟨r2, f2, rfl, ok2, l2, hb, q⟩ | ⟨hd, q⟩
    · refine .inl ⟨r2, f2, rfl, ok2, l2, hb, fun b hbS => ?_⟩
      refine ⟨rfl, b, rfl, ?_⟩
      obtain ⟨e, h1, h2⟩ := ex_mac r1 r2 f1 f2
      cases b with
      | false =>
        refine iteF ⟨0, q false ?_⟩
        exact ⟨fun z => (by cases z), fun z => hbS.mpr z.1⟩
      | true =>
        refine iteT ?_
        unfold macD
        simp only [zM]
        refine ⟨fo_m, fo_m, e, h1, 0, q _ ?_⟩
        have w := hbS.mp rfl
        cases e with
        | true => exact ⟨fun z => (by cases z), fun z => absurd (h2.mp rfl) z.2⟩
        | false => exact ⟨fun _ => ⟨w, fun z => Bool.false_ne_true (h2.mpr z)⟩, fun _ => rfl⟩
    · exact .inr ⟨hd, 0, q⟩
abbrev s_PairSet___gt__ : Stmt := memS (topS 35) 12
theorem sc_PairSet___gt__ : FnScope ["self", "other"] ["self", "other"] (defScope s_PairSet___gt__) := ⟨rfl, rfl, rfl, by decide +kernel, rfl, by decide +kernel, by decide +kernel⟩
def spd_PairSet___gt__ (aP aS : Addr) : Spd := fun bs R E => ∃ m d, bs = [.p m, .p d] ∧ AskP aP aS (fun r1 f1 r2 f2 => Within r2 f2 r1 f1 ∧ ¬ (r1 = r2 ∧ f1 = f2)) m d R E
theorem cal_PairSet___gt__ {a_PairSet : Addr} (Da : MethAt K a_PairSet "__gt__" "PairSet.__gt__" s_PairSet___gt__) {aS : Addr} (c_is_over : Cal P w K mg base "is_over" 3 ["one", "other"] (spd_is_over a_PairSet aS)) (fo_m : FldOk K a_PairSet "machine") : MethC P w K mg base a_PairSet "__gt__" 4 ["self", "other"] (spd_PairSet___gt__ a_PairSet aS) := by
  refine meth_mk Da sc_PairSet___gt__ (fun _ _ _ _ _ _ us hl => match us, hl with | [_, _], _ => rfl) (fun bs R E h => ?_) (fun bs R E h => ?_) fun f cdv A outer s H E W bs R ED gu hr te h fh => ?_
  · obtain ⟨m, d, rfl, r1, f1, rfl, ok1, l1, q⟩ := h
    rfl
  · obtain ⟨m, d, rfl, r1, f1, rfl, ok1, l1, q⟩ := h
    exact pur_none (by simp [B.own])
  · obtain ⟨m, d, rfl, r1, f1, rfl, ok1, l1, q⟩ := h
    have nd := sc_PairSet___gt__.nd
    have hu := hr.units
    refine ⟨_, (dss_one (ds_ret (de_and (de_cX te c_is_over gu hr (da_cons (de_v 0) (da_cons (de_v 1) da_nil))) (de_one (de_cmp (op_neAll hu) rd_ne (de_fld (de_v 0)) (de_fld (de_v 1)) rfl))))), ?_⟩
    simp only [zM]
    refine ⟨_, d, rfl, r1, f1, rfl, ok1, l1, ?_⟩
    rcases q with ⟨r2, f2, rfl, ok2, l2, hb, q⟩ | ⟨hd, q⟩
    · refine .inl ⟨r2, f2, rfl, ok2, l2, hb, fun b hbS => ?_⟩
      refine ⟨rfl, b, rfl, ?_⟩
      obtain ⟨e, h1, h2⟩ := ex_mac r1 r2 f1 f2
      cases b with
      | false =>
        refine iteF ⟨0, q false ?_⟩
        exact ⟨fun z => (by cases z), fun z => hbS.mpr z.1⟩
      | true =>
        refine iteT ?_
        unfold macD
        simp only [zM]
        refine ⟨fo_m, fo_m, e, h1, 0, q _ ?_⟩
        have w := hbS.mp rfl
        cases e with
        | true => exact ⟨fun z => (by cases z), fun z => absurd (h2.mp rfl) z.2⟩
        | false => exact ⟨fun _ => ⟨w, fun z => Bool.false_ne_true (h2.mpr z)⟩, fun _ => rfl⟩
    · exact .inr ⟨hd, 0, q⟩
abbrev s_PairSet___eq__ : Stmt := memS (topS 35) 3
theorem sc_PairSet___eq__ : FnScope ["self", "other"] ["self", "other"] (defScope s_PairSet___eq__) := ⟨rfl, rfl, rfl, by decide +kernel, rfl, by decide +kernel, by decide +kernel⟩
def spd_PairSet___eq__ (aP : Addr) : Spd := fun bs R _ => ∃ r1 f1 d, bs = [.p (macD aP r1 f1), .p d] ∧ ((∃ r2 f2, d = macD aP r2 f2 ∧ ∀ b : Bool, (b = true ↔ r1 = r2 ∧ f1 = f2) → R (.p (.bl b)) 0) ∨ (dat d = true ∧ R (.p (.bl false)) 0))
theorem cal_PairSet___eq__ {a_PairSet : Addr} (Da : MethAt K a_PairSet "__eq__" "PairSet.__eq__" s_PairSet___eq__) (c_PairSet : ConAt K mg "PairSet" (.ref a_PairSet)) (io_PairSet : InsOk K a_PairSet) (nk_PairSet : NoKit K a_PairSet) (fo_m : FldOk K a_PairSet "machine") (m_isinstance : mg "isinstance" = none) : MethC P w K mg base a_PairSet "__eq__" 1 ["self", "other"] (spd_PairSet___eq__ a_PairSet) := by
  refine meth_mk Da sc_PairSet___eq__ (fun _ _ _ _ _ _ us hl => match us, hl with | [_, _], _ => rfl) (fun bs R E h => ?_) (fun bs R E h => ?_) fun f cdv A outer s H E W bs R ED gu hr te h fh => ?_
  · obtain ⟨r1, f1, d, rfl, q⟩ := h
    rfl
  · obtain ⟨r1, f1, d, rfl, q⟩ := h
    exact pur_none (by simp [B.own])
  · obtain ⟨r1, f1, d, rfl, q⟩ := h
    have nd := sc_PairSet___eq__.nd
    have hu := hr.units
    refine ⟨_, (dss_one (ds_ret (de_and (de_callB call_isZ (rc_isa (K := K)) rfl m_isinstance bt_isinstance (da_cons (de_v 1) (da_cons (de_con c_PairSet) da_nil))) (de_one (de_cmp (op_eqAll hu) rd_eq (de_fld (de_v 0)) (de_fld (de_v 1)) rfl))))), ?_⟩
    simp only [zM]
    rcases q with ⟨r2, f2, rfl, q⟩ | ⟨hd, q⟩
    · unfold macD
      simp only [zM, isa_ins io_PairSet kitOne_self]
      obtain ⟨e, h1, h2⟩ := ex_mac r1 r2 f1 f2
      exact ⟨fo_m, fo_m, e, h1, 0, q e h2⟩
    · simp only [zM, isa_no hd nk_PairSet]
      exact ⟨0, q⟩
abbrev s_PairSet___bool__ : Stmt := memS (topS 35) 13
theorem sc_PairSet___bool__ : FnScope ["self"] ["self"] (defScope s_PairSet___bool__) := ⟨rfl, rfl, rfl, by decide +kernel, rfl, by decide +kernel, by decide +kernel⟩
def spd_PairSet___bool__ (aP : Addr) : Spd := fun bs R _ => ∃ r1 f1, bs = [.p (macD aP r1 f1)] ∧ ∀ b : Bool, (b = true ↔ true ∈ f1) → R (.p (.bl b)) 0
theorem cal_PairSet___bool__ {a_PairSet : Addr} (Da : MethAt K a_PairSet "__bool__" "PairSet.__bool__" s_PairSet___bool__) (fo_m : FldOk K a_PairSet "machine") : MethC P w K mg base a_PairSet "__bool__" 1 ["self"] (spd_PairSet___bool__ a_PairSet) := by
  refine meth_mk Da sc_PairSet___bool__ (fun _ _ _ _ _ _ us hl => match us, hl with | [_], _ => rfl) (fun bs R E h => ?_) (fun bs R E h => ?_) fun f cdv A outer s H E W bs R ED gu hr te h fh => ?_
  · obtain ⟨r1, f1, rfl, q⟩ := h
    rfl
  · obtain ⟨r1, f1, rfl, q⟩ := h
    exact pur_none (by simp [B.own])
  · obtain ⟨r1, f1, rfl, q⟩ := h
    have nd := sc_PairSet___bool__.nd
    have hu := hr.units
    refine ⟨_, (dss_one (ds_ret (de_cmp op_inAll rd_in de_bl (de_ix2 hu (de_fld (de_v 0)) de_int fun _ _ => rfl) rfl))), ?_⟩
    unfold macD
    simp only [zM, at_1, inG, isIn]
    exact ⟨fo_m, _, in_bl, 0, q _ decide_eq_true_iff⟩
end
section
variable {P : Program} {w : World} {K : PySem.W.Frag} {mg : Str → Option Value} {base : Heap}
abbrev s_made_of : Stmt := topS 36
theorem sc_made_of : FnScope ["rows", "flags", "state"] ["rows", "flags"] (defScope s_made_of) := ⟨rfl, rfl, rfl, by decide +kernel, rfl, by decide +kernel, by decide +kernel⟩
def spd_made_of (aP : Addr) : Spd := fun bs R _ => ∃ rs d fl df, bs = [.p d, .p df] ∧ (d = .lst (rs.map rowD) ∨ d = .tup (rs.map rowD)) ∧ (df = .lst (fl.map bD) ∨ df = .tup (fl.map bD)) ∧ RowsOk rs ∧ fl.length = rs.length ∧ R (.o (pairD aP rs fl)) 0
theorem cal_made_of (Da : DefAt K mg "made_of" s_made_of) {a_PairSet aI : Addr} (mk_PairSet_2 : MakC P w K mg base "PairSet" a_PairSet 5 ["self", "rows", "accepting"] [] (spi_PairSet a_PairSet aI)) (m_list : mg "list" = none) (m_range : mg "range" = none) (m_len : mg "len" = none) : Cal P w K mg base "made_of" 7 ["rows", "flags"] (spd_made_of a_PairSet) := by
  refine cal_mk none Da sc_made_of (fun _ _ _ _ _ _ us hl => match us, hl with | [_, _], _ => rfl) (fun bs R E h => ?_) (fun bs R E h => ?_) fun f cdv A outer s H E W bs R ED gu hr te h fh => ?_
  · obtain ⟨rs, d, fl, df, rfl, hd, hdf, ok, hl, q⟩ := h
    rfl
  · obtain ⟨rs, d, fl, df, rfl, hd, hdf, ok, hl, q⟩ := h
    exact pur_none (by simp [B.own])
  · obtain ⟨rs, d, fl, df, rfl, hd, hdf, ok, hl, q⟩ := h
    have nd := sc_made_of.nd
    have hu := hr.units
    refine ⟨_, (dss_one (ds_ret (de_make mk_PairSet_2 gu hr (da_cons (de_callTy call_list_of rc_list rfl m_list bt_list (da_cons (de_v 0) da_nil)) (da_cons (de_lc rfl nd (DI0.di (di_range1 rfl m_range (da_cons (de_lenN 1 m_len) da_nil))) (own := [("state", 2)]) (blkOk_by (by kernel_rfl)) (fun _ _ _ _ _ _ => (dgc_name (i := 2) (by decide) nd rfl (by first | exact Or.inl rfl | exact Or.inr rfl))) (fun _ _ _ _ _ _ => (dts_one (dt_val (he := fun _ => rfl) (de_ixN 1 hu (de_v 2) (fun _ _ => rfl))))) (fun _ _ _ _ _ _ => (de_v 2))) da_nil))))), ?_⟩
    have ole := ok.le
    have al := acc_len (fl := fl)
    have g1 : seqD d = some (rs.map rowD) := by rcases hd with rfl | rfl <;> rfl
    have g2 : lenX df = some fl.length := by rcases hdf with rfl | rfl <;> exact congrArg some (List.length_map _)
    have g3 : ∀ q, q < fl.length → itemX df (.int (q : Nat)) = some (.bl (fl.getD q false)) := fun q hq => by
      rcases hdf with rfl | rfl <;> exact bl_at hq
    simp only [zM]
    refine ⟨_, g1, _, g2, by omega, by omega, ?_⟩
    rw [Int.toNat_natCast, upto_map]
    refine lcL_mapA (fun i : Nat => D.int (i : Nat)) (fun q => fl.getD q false) iD (fun q => [some (.p d), some (.p df), some (.p (.int (q : Nat)))]) (fun q => [some (.p d), some (.p df), some (.p (.int (q : Nat)))]) (fun q hq Y N y n => ?_) (fun q hq => ⟨rfl, rfl⟩) (by rw [List.length_nil, List.length_range, sizeLine_eq]; omega) ?_
    · have hq := List.mem_range.mp hq
      simp only [zM]
      refine ⟨_, g3 q hq, ?_⟩
      refine ⟨_, rfl, ?_⟩
      cases h : fl.getD q false with
      | true => exact iteT (y h)
      | false => exact iteF (n h)
    · have ea : ([] : List D) ++ ((List.range fl.length).filter fun q => fl.getD q false).map iD = (accOf fl).map iD := rfl
      rw [ea]
      have lt : ∀ a ∈ accOf fl, a < rs.length := fun a ha => by rw [← hl]; exact acc_lt a ha
      have ef : flOf rs.length (accOf fl) = fl := by rw [← hl]; exact fl_acc
      refine ⟨_, _, _, rfl, rfl, rfl, tab_mch ok (by omega), .inl ⟨tab_mach ok acc_nd lt, rs, accOf fl, rfl, rfl, ok, acc_nd, by omega, rfl, 0, ?_⟩⟩
      rw [ef]
      exact q

def CmbP (aP aS : Addr) (t : Bool → Bool → Bool) (m d : D) (R : B → Nat → Prop) (E : Addr → List D → Nat → Prop) : Prop :=
  ∃ r1 f1, m = macD aP r1 f1 ∧ RowsOk r1 ∧ f1.length = r1.length ∧ ((∃ r2 f2, d = macD aP r2 f2 ∧ RowsOk r2 ∧ f2.length = r2.length ∧ (r1.length * r2.length ≤ 1000000 ∧ ∀ os rows, Joined r1 r2 os rows → os.length ≤ 4094) ∧ ∀ os rows, Joined r1 r2 os rows → R (.o (pairD aP rows (jfl t os f1 f2))) 0) ∨ (dat d = true ∧ E aS [d] 0))
theorem CmbP.imp {aP aS : Addr} {t : Bool → Bool → Bool} {m d : D} {R R' : B → Nat → Prop} {E E' : Addr → List D → Nat → Prop} (h : CmbP aP aS t m d R E) (f : ∀ x, R (.o x) 0 → R' (.o x) 0) (g : E aS [d] 0 → E' aS [d] 0) : CmbP aP aS t m d R' E' := by
  obtain ⟨r1, f1, e, ok, l, h⟩ := h
  refine ⟨r1, f1, e, ok, l, ?_⟩
  rcases h with ⟨r2, f2, e2, ok2, l2, hb, h⟩ | ⟨hd, h⟩
  · exact .inl ⟨r2, f2, e2, ok2, l2, hb, fun os rows J => f _ (h os rows J)⟩
  · exact .inr ⟨hd, g h⟩
theorem joined_rowsOk {r1 r2 : List MRow} {os : List PairN} {rows : List MRow} (J : Joined r1 r2 os rows) (hb : os.length ≤ 4094) : RowsOk rows where
  pos := by
    rw [J.len]
    exact (List.getElem?_eq_some_iff.mp J.z).1
  le := by
    rw [J.len]
    exact hb
  lt := fun r hr => by
    obtain ⟨i, hi, rfl⟩ := List.getElem_of_mem hr
    have e : rowAt rows i = rows[i] := by
      unfold rowAt
      rw [List.getD_eq_getElem?_getD, List.getElem?_eq_getElem hi]
      rfl
    have st := fun k hk => (List.getElem?_eq_some_iff.mp (J.stp i _ (List.getElem?_eq_getElem (by rw [← J.len]; exact hi)) k hk)).1
    rw [J.len, ← e]
    exact ⟨st 0 (by decide), st 1 (by decide), st 2 (by decide)⟩

abbrev s_combined : Stmt := topS 37
theorem sc_combined : FnScope ["one", "other", "table", "made"] ["one", "other", "table"] (defScope s_combined) := ⟨rfl, rfl, rfl, by decide +kernel, rfl, by decide +kernel, by decide +kernel⟩
def spd_combined (aP aS : Addr) : Spd := fun bs R E => ∃ m d t, bs = [.p m, .p d, .p (tblD t)] ∧ CmbP aP aS t m d R E
theorem cal_combined (Da : DefAt K mg "combined" s_combined) {a_PairSet : Addr} (c_made_of : Cal P w K mg base "made_of" 7 ["rows", "flags"] (spd_made_of a_PairSet)) (c_product : Cal P w K mg base "product" 2 ["one", "other", "table"] spd_product) {aS fS : Addr} (o_InvalidSet : OwnX P K aS fS) (m_InvalidSet : mg "InvalidSet" = some (.ref aS)) (c_PairSet : ConAt K mg "PairSet" (.ref a_PairSet)) (io_PairSet : InsOk K a_PairSet) (nk_PairSet : NoKit K a_PairSet) (fo_m : FldOk K a_PairSet "machine") (m_isinstance : mg "isinstance" = none) : Cal P w K mg base "combined" 8 ["one", "other", "table"] (spd_combined a_PairSet aS) := by
  refine cal_mk none Da sc_combined (fun _ _ _ _ _ _ us hl => match us, hl with | [_, _, _], _ => rfl) (fun bs R E h => ?_) (fun bs R E h => ?_) fun f cdv A outer s H E W bs R ED gu hr te h fh => ?_
  · obtain ⟨m, d, t, rfl, r1, f1, rfl, ok1, l1, q⟩ := h
    rfl
  · obtain ⟨m, d, t, rfl, r1, f1, rfl, ok1, l1, q⟩ := h
    exact pur_none (by simp [B.own])
  · obtain ⟨m, d, t, rfl, r1, f1, rfl, ok1, l1, q⟩ := h
    have nd := sc_combined.nd
    have hu := hr.units
    refine ⟨_, (dss_cons (ds_if (dt_not (dt_val (he := fun _ => rfl) (de_callB call_isZ (rc_isa (K := K)) rfl m_isinstance bt_isinstance (da_cons (de_v 1) (da_cons (de_con c_PairSet) da_nil))))) (dss_one (ds_raise te o_InvalidSet rfl hr rfl m_InvalidSet (da_cons (de_v 1) da_nil))) dss_nil) (dss_cons (ds_set (i := 3) nd rfl (by first | exact Or.inl rfl | exact Or.inr rfl) (de_c c_product gu hr (da_cons (de_fld (de_v 0)) (da_cons (de_fld (de_v 1)) (da_cons (de_v 2) da_nil))))) (dss_one (ds_ret (de_c c_made_of gu hr (da_cons (de_ixN 3 hu de_int (fun _ _ => rfl)) (da_cons (de_ixN 3 hu de_int (fun _ _ => rfl)) da_nil))))))), ?_⟩
    refine dseq ?_
    simp only [zM, dRaise]
    rcases q with ⟨r2, f2, rfl, ok2, l2, hb, q⟩ | ⟨hd, q⟩
    · unfold macD
      simp only [zM, isa_ins io_PairSet kitOne_self]
      refine dseq ?_
      simp only [zM]
      refine ⟨fo_m, fo_m, r1, r2, f1, f2, t, rfl, ok1, ok2, l1, l2, hb.1, fun os rows J => ?_⟩
      simp only [zM, at_0, at_1]
      exact ⟨rows, _, _, _, rfl, .inl rfl, .inl rfl, joined_rowsOk J (hb.2 os rows J), by rw [jfl_len, J.len], rfl, rfl, 0, q os rows J⟩
    · simp only [zM, isa_no hd nk_PairSet]
      exact ⟨0, q⟩
end
section
variable {P : Program} {w : World} {K : PySem.W.Frag} {mg : Str → Option Value} {base : Heap}
abbrev s_PairSet___and__ : Stmt := memS (topS 35) 4
theorem sc_PairSet___and__ : FnScope ["self", "other"] ["self", "other"] (defScope s_PairSet___and__) := ⟨rfl, rfl, rfl, by decide +kernel, rfl, by decide +kernel, by decide +kernel⟩
def spd_PairSet___and__ (aP aS : Addr) : Spd := fun bs R E => ∃ m d, bs = [.p m, .p d] ∧ CmbP aP aS (fun a b => a && b) m d R E
theorem cal_PairSet___and__ {a_PairSet : Addr} (Da : MethAt K a_PairSet "__and__" "PairSet.__and__" s_PairSet___and__) {aS : Addr} (c_combined : Cal P w K mg base "combined" 8 ["one", "other", "table"] (spd_combined a_PairSet aS)) : MethC P w K mg base a_PairSet "__and__" 9 ["self", "other"] (spd_PairSet___and__ a_PairSet aS) := by
  refine meth_mk Da sc_PairSet___and__ (fun _ _ _ _ _ _ us hl => match us, hl with | [_, _], _ => rfl) (fun bs R E h => ?_) (fun bs R E h => ?_) fun f cdv A outer s H E W bs R ED gu hr te h fh => ?_
  · obtain ⟨m, d, rfl, q⟩ := h
    rfl
  · obtain ⟨m, d, rfl, q⟩ := h
    exact pur_none (by simp [B.own])
  · obtain ⟨m, d, rfl, q⟩ := h
    have nd := sc_PairSet___and__.nd
    have hu := hr.units
    refine ⟨_, (dss_one (ds_ret (de_cX te c_combined gu hr (da_cons (de_v 0) (da_cons (de_v 1) (da_cons (de_tup (da_cons de_bl (da_cons de_bl (da_cons de_bl (da_cons de_bl da_nil))))) da_nil)))))), ?_⟩
    simp only [zM]
    exact ⟨m, d, _, rfl, q.imp (fun x z => ⟨rfl, rfl, 0, z⟩) fun z => ⟨0, z⟩⟩
abbrev s_PairSet___or__ : Stmt := memS (topS 35) 5
theorem sc_PairSet___or__ : FnScope ["self", "other"] ["self", "other"] (defScope s_PairSet___or__) := ⟨rfl, rfl, rfl, by decide +kernel, rfl, by decide +kernel, by decide +kernel⟩
def spd_PairSet___or__ (aP aS : Addr) : Spd := fun bs R E => ∃ m d, bs = [.p m, .p d] ∧ CmbP aP aS (fun a b => a || b) m d R E
theorem cal_PairSet___or__ {a_PairSet : Addr} (Da : MethAt K a_PairSet "__or__" "PairSet.__or__" s_PairSet___or__) {aS : Addr} (c_combined : Cal P w K mg base "combined" 8 ["one", "other", "table"] (spd_combined a_PairSet aS)) : MethC P w K mg base a_PairSet "__or__" 9 ["self", "other"] (spd_PairSet___or__ a_PairSet aS) := by
  refine meth_mk Da sc_PairSet___or__ (fun _ _ _ _ _ _ us hl => match us, hl with | [_, _], _ => rfl) (fun bs R E h => ?_) (fun bs R E h => ?_) fun f cdv A outer s H E W bs R ED gu hr te h fh => ?_
  · obtain ⟨m, d, rfl, q⟩ := h
    rfl
  · obtain ⟨m, d, rfl, q⟩ := h
    exact pur_none (by simp [B.own])
  · obtain ⟨m, d, rfl, q⟩ := h
    have nd := sc_PairSet___or__.nd
    have hu := hr.units
    refine ⟨_, (dss_one (ds_ret (de_cX te c_combined gu hr (da_cons (de_v 0) (da_cons (de_v 1) (da_cons (de_tup (da_cons de_bl (da_cons de_bl (da_cons de_bl (da_cons de_bl da_nil))))) da_nil)))))), ?_⟩
    simp only [zM]
    exact ⟨m, d, _, rfl, q.imp (fun x z => ⟨rfl, rfl, 0, z⟩) fun z => ⟨0, z⟩⟩
abbrev s_PairSet___sub__ : Stmt := memS (topS 35) 6
theorem sc_PairSet___sub__ : FnScope ["self", "other"] ["self", "other"] (defScope s_PairSet___sub__) := ⟨rfl, rfl, rfl, by decide +kernel, rfl, by decide +kernel, by decide +kernel⟩
def spd_PairSet___sub__ (aP aS : Addr) : Spd := fun bs R E => ∃ m d, bs = [.p m, .p d] ∧ CmbP aP aS (fun a b => a && !b) m d R E
theorem cal_PairSet___sub__ {a_PairSet : Addr} (Da : MethAt K a_PairSet "__sub__" "PairSet.__sub__" s_PairSet___sub__) {aS : Addr} (c_combined : Cal P w K mg base "combined" 8 ["one", "other", "table"] (spd_combined a_PairSet aS)) : MethC P w K mg base a_PairSet "__sub__" 9 ["self", "other"] (spd_PairSet___sub__ a_PairSet aS) := by
  refine meth_mk Da sc_PairSet___sub__ (fun _ _ _ _ _ _ us hl => match us, hl with | [_, _], _ => rfl) (fun bs R E h => ?_) (fun bs R E h => ?_) fun f cdv A outer s H E W bs R ED gu hr te h fh => ?_
  · obtain ⟨m, d, rfl, q⟩ := h
    rfl
  · obtain ⟨m, d, rfl, q⟩ := h
    exact pur_none (by simp [B.own])
  · obtain ⟨m, d, rfl, q⟩ := h
    have nd := sc_PairSet___sub__.nd
    have hu := hr.units
    refine ⟨_, (dss_one (ds_ret (de_cX te c_combined gu hr (da_cons (de_v 0) (da_cons (de_v 1) (da_cons (de_tup (da_cons de_bl (da_cons de_bl (da_cons de_bl (da_cons de_bl da_nil))))) da_nil)))))), ?_⟩
    simp only [zM]
    exact ⟨m, d, _, rfl, q.imp (fun x z => ⟨rfl, rfl, 0, z⟩) fun z => ⟨0, z⟩⟩
abbrev s_PairSet___xor__ : Stmt := memS (topS 35) 7
theorem sc_PairSet___xor__ : FnScope ["self", "other"] ["self", "other"] (defScope s_PairSet___xor__) := ⟨rfl, rfl, rfl, by decide +kernel, rfl, by decide +kernel, by decide +kernel⟩
def spd_PairSet___xor__ (aP aS : Addr) : Spd := fun bs R E => ∃ m d, bs = [.p m, .p d] ∧ CmbP aP aS (fun a b => a != b) m d R E
theorem cal_PairSet___xor__ {a_PairSet : Addr} (Da : MethAt K a_PairSet "__xor__" "PairSet.__xor__" s_PairSet___xor__) {aS : Addr} (c_combined : Cal P w K mg base "combined" 8 ["one", "other", "table"] (spd_combined a_PairSet aS)) : MethC P w K mg base a_PairSet "__xor__" 9 ["self", "other"] (spd_PairSet___xor__ a_PairSet aS) := by
  refine meth_mk Da sc_PairSet___xor__ (fun _ _ _ _ _ _ us hl => match us, hl with | [_, _], _ => rfl) (fun bs R E h => ?_) (fun bs R E h => ?_) fun f cdv A outer s H E W bs R ED gu hr te h fh => ?_
  · obtain ⟨m, d, rfl, q⟩ := h
    rfl
  · obtain ⟨m, d, rfl, q⟩ := h
    exact pur_none (by simp [B.own])
  · obtain ⟨m, d, rfl, q⟩ := h
    have nd := sc_PairSet___xor__.nd
    have hu := hr.units
    refine ⟨_, (dss_one (ds_ret (de_cX te c_combined gu hr (da_cons (de_v 0) (da_cons (de_v 1) (da_cons (de_tup (da_cons de_bl (da_cons de_bl (da_cons de_bl (da_cons de_bl da_nil))))) da_nil)))))), ?_⟩
    simp only [zM]
    exact ⟨m, d, _, rfl, q.imp (fun x z => ⟨rfl, rfl, 0, z⟩) fun z => ⟨0, z⟩⟩
abbrev s_PairSet___invert__ : Stmt := memS (topS 35) 8
theorem sc_PairSet___invert__ : FnScope ["self", "one"] ["self"] (defScope s_PairSet___invert__) := ⟨rfl, rfl, rfl, by decide +kernel, rfl, by decide +kernel, by decide +kernel⟩
def spd_PairSet___invert__ (aP : Addr) : Spd := fun bs R _ => ∃ rs fl, bs = [.p (macD aP rs fl)] ∧ RowsOk rs ∧ fl.length = rs.length ∧ R (.o (pairD aP rs (fl.map (!·)))) 0
theorem cal_PairSet___invert__ {a_PairSet : Addr} (Da : MethAt K a_PairSet "__invert__" "PairSet.__invert__" s_PairSet___invert__) (c_made_of : Cal P w K mg base "made_of" 7 ["rows", "flags"] (spd_made_of a_PairSet)) (fo_m : FldOk K a_PairSet "machine") : MethC P w K mg base a_PairSet "__invert__" 8 ["self"] (spd_PairSet___invert__ a_PairSet) := by
  refine meth_mk Da sc_PairSet___invert__ (fun _ _ _ _ _ _ us hl => match us, hl with | [_], _ => rfl) (fun bs R E h => ?_) (fun bs R E h => ?_) fun f cdv A outer s H E W bs R ED gu hr te h fh => ?_
  · obtain ⟨rs, fl, rfl, ok, hl, q⟩ := h
    rfl
  · obtain ⟨rs, fl, rfl, ok, hl, q⟩ := h
    exact pur_none (by simp [B.own])
  · obtain ⟨rs, fl, rfl, ok, hl, q⟩ := h
    have nd := sc_PairSet___invert__.nd
    have hu := hr.units
    refine ⟨_, (dss_one (ds_ret (de_c c_made_of gu hr (da_cons (de_ix2 hu (de_fld (de_v 0)) de_int fun _ _ => rfl) (da_cons (de_lc rfl nd (di_any (de_ix2 hu (de_fld (de_v 0)) de_int fun _ _ => rfl)) (own := [("one", 1)]) (blkOk_by (by kernel_rfl)) (fun _ _ _ _ _ _ => (dgc_name (i := 1) (by decide) nd rfl (by first | exact Or.inl rfl | exact Or.inr rfl))) (fun _ _ _ _ _ _ => dts_nil) (fun _ _ _ _ _ _ => (de_not (de_v 1)))) da_nil))))), ?_⟩
    have ole := ok.le
    simp only [zM, macD]
    refine ⟨fo_m, _, rfl, fo_m, _, rfl, _, rfl, ?_⟩
    refine lcL_allA bD (fun b => bD (!b)) (fun b => [some (.p (macD a_PairSet rs fl)), some (.p (bD b))]) (fun b hb Y N y => ?_) (fun b hb => rfl) (by rw [List.length_nil, sizeLine_eq]; omega) ?_
    · simp only [zM, dYes, bD]
      exact y
    · refine ⟨rs, _, fl.map (!·), _, rfl, .inr rfl, .inl ?_, ok, by rw [List.length_map, hl], rfl, rfl, 0, q⟩
      rw [List.nil_append, List.map_map]
      rfl
end
section
variable {P : Program} {w : World} {K : PySem.W.Frag} {mg : Str → Option Value} {base : Heap}

theorem get_iD {l : List Nat} {q : Nat} (h : q < l.length) : (l.map iD)[q]? = some (D.int ((l.getD q 0 : Nat) : Int)) := by
  rw [List.getElem?_map, List.getElem?_eq_getElem h, List.getD_eq_getElem?_getD, List.getElem?_eq_getElem h]
  rfl
theorem set_iD {l : List Nat} {q k : Nat} : (l.map iD).set q (D.int (((l.getD q 0 : Nat) : Int) + (k : Int))) = (addAt l q k).map iD := by
  unfold addAt
  rw [List.map_set]
  congr 1
theorem flt_sum (c : List Nat) (g : Nat → Bool) : ∀ l : List Nat, (((l.filter g).map fun i => ((c.getD i 0 : Nat) : Int)).sum) = ((l.map fun i => c.getD i 0 * (if g i = true then 1 else 0)).sum : Nat)
  | [] => rfl
  | i :: l => by
    have ih := flt_sum c g l
    by_cases h : g i = true
    · rw [List.filter_cons_of_pos h, List.map_cons, List.map_cons, List.sum_cons, List.sum_cons, ih, if_pos h, Nat.mul_one, Int.natCast_add]
    · rw [List.filter_cons_of_neg h, List.map_cons, List.sum_cons, ih, if_neg h, Nat.mul_zero, Nat.zero_add]
theorem enum_at {α : Type} {l : List α} {f : α → D} {p r : List D} {a : D} (e : enumD 0 (l.map f) = p ++ a :: r) : ∃ y, l[p.length]? = some y ∧ a = .tup [.int (p.length : Nat), f y] := by
  have z := congrArg (fun l => l[p.length]?) e
  simp only [enumD_get, List.getElem?_map, Nat.zero_add] at z
  rw [List.getElem?_append_right (Nat.le_refl _), Nat.sub_self, List.getElem?_cons_zero] at z
  cases q : l[p.length]? with
  | none =>
    rw [q] at z
    cases z
  | some y =>
    rw [q] at z
    exact ⟨y, rfl, (Option.some.inj z).symm⟩

abbrev s_count_words : Stmt := topS 29
theorem sc_count_words : FnScope ["rows", "accepting", "length", "counts", "state", "turn", "new", "row", "following"] ["rows", "accepting", "length"] (defScope s_count_words) := ⟨rfl, rfl, rfl, by decide +kernel, rfl, by decide +kernel, by decide +kernel⟩
def spd_count_words  : Spd := fun bs R _ => ∃ (rs : List MRow) (fl : List Bool) (t : Nat), bs = [.p (.tup (rs.map rowD)), .p (.tup (fl.map bD)), .p (.int (t : Nat))] ∧ RowsOk rs ∧ fl.length = rs.length ∧ t ≤ 300 ∧ R (.p (.int (sumF (cntL rs t) (fun q => if fl.getD q false = true then 1 else 0) : Nat))) 0
theorem cal_count_words (Da : DefAt K mg "count_words" s_count_words) (m_range : mg "range" = none) (m_len : mg "len" = none) (m_int : mg "int" = none) (m_enumerate : mg "enumerate" = none) (m_sum : mg "sum" = none) : Cal P w K mg base "count_words" 2 ["rows", "accepting", "length"] spd_count_words := by
  refine cal_mk none Da sc_count_words (fun _ _ _ _ _ _ us hl => match us, hl with | [_, _, _], _ => rfl) (fun bs R E h => ?_) (fun bs R E h => ?_) fun f cdv A outer s H E W bs R ED gu hr te h fh => ?_
  · obtain ⟨rs, fl, t, rfl, ok, hl, ht, q⟩ := h
    rfl
  · obtain ⟨rs, fl, t, rfl, ok, hl, ht, q⟩ := h
    exact pur_none (by simp [B.own])
  · obtain ⟨rs, fl, t, rfl, ok, hl, ht, q⟩ := h
    have nd := sc_count_words.nd
    have hu := hr.units
    have ps := passes_of (X := cxOf (L2N.CX P w) P w K mg base ["rows", "accepting", "length", "counts", "state", "turn", "new", "row", "following"] "count_words" (defScope s_count_words) f cdv A outer s H E) rfl
    refine ⟨_, (dss_cons (ds_set (i := 3) nd rfl (by first | exact Or.inl rfl | exact Or.inr rfl) (de_lc rfl nd (DI0.di (di_range1 rfl m_range (da_cons (de_lenN 0 m_len) da_nil))) (own := [("state", 4)]) (blkOk_by (by kernel_rfl)) (fun _ _ _ _ _ _ => (dgc_name (i := 4) (by decide) nd rfl (by first | exact Or.inl rfl | exact Or.inr rfl))) (fun _ _ _ _ _ _ => dts_nil) (fun _ _ _ _ _ _ => (de_callTy call_int1 rc_int rfl m_int bt_int (da_cons (de_cmpL 4 (op_eqAll hu) rl_eq de_int) da_nil))))) (dss_cons (ds_forR ps rfl (di_range1 rfl m_range (da_cons (de_v 2) da_nil)) (dg_name (i := 5) nd rfl (by first | exact Or.inl rfl | exact Or.inr rfl)) (dss_cons (ds_setLc (i := 6) rfl nd rfl rfl rfl (di_any (de_v 0)) (own := [("row", 7)]) (blkOk_by (by kernel_rfl)) (fun _ _ _ _ _ _ => (dgc_name (i := 7) (by decide) nd rfl (by first | exact Or.inl rfl | exact Or.inr rfl))) (fun _ _ _ _ _ _ => dts_nil) (fun _ _ _ _ _ _ => de_int)) (dss_cons (ds_for te ps rfl (di_enumT rfl m_enumerate (da_cons (de_v 0) da_nil)) (fun _ => (dg_tup (n := 2) rfl (dgs_cons (dg_name (i := 4) nd rfl (by first | exact Or.inl rfl | exact Or.inr rfl)) (dgs_cons (dg_name (i := 7) nd rfl (by first | exact Or.inl rfl | exact Or.inr rfl)) dgs_nil)))) (fun _ te => (dss_one (ds_for te ps rfl (di_any (de_v 7)) (fun _ => (dg_name (i := 8) nd rfl (by first | exact Or.inl rfl | exact Or.inr rfl))) (fun _ te => (dss_one (ds_augN 6 hu ip_add (de_v 8) (de_ixN 3 hu (de_v 4) (fun _ _ => rfl))))))))) (dss_one (ds_set (i := 3) nd rfl (by first | exact Or.inl rfl | exact Or.inr rfl) (de_v 6)))))) (dss_one (ds_ret (de_callB (cr_sum rfl) rc_sum rfl m_sum bt_sum (da_cons (de_lc rfl nd (DI0.di (di_range1 rfl m_range (da_cons (de_lenN 0 m_len) da_nil))) (own := [("state", 4)]) (blkOk_by (by kernel_rfl)) (fun _ _ _ _ _ _ => (dgc_name (i := 4) (by decide) nd rfl (by first | exact Or.inl rfl | exact Or.inr rfl))) (fun _ _ _ _ _ _ => (dts_one (dt_val (he := fun _ => rfl) (de_ixN 1 hu (de_v 4) (fun _ _ => rfl))))) (fun _ _ _ _ _ _ => (de_ixN 3 hu (de_v 4) (fun _ _ => rfl)))) da_nil)))))), ?_⟩
    have ole := ok.le
    have opos := ok.pos
    refine dseq ?_
    simp only [zM]
    refine ⟨by omega, by omega, ?_⟩
    rw [Int.toNat_natCast, upto_map]
    refine lcL_allA (fun i : Nat => D.int (i : Nat)) (fun i => iD (if i = 0 then 1 else 0)) (fun i => [some (.p (.tup (rs.map rowD))), some (.p (.tup (fl.map bD))), some (.p (.int (t : Nat))), none, some (.p (.int (i : Nat))), none, none, none, none]) (fun i hi Y N y => ?_) (fun i hi => rfl) (by rw [List.length_nil, sizeLine_eq, List.length_range]; omega) ?_
    · simp only [zM, dYes]
      by_cases h : i = 0
      · subst h
        exact ⟨true, rfl, y⟩
      · rw [if_neg h] at y
        exact ⟨false, eqD_int.trans (by rw [decide_eq_false (by omega)]), y⟩
    rw [List.nil_append, show (List.range rs.length).map (fun i => iD (if i = 0 then 1 else 0)) = (cntL rs 0).map iD by unfold cntL; rw [List.map_map]; rfl]
    refine dseq ?_
    simp only [zM]
    refine ⟨by omega, by omega, ?_⟩
    refine forL_ds (fun p δ => ∃ b3 x4 x5 x6 x7 x8, (b3 = some (.o (.lst ((cntL rs p.length).map iD))) ∨ b3 = some (.p (.lst ((cntL rs p.length).map iD)))) ∧ δ = [some (.p (.tup (rs.map rowD))), some (.p (.tup (fl.map bD))), some (.p (.int (t : Nat))), b3, x4, x5, x6, x7, x8]) (fun p d r δ e hI N hN => ?_) (fun δ hI => ?_) ⟨_, _, _, _, _, _, .inl rfl, rfl⟩
    · obtain ⟨b3, x4, x5, x6, x7, x8, hb, rfl⟩ := hI
      obtain ⟨rfl, hp⟩ := upto_at (n := t) e
      have cl : (cntL rs p.length).length = rs.length := cntL_len
      rcases hb with rfl | rfl
      · simp only [zM]
        refine dseq ?_
        simp only [zM]
        refine lcL_allA rowD (fun _ => iD 0) (fun x => [some (.p (.tup (rs.map rowD))), some (.p (.tup (fl.map bD))), some (.p (.int (t : Nat))), some (.o (.lst ((cntL rs p.length).map iD))), x4, some (.p (.int (p.length : Nat))), x6, some (.p (rowD x)), x8]) (fun x hx Y N y => ?_) (fun x hx => rfl) (by rw [List.length_nil, sizeLine_eq]; omega) ?_
        · simp only [zM, dYes]
          exact y
        rw [List.nil_append, show rs.map (fun _ => iD 0) = (stepN rs (cntL rs p.length) 0).map iD from (List.map_const' ..).trans (List.map_replicate ..).symm]
        refine dseq ?_
        simp only [zM]
        refine forL_ds (fun p2 δ => ∃ y4 y7 y8, p2.length ≤ rs.length ∧ δ = [some (.p (.tup (rs.map rowD))), some (.p (.tup (fl.map bD))), some (.p (.int (t : Nat))), some (.o (.lst ((cntL rs p.length).map iD))), y4, some (.p (.int (p.length : Nat))), some (.o (.lst ((stepN rs (cntL rs p.length) p2.length).map iD))), y7, y8]) (fun p2 d2 r2 δ e2 hI N2 hM => ?_) (fun δ hI => ?_) ⟨x4, none, x8, Nat.zero_le _, rfl⟩
        · obtain ⟨y4, y7, y8, hp2, rfl⟩ := hI
          obtain ⟨y, hy, rfl⟩ := enum_at e2
          have hpl := (List.getElem?_eq_some_iff.mp hy).1
          have ey : y = rowAt rs p2.length := by
            unfold rowAt
            rw [List.getD_eq_getElem?_getD, hy]
            rfl
          subst ey
          have cs : (stepN rs (cntL rs p.length) p2.length).length = rs.length := stepN_len
          have l1 := nxt_lt ok (q := p2.length) hpl 0
          have l2 := nxt_lt ok (q := p2.length) hpl 1
          have l3 := nxt_lt ok (q := p2.length) hpl 2
          have hc : atI ((cntL rs p.length).map iD) (p2.length : Nat) = some (iD ((cntL rs p.length).getD p2.length 0)) := atI_map (by rw [List.getElem?_eq_getElem (by rw [cntL_len]; exact hpl), List.getD_eq_getElem?_getD, List.getElem?_eq_getElem (by rw [cntL_len]; exact hpl)]; rfl)
          have a1 : (addAt (stepN rs (cntL rs p.length) p2.length) (rowAt rs p2.length).1 ((cntL rs p.length).getD p2.length 0)).length = rs.length := by rw [addAt_len, cs]
          have a2 : (addAt (addAt (stepN rs (cntL rs p.length) p2.length) (rowAt rs p2.length).1 ((cntL rs p.length).getD p2.length 0)) (rowAt rs p2.length).2.1 ((cntL rs p.length).getD p2.length 0)).length = rs.length := by rw [addAt_len, a1]
          simp only [zM, rowD, forL, Int.toNat_natCast]
          refine ⟨by omega, _, get_iD (by rw [cs]; exact l1), _, hc, _, rfl, by omega, _, by rw [set_iD]; exact get_iD (by rw [a1]; exact l2), _, hc, _, rfl, by omega, _, by rw [set_iD, set_iD]; exact get_iD (by rw [a2]; exact l3), _, hc, _, rfl, ?_⟩
          rw [set_iD, set_iD, set_iD]
          exact hM _ ⟨_, _, _, by rw [len_snoc]; omega, by rw [len_snoc, stepN_succ]; rfl⟩
        · obtain ⟨y4, y7, y8, hp2, rfl⟩ := hI
          rw [enumD_len, List.length_map] at *
          simp only [zM]
          exact hN _ ⟨_, _, _, _, _, _, .inr (by rw [len_snoc]; rfl), rfl⟩
      · simp only [zM]
        refine dseq ?_
        simp only [zM]
        refine lcL_allA rowD (fun _ => iD 0) (fun x => [some (.p (.tup (rs.map rowD))), some (.p (.tup (fl.map bD))), some (.p (.int (t : Nat))), some (.p (.lst ((cntL rs p.length).map iD))), x4, some (.p (.int (p.length : Nat))), x6, some (.p (rowD x)), x8]) (fun x hx Y N y => ?_) (fun x hx => rfl) (by rw [List.length_nil, sizeLine_eq]; omega) ?_
        · simp only [zM, dYes]
          exact y
        rw [List.nil_append, show rs.map (fun _ => iD 0) = (stepN rs (cntL rs p.length) 0).map iD from (List.map_const' ..).trans (List.map_replicate ..).symm]
        refine dseq ?_
        simp only [zM]
        refine forL_ds (fun p2 δ => ∃ y4 y7 y8, p2.length ≤ rs.length ∧ δ = [some (.p (.tup (rs.map rowD))), some (.p (.tup (fl.map bD))), some (.p (.int (t : Nat))), some (.p (.lst ((cntL rs p.length).map iD))), y4, some (.p (.int (p.length : Nat))), some (.o (.lst ((stepN rs (cntL rs p.length) p2.length).map iD))), y7, y8]) (fun p2 d2 r2 δ e2 hI N2 hM => ?_) (fun δ hI => ?_) ⟨x4, none, x8, Nat.zero_le _, rfl⟩
        · obtain ⟨y4, y7, y8, hp2, rfl⟩ := hI
          obtain ⟨y, hy, rfl⟩ := enum_at e2
          have hpl := (List.getElem?_eq_some_iff.mp hy).1
          have ey : y = rowAt rs p2.length := by
            unfold rowAt
            rw [List.getD_eq_getElem?_getD, hy]
            rfl
          subst ey
          have cs : (stepN rs (cntL rs p.length) p2.length).length = rs.length := stepN_len
          have l1 := nxt_lt ok (q := p2.length) hpl 0
          have l2 := nxt_lt ok (q := p2.length) hpl 1
          have l3 := nxt_lt ok (q := p2.length) hpl 2
          have hc : atI ((cntL rs p.length).map iD) (p2.length : Nat) = some (iD ((cntL rs p.length).getD p2.length 0)) := atI_map (by rw [List.getElem?_eq_getElem (by rw [cntL_len]; exact hpl), List.getD_eq_getElem?_getD, List.getElem?_eq_getElem (by rw [cntL_len]; exact hpl)]; rfl)
          have a1 : (addAt (stepN rs (cntL rs p.length) p2.length) (rowAt rs p2.length).1 ((cntL rs p.length).getD p2.length 0)).length = rs.length := by rw [addAt_len, cs]
          have a2 : (addAt (addAt (stepN rs (cntL rs p.length) p2.length) (rowAt rs p2.length).1 ((cntL rs p.length).getD p2.length 0)) (rowAt rs p2.length).2.1 ((cntL rs p.length).getD p2.length 0)).length = rs.length := by rw [addAt_len, a1]
          simp only [zM, rowD, forL, Int.toNat_natCast]
          refine ⟨by omega, _, get_iD (by rw [cs]; exact l1), _, hc, _, rfl, by omega, _, by rw [set_iD]; exact get_iD (by rw [a1]; exact l2), _, hc, _, rfl, by omega, _, by rw [set_iD, set_iD]; exact get_iD (by rw [a2]; exact l3), _, hc, _, rfl, ?_⟩
          rw [set_iD, set_iD, set_iD]
          exact hM _ ⟨_, _, _, by rw [len_snoc]; omega, by rw [len_snoc, stepN_succ]; rfl⟩
        · obtain ⟨y4, y7, y8, hp2, rfl⟩ := hI
          rw [enumD_len, List.length_map] at *
          simp only [zM]
          exact hN _ ⟨_, _, _, _, _, _, .inr (by rw [len_snoc]; rfl), rfl⟩
    · obtain ⟨b3, x4, x5, x6, x7, x8, hb, rfl⟩ := hI
      have cl : (cntL rs t).length = rs.length := cntL_len
      rw [upto_ln] at hb
      rcases hb with rfl | rfl
      · simp only [zM, Int.toNat_natCast]
        refine ⟨by omega, by omega, ?_⟩
        rw [upto_map]
        refine lcL_mapA (fun i : Nat => D.int (i : Nat)) (fun i => fl.getD i false) (fun i => iD ((cntL rs t).getD i 0)) (fun i => [some (.p (.tup (rs.map rowD))), some (.p (.tup (fl.map bD))), some (.p (.int (t : Nat))), some (.o (.lst ((cntL rs t).map iD))), some (.p (.int (i : Nat))), x5, x6, x7, x8]) (fun i => [some (.p (.tup (rs.map rowD))), some (.p (.tup (fl.map bD))), some (.p (.int (t : Nat))), some (.o (.lst ((cntL rs t).map iD))), some (.p (.int (i : Nat))), x5, x6, x7, x8]) (fun i hi Y N y n => ?_) (fun i hi => ⟨rfl, rfl⟩) (by rw [List.length_nil, sizeLine_eq, List.length_range]; omega) ?_
        · have hi := List.mem_range.mp hi
          simp only [zM]
          refine ⟨_, atI_map (f := bD) (a := fl.getD i false) (by rw [List.getD_eq_getElem?_getD, List.getElem?_eq_getElem (by omega)]; rfl), _, rfl, ?_⟩
          by_cases hf : fl.getD i false = true
          · rw [if_pos hf]
            exact ⟨_, atI_map (f := iD) (a := (cntL rs t).getD i 0) (by rw [List.getD_eq_getElem?_getD, List.getElem?_eq_getElem (by omega)]; rfl), y hf⟩
          · rw [if_neg hf]
            exact n (by simpa using hf)
        rw [List.nil_append]
        refine ⟨((List.range rs.length).filter fun i => fl.getD i false).map fun i => (((cntL rs t).getD i 0 : Nat) : Int), by rw [List.map_map]; rfl, rfl, 0, ?_⟩
        rw [flt_sum]
        unfold sumF at q
        rw [cl] at q
        exact q
      · simp only [zM, Int.toNat_natCast]
        refine ⟨by omega, by omega, ?_⟩
        rw [upto_map]
        refine lcL_mapA (fun i : Nat => D.int (i : Nat)) (fun i => fl.getD i false) (fun i => iD ((cntL rs t).getD i 0)) (fun i => [some (.p (.tup (rs.map rowD))), some (.p (.tup (fl.map bD))), some (.p (.int (t : Nat))), some (.p (.lst ((cntL rs t).map iD))), some (.p (.int (i : Nat))), x5, x6, x7, x8]) (fun i => [some (.p (.tup (rs.map rowD))), some (.p (.tup (fl.map bD))), some (.p (.int (t : Nat))), some (.p (.lst ((cntL rs t).map iD))), some (.p (.int (i : Nat))), x5, x6, x7, x8]) (fun i hi Y N y n => ?_) (fun i hi => ⟨rfl, rfl⟩) (by rw [List.length_nil, sizeLine_eq, List.length_range]; omega) ?_
        · have hi := List.mem_range.mp hi
          simp only [zM]
          refine ⟨_, atI_map (f := bD) (a := fl.getD i false) (by rw [List.getD_eq_getElem?_getD, List.getElem?_eq_getElem (by omega)]; rfl), _, rfl, ?_⟩
          by_cases hf : fl.getD i false = true
          · rw [if_pos hf]
            exact ⟨_, atI_map (f := iD) (a := (cntL rs t).getD i 0) (by rw [List.getD_eq_getElem?_getD, List.getElem?_eq_getElem (by omega)]; rfl), y hf⟩
          · rw [if_neg hf]
            exact n (by simpa using hf)
        rw [List.nil_append]
        refine ⟨((List.range rs.length).filter fun i => fl.getD i false).map fun i => (((cntL rs t).getD i 0 : Nat) : Int), by rw [List.map_map]; rfl, rfl, 0, ?_⟩
        rw [flt_sum]
        unfold sumF at q
        rw [cl] at q
        exact q

end
section
variable {P : Program} {w : World} {K : PySem.W.Frag} {mg : Str → Option Value} {base : Heap}
abbrev s_PairSet_count : Stmt := memS (topS 35) 19
theorem sc_PairSet_count : FnScope ["self", "length"] ["self", "length"] (defScope s_PairSet_count) := ⟨rfl, rfl, rfl, by decide +kernel, rfl, by decide +kernel, by decide +kernel⟩
def spd_PairSet_count (aP : Addr) : Spd := fun bs R _ => ∃ (rs : List MRow) (fl : List Bool) (t : Nat), bs = [.p (macD aP rs fl), .p (.int (t : Nat))] ∧ RowsOk rs ∧ fl.length = rs.length ∧ t ≤ 300 ∧ R (.p (.int (sumF (cntL rs t) (fun q => if fl.getD q false = true then 1 else 0) : Nat))) 0
theorem cal_PairSet_count {a_PairSet : Addr} (Da : MethAt K a_PairSet "count" "PairSet.count" s_PairSet_count) (c_is_whole : Cal P w K mg base "is_whole" 1 ["value"] spd_is_whole) (c_count_words : Cal P w K mg base "count_words" 2 ["rows", "accepting", "length"] spd_count_words) {aN fN : Addr} (o_InvalidNumber : OwnX P K aN fN) (m_InvalidNumber : mg "InvalidNumber" = some (.ref aN)) (fo_m : FldOk K a_PairSet "machine") : MethC P w K mg base a_PairSet "count" 3 ["self", "length"] (spd_PairSet_count a_PairSet) := by
  refine meth_mk Da sc_PairSet_count (fun _ _ _ _ _ _ us hl => match us, hl with | [_, _], _ => rfl) (fun bs R E h => ?_) (fun bs R E h => ?_) fun f cdv A outer s H E W bs R ED gu hr te h fh => ?_
  · obtain ⟨rs, fl, t, rfl, ok, hl, ht, q⟩ := h
    rfl
  · obtain ⟨rs, fl, t, rfl, ok, hl, ht, q⟩ := h
    exact pur_none (by simp [B.own])
  · obtain ⟨rs, fl, t, rfl, ok, hl, ht, q⟩ := h
    have nd := sc_PairSet_count.nd
    have hu := hr.units
    refine ⟨_, (dss_cons (ds_if (DW.dt (dw_or (dt_not (dt_val (he := fun _ => rfl) (de_c c_is_whole gu hr (da_cons (de_v 1) da_nil)))) (dw_or (dt_cmp op_lt rd_intB0 (de_v 1) de_int rfl) (dw_or1 (dt_cmp op_gt rd_intB0 (de_v 1) de_int rfl))))) (dss_one (ds_raise te o_InvalidNumber rfl hr rfl m_InvalidNumber (da_cons (de_v 1) da_nil))) dss_nil) (dss_one (ds_ret (de_c c_count_words gu hr (da_cons (de_ix2 hu (de_fld (de_v 0)) de_int fun _ _ => rfl) (da_cons (de_ix2 hu (de_fld (de_v 0)) de_int fun _ _ => rfl) (da_cons (de_v 1) da_nil))))))), ?_⟩
    refine dseq ?_
    simp only [zM, dRaise]
    refine ⟨_, rfl, rfl, rfl, true, rfl, iteF ?_⟩
    rw [if_neg (show ¬ ((t : Nat) : Int) < 0 by omega), if_neg (show ¬ (300 : Int) < ((t : Nat) : Int) by omega)]
    unfold macD
    simp only [zM]
    exact ⟨fo_m, _, at_0, fo_m, _, at_1, rs, fl, t, rfl, ok, hl, ht, rfl, rfl, 0, q⟩
abbrev s_PairSet_every : Stmt := memS (topS 35) 23
theorem sc_PairSet_every : FnScope [] [] (defScope s_PairSet_every) := ⟨rfl, rfl, rfl, by decide +kernel, rfl, by decide +kernel, by decide +kernel⟩
def spd_PairSet_every (aP : Addr) : Spd := fun bs R _ => bs = [] ∧ R (.o (pairD aP [(0, 0, 0)] (flOf [(0, 0, 0)].length [0]))) 0
theorem cal_PairSet_every {a_PairSet : Addr} (Da : StaAt K a_PairSet "every" "PairSet.every" s_PairSet_every) {aI : Addr} (mk_PairSet_2 : MakC P w K mg base "PairSet" a_PairSet 5 ["self", "rows", "accepting"] [] (spi_PairSet a_PairSet aI)) (m_PairSet : ConAt K mg "PairSet" (.ref a_PairSet)) : StaC P w K mg base a_PairSet "every" 7 [] (spd_PairSet_every a_PairSet) := by
  refine sta_mk Da sc_PairSet_every (fun _ _ _ _ _ _ us hl => match us, hl with | [], _ => rfl) (fun bs R E h => ?_) (fun bs R E h => ?_) fun f cdv A outer s H E W bs R ED gu hr te h fh => ?_
  · obtain ⟨rfl, q⟩ := h
    rfl
  · obtain ⟨rfl, q⟩ := h
    exact pur_none (by simp [B.own])
  · obtain ⟨rfl, q⟩ := h
    have nd := sc_PairSet_every.nd
    have hu := hr.units
    refine ⟨_, (dss_one (ds_ret (de_make mk_PairSet_2 gu hr (da_cons (de_lst (da_cons (de_tup (da_cons de_int (da_cons de_int (da_cons de_int da_nil)))) da_nil)) (da_cons (de_lst (da_cons de_int da_nil)) da_nil))))), ?_⟩
    simp only [zM]
    exact ⟨_, _, _, rfl, rfl, rfl, tab_mch (rs := [(0, 0, 0)]) (acc := [0]) ⟨by decide, by decide, by decide⟩ (by decide), .inl ⟨tab_mach (rs := [(0, 0, 0)]) (acc := [0]) ⟨by decide, by decide, by decide⟩ (by decide) (by decide), [(0, 0, 0)], [0], rfl, rfl, ⟨by decide, by decide, by decide⟩, by decide, by decide, rfl, 0, q⟩⟩
abbrev s_PairSet_common : Stmt := memS (topS 35) 24
theorem sc_PairSet_common : FnScope [] [] (defScope s_PairSet_common) := ⟨rfl, rfl, rfl, by decide +kernel, rfl, by decide +kernel, by decide +kernel⟩
def spd_PairSet_common (aP : Addr) : Spd := fun bs R _ => bs = [] ∧ R (.o (pairD aP [(0, 0, 1), (1, 1, 1)] (flOf [(0, 0, 1), (1, 1, 1)].length [1]))) 0
theorem cal_PairSet_common {a_PairSet : Addr} (Da : StaAt K a_PairSet "common" "PairSet.common" s_PairSet_common) {aI : Addr} (mk_PairSet_2 : MakC P w K mg base "PairSet" a_PairSet 5 ["self", "rows", "accepting"] [] (spi_PairSet a_PairSet aI)) (m_PairSet : ConAt K mg "PairSet" (.ref a_PairSet)) : StaC P w K mg base a_PairSet "common" 7 [] (spd_PairSet_common a_PairSet) := by
  refine sta_mk Da sc_PairSet_common (fun _ _ _ _ _ _ us hl => match us, hl with | [], _ => rfl) (fun bs R E h => ?_) (fun bs R E h => ?_) fun f cdv A outer s H E W bs R ED gu hr te h fh => ?_
  · obtain ⟨rfl, q⟩ := h
    rfl
  · obtain ⟨rfl, q⟩ := h
    exact pur_none (by simp [B.own])
  · obtain ⟨rfl, q⟩ := h
    have nd := sc_PairSet_common.nd
    have hu := hr.units
    refine ⟨_, (dss_one (ds_ret (de_make mk_PairSet_2 gu hr (da_cons (de_lst (da_cons (de_tup (da_cons de_int (da_cons de_int (da_cons de_int da_nil)))) (da_cons (de_tup (da_cons de_int (da_cons de_int (da_cons de_int da_nil)))) da_nil))) (da_cons (de_lst (da_cons de_int da_nil)) da_nil))))), ?_⟩
    simp only [zM]
    exact ⟨_, _, _, rfl, rfl, rfl, tab_mch (rs := [(0, 0, 1), (1, 1, 1)]) (acc := [1]) ⟨by decide, by decide, by decide⟩ (by decide), .inl ⟨tab_mach (rs := [(0, 0, 1), (1, 1, 1)]) (acc := [1]) ⟨by decide, by decide, by decide⟩ (by decide) (by decide), [(0, 0, 1), (1, 1, 1)], [1], rfl, rfl, ⟨by decide, by decide, by decide⟩, by decide, by decide, rfl, 0, q⟩⟩
end
section
variable {P : Program} {w : World} {K : PySem.W.Frag} {mg : Str → Option Value} {base : Heap}

def chbC : Nat → Nat
  | 0 => 99
  | 1 => 104
  | _ => 98
def mkS (k : Nat) : Str := ⟨#[chbC k]⟩
theorem find_mk {k : Nat} (h : k < 3) : Txt.find (Str.ofString "chb") (mkS k) = (k : Int) := by
  match k, h with
  | 0, _ => decide +kernel
  | 1, _ => decide +kernel
  | 2, _ => decide +kernel

def mk3 : List D := [.str "c", .str "h", .str "b"]
theorem mk_in {k : Nat} (h : k < 3) : inD (.str (mkS k)) mk3 = true := by
  match k, h with
  | 0, _ => decide +kernel
  | 1, _ => decide +kernel
  | 2, _ => decide +kernel


def wrdS (w : List Nat) : Str := ⟨(w.map chbC).toArray⟩
def mkD1 (k : Nat) : D := .str (mkS k)
theorem signs_w {w : List Nat} : DD.signs (wrdS w) = w.map mkD1 := by
  unfold DD.signs wrdS
  rw [List.map_map]
  rfl
theorem run_snoc {rs : List MRow} {q : Nat} {p : List Nat} {a : Nat} : mrun rs q (p ++ [a]) = nxt rs (mrun rs q p) a := by
  unfold mrun
  rw [List.foldl_append]
  rfl
theorem run_at {rs : List MRow} (ok : RowsOk rs) : ∀ (w : List Nat) {q : Nat}, q < rs.length → mrun rs q w < rs.length := fun w q h => run_lt ok w h

abbrev s_state_from : Stmt := topS 27
theorem sc_state_from : FnScope ["rows", "state", "marks", "mark"] ["rows", "state", "marks"] (defScope s_state_from) := ⟨rfl, rfl, rfl, by decide +kernel, rfl, by decide +kernel, by decide +kernel⟩
def spd_state_from  : Spd := fun bs R _ => ∃ (rs : List MRow) (q0 : Nat) (ws : List Nat) (d : D), bs = [.p d, .p (.int (q0 : Nat)), .p (.str (wrdS ws))] ∧ (d = .lst (rs.map rowD) ∨ d = .tup (rs.map rowD)) ∧ RowsOk rs ∧ q0 < rs.length ∧ Same3 ws ∧ R (.p (.int (mrun rs q0 ws : Nat))) 0
theorem cal_state_from (Da : DefAt K mg "state_from" s_state_from)  : Cal P w K mg base "state_from" 1 ["rows", "state", "marks"] spd_state_from := by
  refine cal_mk none Da sc_state_from (fun _ _ _ _ _ _ us hl => match us, hl with | [_, _, _], _ => rfl) (fun bs R E h => ?_) (fun bs R E h => ?_) fun f cdv A outer s H E W bs R ED gu hr te h fh => ?_
  · obtain ⟨rs, q0, ws, d, rfl, hd, ok, hq, h3, qq⟩ := h
    rfl
  · obtain ⟨rs, q0, ws, d, rfl, hd, ok, hq, h3, qq⟩ := h
    exact pur_none (by simp [B.own])
  · obtain ⟨rs, q0, ws, d, rfl, hd, ok, hq, h3, qq⟩ := h
    have nd := sc_state_from.nd
    have hu := hr.units
    have ps := passes_of (X := cxOf (L2N.CX P w) P w K mg base ["rows", "state", "marks", "mark"] "state_from" (defScope s_state_from) f cdv A outer s H E) rfl
    refine ⟨_, (dss_cons (ds_for te ps rfl (di_any (de_v 2)) (fun _ => (dg_name (i := 3) nd rfl (by first | exact Or.inl rfl | exact Or.inr rfl))) (fun _ te => (dss_one (ds_set (i := 1) nd rfl (by first | exact Or.inl rfl | exact Or.inr rfl) (de_ix2 hu (de_ixN 0 hu (de_v 1) (fun _ _ => rfl)) (de_find de_str (de_v 3)) fun _ _ => rfl))))) (dss_one (ds_ret (de_m 1)))), ?_⟩
    refine dseq ?_
    simp only [zM, signs_w]
    refine forL_run mkD1 (fun p δ => ∃ x3, δ = [some (.p d), some (.p (.int (mrun rs q0 p : Nat))), some (.p (.str (wrdS ws))), x3]) (l := ws) (pre := []) (fun p x r δ e hI N hN => ?_) (fun δ hI => ?_) ⟨none, rfl⟩
    · obtain ⟨x3, rfl⟩ := hI
      rw [List.nil_append] at e
      have hx : x < 3 := h3 x (by rw [e]; simp)
      have pl := run_at ok p hq
      simp only [zM, mkD1]
      refine ⟨rowD (rowAt rs (mrun rs q0 p)), ?_, _, rfl, ?_⟩
      · rcases hd with rfl | rfl <;> exact row_at ok pl
      rw [find_mk hx]
      refine ⟨rfl, _, row_k hx, hN _ ⟨some (.p (.str (mkS x))), ?_⟩⟩
      rw [run_snoc]
    · obtain ⟨x3, rfl⟩ := hI
      simp only [zM]
      exact ⟨0, qq⟩
abbrev s_state_after : Stmt := topS 28
theorem sc_state_after : FnScope ["rows", "marks"] ["rows", "marks"] (defScope s_state_after) := ⟨rfl, rfl, rfl, by decide +kernel, rfl, by decide +kernel, by decide +kernel⟩
def spd_state_after  : Spd := fun bs R _ => ∃ (rs : List MRow) (ws : List Nat) (d : D), bs = [.p d, .p (.str (wrdS ws))] ∧ (d = .lst (rs.map rowD) ∨ d = .tup (rs.map rowD)) ∧ RowsOk rs ∧ Same3 ws ∧ R (.p (.int (mrun rs 0 ws : Nat))) 0
theorem cal_state_after (Da : DefAt K mg "state_after" s_state_after) (c_state_from : Cal P w K mg base "state_from" 1 ["rows", "state", "marks"] spd_state_from) : Cal P w K mg base "state_after" 2 ["rows", "marks"] spd_state_after := by
  refine cal_mk none Da sc_state_after (fun _ _ _ _ _ _ us hl => match us, hl with | [_, _], _ => rfl) (fun bs R E h => ?_) (fun bs R E h => ?_) fun f cdv A outer s H E W bs R ED gu hr te h fh => ?_
  · obtain ⟨rs, ws, d, rfl, hd, ok, h3, qq⟩ := h
    rfl
  · obtain ⟨rs, ws, d, rfl, hd, ok, h3, qq⟩ := h
    exact pur_none (by simp [B.own])
  · obtain ⟨rs, ws, d, rfl, hd, ok, h3, qq⟩ := h
    have nd := sc_state_after.nd
    have hu := hr.units
    refine ⟨_, (dss_one (ds_ret (de_c c_state_from gu hr (da_cons (de_v 0) (da_cons de_int (da_cons (de_v 1) da_nil)))))), ?_⟩
    simp only [zM]
    exact ⟨rs, 0, ws, d, rfl, hd, ok, ok.pos, h3, rfl, rfl, 0, qq⟩
abbrev s__law_read : Stmt := topS 46
theorem sc__law_read : FnScope ["_law_rows", "_law_marks_here", "_law_state", "_law_mark"] ["_law_rows", "_law_marks_here"] (defScope s__law_read) := ⟨rfl, rfl, rfl, by decide +kernel, rfl, by decide +kernel, by decide +kernel⟩
def spd__law_read  : Spd := fun bs R _ => ∃ (rs : List MRow) (ws : List Nat) (d : D), bs = [.p d, .p (.str (wrdS ws))] ∧ (d = .lst (rs.map rowD) ∨ d = .tup (rs.map rowD)) ∧ RowsOk rs ∧ Same3 ws ∧ R (.p (.int (mrun rs 0 ws : Nat))) 0
theorem cal__law_read (Da : DefAt K mg "_law_read" s__law_read)  : Cal P w K mg base "_law_read" 1 ["_law_rows", "_law_marks_here"] spd__law_read := by
  refine cal_mk none Da sc__law_read (fun _ _ _ _ _ _ us hl => match us, hl with | [_, _], _ => rfl) (fun bs R E h => ?_) (fun bs R E h => ?_) fun f cdv A outer s H E W bs R ED gu hr te h fh => ?_
  · obtain ⟨rs, ws, d, rfl, hd, ok, h3, qq⟩ := h
    rfl
  · obtain ⟨rs, ws, d, rfl, hd, ok, h3, qq⟩ := h
    exact pur_none (by simp [B.own])
  · obtain ⟨rs, ws, d, rfl, hd, ok, h3, qq⟩ := h
    have nd := sc__law_read.nd
    have hu := hr.units
    have ps := passes_of (X := cxOf (L2N.CX P w) P w K mg base ["_law_rows", "_law_marks_here", "_law_state", "_law_mark"] "_law_read" (defScope s__law_read) f cdv A outer s H E) rfl
    refine ⟨_, (dss_cons (ds_set (i := 2) nd rfl (by first | exact Or.inl rfl | exact Or.inr rfl) de_int) (dss_cons (ds_for te ps rfl (di_any (de_v 1)) (fun _ => (dg_name (i := 3) nd rfl (by first | exact Or.inl rfl | exact Or.inr rfl))) (fun _ te => (dss_one (ds_set (i := 2) nd rfl (by first | exact Or.inl rfl | exact Or.inr rfl) (de_ix2 hu (de_ixN 0 hu (de_v 2) (fun _ _ => rfl)) (de_find de_str (de_v 3)) fun _ _ => rfl))))) (dss_one (ds_ret (de_m 2))))), ?_⟩
    refine dseq ?_
    simp only [zM]
    refine dseq ?_
    simp only [zM, signs_w]
    refine forL_run mkD1 (fun p δ => ∃ x3, δ = [some (.p d), some (.p (.str (wrdS ws))), some (.p (.int (mrun rs 0 p : Nat))), x3]) (l := ws) (pre := []) (fun p x r δ e hI N hN => ?_) (fun δ hI => ?_) ⟨none, rfl⟩
    · obtain ⟨x3, rfl⟩ := hI
      rw [List.nil_append] at e
      have hx : x < 3 := h3 x (by rw [e]; simp)
      have pl := run_at ok p ok.pos
      simp only [zM, mkD1]
      refine ⟨rowD (rowAt rs (mrun rs 0 p)), ?_, _, rfl, ?_⟩
      · rcases hd with rfl | rfl <;> exact row_at ok pl
      rw [find_mk hx]
      refine ⟨rfl, _, row_k hx, hN _ ⟨some (.p (.str (mkS x))), ?_⟩⟩
      rw [run_snoc]
    · obtain ⟨x3, rfl⟩ := hI
      simp only [zM]
      exact ⟨0, qq⟩
abbrev s_is_marks : Stmt := topS 14
theorem sc_is_marks : FnScope ["value", "mark"] ["value"] (defScope s_is_marks) := ⟨rfl, rfl, rfl, by decide +kernel, rfl, by decide +kernel, by decide +kernel⟩
def spd_is_marks  : Spd := fun bs R _ => ∃ ws, bs = [.p (.str (wrdS ws))] ∧ Same3 ws ∧ ws.length ≤ 1000000 ∧ R (.p (.bl true)) 0
theorem cal_is_marks (Da : DefAt K mg "is_marks" s_is_marks) (c_MARKS : ConAt K mg "MARKS" (.cst mk3)) (m_isinstance : mg "isinstance" = none) (m_str : mg "str" = none) : Cal P w K mg base "is_marks" 1 ["value"] spd_is_marks := by
  refine cal_mk none Da sc_is_marks (fun _ _ _ _ _ _ us hl => match us, hl with | [_], _ => rfl) (fun bs R E h => ?_) (fun bs R E h => ?_) fun f cdv A outer s H E W bs R ED gu hr te h fh => ?_
  · obtain ⟨ws, rfl, h3, hz, q⟩ := h
    rfl
  · obtain ⟨ws, rfl, h3, hz, q⟩ := h
    exact pur_none (by simp [B.own])
  · obtain ⟨ws, rfl, h3, hz, q⟩ := h
    have nd := sc_is_marks.nd
    have hu := hr.units
    refine ⟨_, (dss_one (ds_ret (de_and (de_callB call_isZ (rc_isa (K := K)) rfl m_isinstance bt_isinstance (da_cons (de_v 0) (da_cons (de_ty m_str bt_str) da_nil))) (de_one (de_cmp (op_eqNil hu) (rd_nil (t := true)) (de_lc rfl nd (di_any (de_v 0)) (own := [("mark", 1)]) (blkOk_by (by kernel_rfl)) (fun _ _ _ _ _ _ => (dgc_name (i := 1) (by decide) nd rfl (by first | exact Or.inl rfl | exact Or.inr rfl))) (fun _ _ _ _ _ _ => (dts_one (dt_cmpL 1 (op_notInX hu) rl_in (de_con c_MARKS)))) (fun _ _ _ _ _ _ => (de_v 1))) (de_lst da_nil) rfl))))), ?_⟩
    simp only [zM, isa_Str (d := .str (wrdS ws)) rfl, signs_w]
    refine iteT ?_
    refine lcL_mapA mkD1 (fun _ => false) mkD1 (fun k => [some (.p (.str (wrdS ws))), some (.p (mkD1 k))]) (fun k => [some (.p (.str (wrdS ws))), some (.p (mkD1 k))]) (fun k hk Y N y n => ?_) (fun k hk => ⟨rfl, rfl⟩) (by rw [List.length_nil, sizeLine_eq]; omega) ?_
    · have hi : isIn (mkD1 k) (.cst mk3) = some true := by
        rw [show isIn (mkD1 k) (.cst mk3) = some (inD (.str (mkS k)) mk3) from rfl, mk_in (h3 k hk)]
      simp only [zM, inL, inG]
      exact ⟨true, hi, iteF (n rfl)⟩
    · rw [show ws.filter (fun _ => false) = [] from List.filter_eq_nil_iff.mpr fun _ _ => by simp]
      exact ⟨0, q⟩
abbrev s_check_marks : Stmt := topS 15
theorem sc_check_marks : FnScope ["value"] ["value"] (defScope s_check_marks) := ⟨rfl, rfl, rfl, by decide +kernel, rfl, by decide +kernel, by decide +kernel⟩
def spd_check_marks  : Spd := fun bs R E => ∃ ws, bs = [.p (.str (wrdS ws))] ∧ Same3 ws ∧ ws.length ≤ 1000000 ∧ R (.p .non) 0
theorem cal_check_marks (Da : DefAt K mg "check_marks" s_check_marks) (c_is_marks : Cal P w K mg base "is_marks" 1 ["value"] spd_is_marks) {aM fM : Addr} (o_InvalidMarks : OwnX P K aM fM) (m_InvalidMarks : mg "InvalidMarks" = some (.ref aM)) : Cal P w K mg base "check_marks" 3 ["value"] spd_check_marks := by
  refine cal_mk none Da sc_check_marks (fun _ _ _ _ _ _ us hl => match us, hl with | [_], _ => rfl) (fun bs R E h => ?_) (fun bs R E h => ?_) fun f cdv A outer s H E W bs R ED gu hr te h fh => ?_
  · obtain ⟨ws, rfl, h3, hz, q⟩ := h
    rfl
  · obtain ⟨ws, rfl, h3, hz, q⟩ := h
    exact pur_none (by simp [B.own])
  · obtain ⟨ws, rfl, h3, hz, q⟩ := h
    have nd := sc_check_marks.nd
    have hu := hr.units
    refine ⟨_, (dss_one (ds_if (dt_not (dt_val (he := fun _ => rfl) (de_c c_is_marks gu hr (da_cons (de_v 0) da_nil)))) (dss_one (ds_raise te o_InvalidMarks rfl hr rfl m_InvalidMarks (da_cons (de_v 0) da_nil))) dss_nil)), ?_⟩
    simp only [zM, dRaise]
    exact ⟨ws, rfl, h3, hz, rfl, true, rfl, iteF ⟨0, q⟩⟩
abbrev s_PairSet_has : Stmt := memS (topS 35) 17
theorem sc_PairSet_has : FnScope ["self", "marks"] ["self", "marks"] (defScope s_PairSet_has) := ⟨rfl, rfl, rfl, by decide +kernel, rfl, by decide +kernel, by decide +kernel⟩
def spd_PairSet_has (aP : Addr) : Spd := fun bs R _ => ∃ rs fl ws, bs = [.p (macD aP rs fl), .p (.str (wrdS ws))] ∧ RowsOk rs ∧ fl.length = rs.length ∧ Same3 ws ∧ ws.length ≤ 1000000 ∧ R (.p (.bl (lang rs fl ws))) 0
theorem cal_PairSet_has {a_PairSet : Addr} (Da : MethAt K a_PairSet "has" "PairSet.has" s_PairSet_has) (c_check_marks : Cal P w K mg base "check_marks" 3 ["value"] spd_check_marks) (c_state_after : Cal P w K mg base "state_after" 2 ["rows", "marks"] spd_state_after) (fo_m : FldOk K a_PairSet "machine") : MethC P w K mg base a_PairSet "has" 4 ["self", "marks"] (spd_PairSet_has a_PairSet) := by
  refine meth_mk Da sc_PairSet_has (fun _ _ _ _ _ _ us hl => match us, hl with | [_, _], _ => rfl) (fun bs R E h => ?_) (fun bs R E h => ?_) fun f cdv A outer s H E W bs R ED gu hr te h fh => ?_
  · obtain ⟨rs, fl, ws, rfl, ok, hl, h3, hz, q⟩ := h
    rfl
  · obtain ⟨rs, fl, ws, rfl, ok, hl, h3, hz, q⟩ := h
    exact pur_none (by simp [B.own])
  · obtain ⟨rs, fl, ws, rfl, ok, hl, h3, hz, q⟩ := h
    have nd := sc_PairSet_has.nd
    have hu := hr.units
    refine ⟨_, (dss_cons (ds_expr (de_c c_check_marks gu hr (da_cons (de_v 1) da_nil))) (dss_one (ds_ret (de_ix2 hu (de_ix2 hu (de_fld (de_v 0)) de_int fun _ _ => rfl) (de_c c_state_after gu hr (da_cons (de_ix2 hu (de_fld (de_v 0)) de_int fun _ _ => rfl) (da_cons (de_v 1) da_nil))) fun _ _ => rfl)))), ?_⟩
    refine dseq ?_
    simp only [zM]
    refine ⟨ws, rfl, h3, hz, ?_⟩
    simp only [zM, macD]
    have e : fl[mrun rs 0 ws]? = some (lang rs fl ws) := by
      unfold lang
      rw [List.getD_eq_getElem?_getD, List.getElem?_eq_getElem (by rw [hl]; exact run_at ok ws ok.pos)]
      rfl
    exact ⟨fo_m, _, at_1, fo_m, _, at_0, rs, ws, _, rfl, .inr rfl, ok, h3, rfl, rfl, _, atI_map (f := bD) e, 0, q⟩
end
section
variable {P : Program} {w : World} {K : PySem.W.Frag} {mg : Str → Option Value} {base : Heap}
abbrev s__law_pick : Stmt := topS 43
theorem sc__law_pick : FnScope ["_law_purse_here", "_law_items"] ["_law_purse_here", "_law_items"] (defScope s__law_pick) := ⟨rfl, rfl, rfl, by decide +kernel, rfl, by decide +kernel, by decide +kernel⟩
def spd__law_pick  : Spd := fun bs R _ => ∃ (n : Nat) (ds : List D), bs = [.u true n, .p (.lst ds)] ∧ 0 < ds.length ∧ ds.length < 1000000 ∧ n ≤ 950000 ∧ ∀ d ∈ ds, R (.p d) (n + 1)
theorem cal__law_pick (Da : DefAt K mg "_law_pick" s__law_pick) (c__law_draw : Cal P w K mg base "_law_draw" 1 ["_law_purse_here", "_law_many"] spdDraw) (m_len : mg "len" = none) : Cal P w K mg base "_law_pick" 2 ["_law_purse_here", "_law_items"] spd__law_pick := by
  refine cal_mk (some 0) Da sc__law_pick (fun _ _ _ _ _ _ us hl => match us, hl with | [_, _], _ => rfl) (fun bs R E h => ?_) (fun bs R E h => ?_) fun f cdv A outer s H E W bs R ED gu hr te h fh => ?_
  · obtain ⟨n, ds, rfl, h0, h1, hn, q⟩ := h
    rfl
  · obtain ⟨n, ds, rfl, h0, h1, hn, q⟩ := h
    exact pur_zero (by simp [B.own])
  · obtain ⟨n, ds, rfl, h0, h1, hn, q⟩ := h
    have nd := sc__law_pick.nd
    have hu := hr.units
    refine ⟨_, (dss_one (ds_ret (de_ixN 1 hu (de_cP c__law_draw gu hr (i := 0) rfl (da_cons (de_lenN 1 m_len) da_nil)) (fun _ _ => rfl)))), ?_⟩
    simp only [zM]
    have big : (1000000 : Int) < 10 ^ 2000 := by decide +kernel
    refine ⟨n, _, rfl, by omega, by omega, by omega, fun d h2 h3 => ?_⟩
    obtain ⟨i, rfl⟩ := Int.eq_ofNat_of_zero_le h2
    have hi : i < ds.length := by omega
    exact ⟨rfl, rfl, ds[i], atI_nat (List.getElem?_eq_getElem hi), q _ (List.getElem_mem hi)⟩
theorem join_back : ∀ l : List Nat, Txt.join "" (l.map fun c => (⟨#[c]⟩ : Str)) = ⟨l.toArray⟩ := by
  intro l
  show Builtin.Str.glued _ _ = _
  rw [StrLaws.glued_eq_join]
  have key : ∀ l : List Nat, _root_.TL.tl (Str.join "" (l.map fun c => (⟨#[c]⟩ : Str))) = l := by
    intro l
    rw [_root_.TL.tl_join]
    induction l with
    | nil => rfl
    | cons c l ih =>
      cases l with
      | nil => rfl
      | cons d l =>
        show [c] ++ (_root_.TL.tl "" ++ _root_.TL.joinL (_root_.TL.tl "") (((d :: l).map fun c => (⟨#[c]⟩ : Str)).map _root_.TL.tl)) = _
        rw [ih]
        rfl
  have := key l
  have e : ∀ (s : Str) (l : List Nat), _root_.TL.tl s = l → s = ⟨l.toArray⟩ := fun s l h => by
    subst h
    cases s with
    | mk a => rfl
  exact e _ _ this
def MkT (x : Str) : Prop := ∀ c ∈ x.cps.toList, c = 98 ∨ c = 99 ∨ c = 104
theorem singles {ys : List Str} (h : ∀ y ∈ ys, y = "c" ∨ y = "h" ∨ y = "b") : ∃ l : List Nat, ys = l.map (fun c => (⟨#[c]⟩ : Str)) ∧ ∀ c ∈ l, c = 98 ∨ c = 99 ∨ c = 104 := by
  induction ys with
  | nil => exact ⟨[], rfl, fun _ h => by cases h⟩
  | cons y ys ih =>
    obtain ⟨l, h1, h2⟩ := ih fun y hy => h y (List.mem_cons_of_mem _ hy)
    have one : ∃ c : Nat, y = ⟨#[c]⟩ ∧ (c = 98 ∨ c = 99 ∨ c = 104) := by
      rcases h y List.mem_cons_self with rfl | rfl | rfl
      · exact ⟨99, rfl, .inr (.inl rfl)⟩
      · exact ⟨104, rfl, .inr (.inr rfl)⟩
      · exact ⟨98, rfl, .inl rfl⟩
    obtain ⟨c, e, hc⟩ := one
    refine ⟨c :: l, by rw [List.map_cons, ← h1, e], fun d hd => ?_⟩
    rcases List.mem_cons.mp hd with z | z
    · rw [z]
      exact hc
    · exact h2 d z
theorem mk_join {ys : List Str} (h : ∀ y ∈ ys, y = "c" ∨ y = "h" ∨ y = "b") : MkT (Txt.join "" ys) ∧ (Txt.join "" ys).length = ys.length ∧ (ys.map (·.length)).sum = ys.length := by
  obtain ⟨l, rfl, hl⟩ := singles h
  refine ⟨?_, ?_, ?_⟩
  · rw [join_back]
    intro c hc
    exact hl c (by simpa using hc)
  · rw [join_back, List.length_map]
    show l.toArray.size = _
    simp
  · rw [List.map_map]
    clear hl h
    induction l with
    | nil => rfl
    | cons c l ih =>
      rw [List.map_cons, List.sum_cons, ih]
      show 1 + _ = _
      rw [List.length_map, List.length_map, List.length_cons]
      omega
def IsMkS (y : Str) : Prop := y = "c" ∨ y = "h" ∨ y = "b"

abbrev s__law_marks : Stmt := topS 44
theorem sc__law_marks : FnScope ["_law_purse_here", "_law_most", "_law_turn"] ["_law_purse_here", "_law_most"] (defScope s__law_marks) := ⟨rfl, rfl, rfl, by decide +kernel, rfl, by decide +kernel, by decide +kernel⟩
def spd__law_marks  : Spd := fun bs R _ => ∃ n most : Nat, bs = [.u true n, .p (.int (most : Nat))] ∧ most ≤ 120 ∧ n ≤ 90000 ∧ ∀ x m, MkT x → x.length ≤ most → n ≤ m → m ≤ n + 1 + most → R (.p (.str x)) m
theorem cal__law_marks (Da : DefAt K mg "_law_marks" s__law_marks) (c__law_draw : Cal P w K mg base "_law_draw" 1 ["_law_purse_here", "_law_many"] spdDraw) (c__law_pick : Cal P w K mg base "_law_pick" 2 ["_law_purse_here", "_law_items"] spd__law_pick) (m_range : mg "range" = none) : Cal P w K mg base "_law_marks" 3 ["_law_purse_here", "_law_most"] spd__law_marks := by
  refine cal_mk (some 0) Da sc__law_marks (fun _ _ _ _ _ _ us hl => match us, hl with | [_, _], _ => rfl) (fun bs R E h => ?_) (fun bs R E h => ?_) fun f cdv A outer s H E W bs R ED gu hr te h fh => ?_
  · obtain ⟨n, most, rfl, hm, hn, q⟩ := h
    rfl
  · obtain ⟨n, most, rfl, hm, hn, q⟩ := h
    exact pur_zero (by simp [B.own])
  · obtain ⟨n, most, rfl, hm, hn, q⟩ := h
    have nd := sc__law_marks.nd
    have hu := hr.units
    refine ⟨_, (dss_one (ds_ret (de_join de_str (de_lc rfl nd (DI0.di (di_range1 rfl m_range (da_cons (de_cP c__law_draw gu hr (i := 0) rfl (da_cons (de_op op_addAll rd_add (de_v 1) de_int) da_nil)) da_nil))) (own := [("_law_turn", 2)]) (blkOk_by (by kernel_rfl)) (fun _ _ _ _ _ _ => (dgc_name (i := 2) (by decide) nd rfl (by first | exact Or.inl rfl | exact Or.inr rfl))) (fun _ _ _ _ _ _ => dts_nil) (fun _ _ _ _ _ _ => (de_cP c__law_pick gu hr (i := 0) rfl (da_cons (de_lst (da_cons de_str (da_cons de_str (da_cons de_str (da_cons de_str (da_cons de_str da_nil)))))) da_nil))))))), ?_⟩
    simp only [zM]
    have big : (1000000 : Int) < 10 ^ 2000 := by decide +kernel
    refine ⟨n, _, rfl, by omega, by omega, by omega, fun d d0 d1 => ⟨rfl, ?_⟩⟩
    obtain ⟨d, rfl⟩ := int_nat d0
    simp only [zM]
    refine ⟨by omega, by omega, ?_⟩
    rw [Int.toNat_natCast]
    refine lcL_pre (pre := []) (fun p acc δ => ∃ ys : List Str, acc = ys.map D.str ∧ (∀ y ∈ ys, IsMkS y) ∧ ys.length = p.length ∧ ys.length ≤ 121 ∧ δ = [some (.u true (n + 1 + p.length)), some (.p (.int (most : Nat))), none]) (fun p acc δ hI => ?_) (fun p e r acc δ hp hI Y M hY hM => ?_) (fun acc δ hI => ?_) ⟨[], rfl, (fun _ h => by cases h), rfl, by decide, rfl⟩
    · obtain ⟨ys, rfl, h1, h2, h3, rfl⟩ := hI
      rw [List.length_map, sizeLine_eq]
      omega
    · obtain ⟨ys, rfl, h1, h2, h3, rfl⟩ := hI
      have hpl := congrArg List.length hp
      rw [List.nil_append, List.length_append, List.length_cons, upto_ln] at hpl
      simp only [zM, dYes]
      refine ⟨n + 1 + p.length, _, rfl, by decide, by decide, by omega, fun s hs => ?_⟩
      have step : ∀ y : Str, IsMkS y → Y (.str y) [some (.u true (n + 1 + p.length + 1)), some (.p (.int (most : Nat))), some (.p e)] := fun y hy => by
        refine hY _ _ ⟨ys ++ [y], by rw [List.map_append]; rfl, fun z hz => ?_, by rw [List.length_append, List.length_append, h2]; rfl, by rw [List.length_append, List.length_singleton]; omega, ?_⟩
        · rcases List.mem_append.mp hz with h | h
          · exact h1 z h
          · rw [List.mem_singleton.mp h]
            exact hy
        · rw [List.length_append, List.length_singleton, ← Nat.add_assoc]
          rfl
      simp only [List.mem_cons, List.not_mem_nil, or_false] at hs
      rcases hs with rfl | rfl | rfl | rfl | rfl
      · exact ⟨rfl, rfl, step _ (.inl rfl)⟩
      · exact ⟨rfl, rfl, step _ (.inr (.inl rfl))⟩
      · exact ⟨rfl, rfl, step _ (.inr (.inr rfl))⟩
      · exact ⟨rfl, rfl, step _ (.inr (.inr rfl))⟩
      · exact ⟨rfl, rfl, step _ (.inl rfl)⟩
    · obtain ⟨ys, rfl, hy, hl, hl2, rfl⟩ := hI
      rw [List.nil_append, upto_ln] at hl
      obtain ⟨mt, ml, ms⟩ := mk_join hy
      have hyl : ys.length ≤ most := by omega
      refine ⟨ys, rfl, by rw [ms]; have e0 : (Str.ofString "").length = 0 := rfl; rw [e0]; omega, rfl, ?_⟩
      rw [List.nil_append, upto_ln]
      exact ⟨n + 1 + d, rfl, q _ (n + 1 + d) mt (by omega) (by omega) (by omega)⟩

theorem mk_words {x : Str} (h : MkT x) : ∃ ws : List Nat, x = wrdS ws ∧ Same3 ws ∧ ws.length = x.length := by
  refine ⟨x.cps.toList.map fun c => if c = 99 then 0 else if c = 104 then 1 else 2, ?_, fun a ha => ?_, by rw [List.length_map]; rfl⟩
  · unfold wrdS
    rw [List.map_map]
    have : x.cps.toList.map (chbC ∘ fun c => if c = 99 then 0 else if c = 104 then 1 else 2) = x.cps.toList := by
      refine (List.map_congr_left fun c hc => ?_).trans (List.map_id _)
      rcases h c hc with rfl | rfl | rfl <;> rfl
    rw [this]
  · obtain ⟨c, _, rfl⟩ := List.mem_map.mp ha
    show (if c = 99 then 0 else if c = 104 then 1 else 2) < 3
    split
    · decide
    · split <;> decide

end
section
variable {P : Program} {w : World} {K : PySem.W.Frag} {mg : Str → Option Value} {base : Heap}

theorem of2_join {b1 b2 r1 r2 : List MRow} {g1 g2 f1 f2 : List Bool} {f g : Bool → Bool → Bool} {t : Bool → Bool → Bool} {os : List PairN} {rows : List MRow} (A : Of2 b1 b2 g1 g2 f r1 f1) (B : Of2 b1 b2 g1 g2 g r2 f2) (J : Joined r1 r2 os rows) (hb : os.length ≤ 4094) : Of2 b1 b2 g1 g2 (fun a b => t (f a b) (g a b)) (lstR rows (jfl t os f1 f2)) (lstF rows (jfl t os f1 f2)) where
  L := least_lst (joined_rowsOk J hb)
  e := fun w => by
    rw [lst_lang (joined_rowsOk J hb), joined_lang (t := t) (f1 := f1) (f2 := f2) J (fun i x hx => ?_), A.e, B.e]
    unfold jfl
    rw [List.getD_eq_getElem?_getD, List.getElem?_map, hx]
    rfl
theorem of2_neg {b1 b2 r1 : List MRow} {g1 g2 f1 : List Bool} {f : Bool → Bool → Bool} (A : Of2 b1 b2 g1 g2 f r1 f1) : Of2 b1 b2 g1 g2 (fun a b => !(f a b)) (lstR r1 (f1.map (!·))) (lstF r1 (f1.map (!·))) where
  L := least_lst A.L.ok
  e := fun w => by rw [lst_lang A.L.ok, lang_not A.L.ok A.L.len, A.e]
theorem of2_cmb {b1 b2 r1 r2 : List MRow} {g1 g2 f1 f2 : List Bool} {f g : Bool → Bool → Bool} {t : Bool → Bool → Bool} {aP aS : Addr} {R : B → Nat → Prop} {E : Addr → List D → Nat → Prop} (A : Of2 b1 b2 g1 g2 f r1 f1) (B : Of2 b1 b2 g1 g2 g r2 f2) (ok1 : RowsOk b1) (ok2 : RowsOk b2) (hb : b1.length * b2.length ≤ 64)
    (h : ∀ r fl, Of2 b1 b2 g1 g2 (fun a b => t (f a b) (g a b)) r fl → R (.o (macD aP r fl)) 0) : CmbP aP aS t (macD aP r1 f1) (macD aP r2 f2) R E := by
  have l1 := A.len ok1 ok2
  have l2 := B.len ok1 ok2
  have lm : r1.length * r2.length ≤ 64 * 64 := Nat.mul_le_mul (Nat.le_trans l1 hb) (Nat.le_trans l2 hb)
  have lo : ∀ os rows, Joined r1 r2 os rows → os.length ≤ 4094 := fun os rows J => Nat.le_trans (joint_le ok1 ok2 A.det B.det J) (by omega)
  exact ⟨r1, f1, rfl, A.L.ok, A.L.len, .inl ⟨r2, f2, rfl, B.L.ok, B.L.len, ⟨by omega, lo⟩, fun os rows J => h _ _ (of2_join A B J (lo os rows J))⟩⟩

abbrev s__law_laws_of_sets : Stmt := topS 49
theorem sc__law_laws_of_sets : FnScope ["_law_one", "_law_other", "_law_length", "_law_inner", "_law_some", "_law_many", "_law_every"] ["_law_one", "_law_other", "_law_length"] (defScope s__law_laws_of_sets) := ⟨rfl, rfl, rfl, by decide +kernel, rfl, by decide +kernel, by decide +kernel⟩
def spd__law_laws_of_sets (aP : Addr) : Spd := fun bs R _ => ∃ (b1 b2 : List MRow) (g1 g2 : List Bool) (t : Nat), bs = [.p (macD aP b1 g1), .p (macD aP b2 g2), .p (.int (t : Nat))] ∧ Least b1 g1 ∧ Least b2 g2 ∧ b1.length * b2.length ≤ 64 ∧ t ≤ 300 ∧ R (.p (.bl true)) 0
theorem cal__law_laws_of_sets (Da : DefAt K mg "_law_laws_of_sets" s__law_laws_of_sets) {a_PairSet aS : Addr} (mt_PairSet___and__ : MethC P w K mg base a_PairSet (PySem.dunder "and") 9 ["self", "other"] (spd_PairSet___and__ a_PairSet aS)) (bk_PairSet_and : BinK K a_PairSet "and") (mt_PairSet___or__ : MethC P w K mg base a_PairSet (PySem.dunder "or") 9 ["self", "other"] (spd_PairSet___or__ a_PairSet aS)) (bk_PairSet_or : BinK K a_PairSet "or") (mt_PairSet___sub__ : MethC P w K mg base a_PairSet (PySem.dunder "sub") 9 ["self", "other"] (spd_PairSet___sub__ a_PairSet aS)) (bk_PairSet_sub : BinK K a_PairSet "sub") (mt_PairSet___xor__ : MethC P w K mg base a_PairSet (PySem.dunder "xor") 9 ["self", "other"] (spd_PairSet___xor__ a_PairSet aS)) (bk_PairSet_xor : BinK K a_PairSet "xor") (mc_PairSet_le : CmpC P w K mg base a_PairSet "__le__" 4 (spd_PairSet___le__ a_PairSet aS)) (mc_PairSet_lt : CmpC P w K mg base a_PairSet "__lt__" 4 (spd_PairSet___lt__ a_PairSet aS)) (mc_PairSet_ge : CmpC P w K mg base a_PairSet "__ge__" 4 (spd_PairSet___ge__ a_PairSet aS)) (mc_PairSet_gt : CmpC P w K mg base a_PairSet "__gt__" 4 (spd_PairSet___gt__ a_PairSet aS)) (eq_PairSet : CmpC P w K mg base a_PairSet "__eq__" 1 (spd_PairSet___eq__ a_PairSet)) (ne_PairSet : NeC K a_PairSet) (io_PairSet : InsOk K a_PairSet) (nf_PairSet : NoFirst K a_PairSet) (mt_PairSet___invert__ : MethC P w K mg base a_PairSet "__invert__" 8 ["self"] (spd_PairSet___invert__ a_PairSet)) (mt_PairSet_count : MethC P w K mg base a_PairSet "count" 3 ["self", "length"] (spd_PairSet_count a_PairSet)) (mt_PairSet___bool__ : MethC P w K mg base a_PairSet "__bool__" 1 ["self"] (spd_PairSet___bool__ a_PairSet)) (st_PairSet_every : StaC P w K mg base a_PairSet "every" 7 [] (spd_PairSet_every a_PairSet)) (c_PairSet : ConAt K mg "PairSet" (.ref a_PairSet)) : Cal P w K mg base "_law_laws_of_sets" 10 ["_law_one", "_law_other", "_law_length"] (spd__law_laws_of_sets a_PairSet) := by
  refine cal_mk none Da sc__law_laws_of_sets (fun _ _ _ _ _ _ us hl => match us, hl with | [_, _, _], _ => rfl) (fun bs R E h => ?_) (fun bs R E h => ?_) fun f cdv A outer s H E W bs R ED gu hr te h fh => ?_
  · obtain ⟨b1, b2, g1, g2, t, rfl, B1, B2, hb, ht, q⟩ := h
    rfl
  · obtain ⟨b1, b2, g1, g2, t, rfl, B1, B2, hb, ht, q⟩ := h
    exact pur_none (by simp [B.own])
  · obtain ⟨b1, b2, g1, g2, t, rfl, B1, B2, hb, ht, q⟩ := h
    have nd := sc__law_laws_of_sets.nd
    have hu := hr.units
    refine ⟨_, (dss_cons (ds_par (i := 3) (j := 4) rfl nd rfl rfl (by decide) rfl rfl (db_cons (fun _ => (de_bin mt_PairSet___and__ bk_PairSet_and gu hr (de_v 0) (de_v 1))) (db_cons (fun _ => (de_bin mt_PairSet___or__ bk_PairSet_or gu hr (de_v 0) (de_v 1))) db_nil)) rfl) (dss_cons (ds_set (i := 5) nd rfl (by first | exact Or.inl rfl | exact Or.inr rfl) (de_op op_addAll rd_add (de_meth mt_PairSet_count gu hr (de_v 3) (da_cons (de_v 2) da_nil)) (de_meth mt_PairSet_count gu hr (de_v 4) (da_cons (de_v 2) da_nil)))) (dss_cons (ds_if (dt_cmpL 5 (op_neAll hu) rl_ne (de_op op_addAll rd_add (de_meth mt_PairSet_count gu hr (de_v 0) (da_cons (de_v 2) da_nil)) (de_meth mt_PairSet_count gu hr (de_v 1) (da_cons (de_v 2) da_nil)))) (dss_one (ds_ret de_bl)) dss_nil) (dss_cons (ds_if (DW.dt (dw_or (dt_not (dt_cmpO rich_LtE mc_PairSet_le gu hr (de_v 3) (de_v 0))) (dw_or (dt_not (dt_cmpO rich_LtE mc_PairSet_le gu hr (de_v 3) (de_v 1))) (dw_or1 (dt_not (dt_cmpO rich_LtE mc_PairSet_le gu hr (de_v 0) (de_v 4))))))) (dss_one (ds_ret de_bl)) dss_nil) (dss_cons (ds_if (DW.dt (dw_or (dt_not (dt_cmpO rich_LtE mc_PairSet_le gu hr (de_v 1) (de_v 4))) (dw_or1 (dt_not (dt_cmpO rich_GtE mc_PairSet_ge gu hr (de_v 4) (de_v 3)))))) (dss_one (ds_ret de_bl)) dss_nil) (dss_cons (ds_if (DW.dt (dw_or (dt_neA eq_PairSet ne_PairSet gu hr (de_bin mt_PairSet___xor__ bk_PairSet_xor gu hr (de_v 0) (de_v 1)) (de_bin mt_PairSet___sub__ bk_PairSet_sub gu hr (de_v 4) (de_v 3))) (dw_or1 (dt_neA eq_PairSet ne_PairSet gu hr (de_bin mt_PairSet___sub__ bk_PairSet_sub gu hr (de_v 0) (de_v 1)) (de_bin mt_PairSet___and__ bk_PairSet_and gu hr (de_v 0) (de_inv mt_PairSet___invert__ gu hr (de_v 1))))))) (dss_one (ds_ret de_bl)) dss_nil) (dss_cons (ds_if (DW.dt (dw_or (dt_neA eq_PairSet ne_PairSet gu hr (de_v 4) (de_bin mt_PairSet___or__ bk_PairSet_or gu hr (de_v 1) (de_v 0))) (dw_or1 (dt_neA eq_PairSet ne_PairSet gu hr (de_v 3) (de_bin mt_PairSet___and__ bk_PairSet_and gu hr (de_v 1) (de_v 0)))))) (dss_one (ds_ret de_bl)) dss_nil) (dss_cons (ds_if (DW.dt (dw_or (dt_neA eq_PairSet ne_PairSet gu hr (de_inv mt_PairSet___invert__ gu hr (de_v 3)) (de_bin mt_PairSet___or__ bk_PairSet_or gu hr (de_inv mt_PairSet___invert__ gu hr (de_v 0)) (de_inv mt_PairSet___invert__ gu hr (de_v 1)))) (dw_or (dt_neA eq_PairSet ne_PairSet gu hr (de_inv mt_PairSet___invert__ gu hr (de_v 4)) (de_bin mt_PairSet___and__ bk_PairSet_and gu hr (de_inv mt_PairSet___invert__ gu hr (de_v 0)) (de_inv mt_PairSet___invert__ gu hr (de_v 1)))) (dw_or (dt_neA eq_PairSet ne_PairSet gu hr (de_inv mt_PairSet___invert__ gu hr (de_inv mt_PairSet___invert__ gu hr (de_v 0))) (de_v 0)) (dw_or1 (dt_neA eq_PairSet ne_PairSet gu hr (de_bin mt_PairSet___sub__ bk_PairSet_sub gu hr (de_v 0) (de_v 0)) (de_bin mt_PairSet___xor__ bk_PairSet_xor gu hr (de_v 0) (de_v 0)))))))) (dss_one (ds_ret de_bl)) dss_nil) (dss_cons (ds_if (DW.dt (dw_or (dt_cmp (op_neAll hu) rd_ne (de_cmpO rich_LtE mc_PairSet_le gu hr (de_v 0) (de_v 1)) (de_cmpO rich_Eq eq_PairSet gu hr (de_v 3) (de_v 0)) rfl) (dw_or1 (dt_cmp (op_neAll hu) rd_ne (de_cmpO rich_LtE mc_PairSet_le gu hr (de_v 0) (de_v 1)) (de_notI mt_PairSet___bool__ gu hr (de_bin mt_PairSet___sub__ bk_PairSet_sub gu hr (de_v 0) (de_v 1))) rfl)))) (dss_one (ds_ret de_bl)) dss_nil) (dss_cons (ds_if (dt_cmp (op_neAll hu) rd_ne (de_cmpO rich_Lt mc_PairSet_lt gu hr (de_v 0) (de_v 1)) (de_cmpO rich_Gt mc_PairSet_gt gu hr (de_v 1) (de_v 0)) rfl) (dss_one (ds_ret de_bl)) dss_nil) (dss_cons (ds_set (i := 6) nd rfl (by first | exact Or.inl rfl | exact Or.inr rfl) (de_sta0 st_PairSet_every gu hr (de_con c_PairSet))) (dss_cons (ds_if (dt_cmp (op_neAll hu) rd_ne (de_op op_addAll rd_add (de_meth mt_PairSet_count gu hr (de_v 0) (da_cons (de_v 2) da_nil)) (de_meth mt_PairSet_count gu hr (de_inv mt_PairSet___invert__ gu hr (de_v 0)) (da_cons (de_v 2) da_nil))) (de_meth mt_PairSet_count gu hr (de_v 6) (da_cons (de_v 2) da_nil)) rfl) (dss_one (ds_ret de_bl)) dss_nil) (dss_one (ds_ret (de_cmpO rich_Eq eq_PairSet gu hr (de_bin mt_PairSet___sub__ bk_PairSet_sub gu hr (de_bin mt_PairSet___or__ bk_PairSet_or gu hr (de_v 0) (de_v 1)) (de_v 1)) (de_bin mt_PairSet___sub__ bk_PairSet_sub gu hr (de_v 0) (de_v 1))))))))))))))))), ?_⟩
    have A1 : Of2 b1 b2 g1 g2 (fun a _ => a) b1 g1 := of2_one B1
    have A2 : Of2 b1 b2 g1 g2 (fun _ b => b) b2 g2 := of2_other B2
    have opAnd : ∀ {f g : Bool → Bool → Bool} {r1 r2 : List MRow} {f1 f2 : List Bool} {R' : B → Nat → Prop} {E' : Addr → List D → Nat → Prop}, Of2 b1 b2 g1 g2 f r1 f1 → Of2 b1 b2 g1 g2 g r2 f2 → (∀ r fl, Of2 b1 b2 g1 g2 (fun a b => f a b && g a b) r fl → R' (.o (macD a_PairSet r fl)) 0) →
        (∃ ns ds, macD a_PairSet r1 f1 = D.ins a_PairSet ns ds) ∧ DD.TyB K a_PairSet (macD a_PairSet r2 f2) ∧ spd_PairSet___and__ a_PairSet aS [.p (macD a_PairSet r1 f1), .p (macD a_PairSet r2 f2)] R' E' := fun A B h => ⟨⟨_, _, rfl⟩, .ins io_PairSet, _, _, rfl, of2_cmb A B B1.ok B2.ok hb h⟩
    have opOr : ∀ {f g : Bool → Bool → Bool} {r1 r2 : List MRow} {f1 f2 : List Bool} {R' : B → Nat → Prop} {E' : Addr → List D → Nat → Prop}, Of2 b1 b2 g1 g2 f r1 f1 → Of2 b1 b2 g1 g2 g r2 f2 → (∀ r fl, Of2 b1 b2 g1 g2 (fun a b => f a b || g a b) r fl → R' (.o (macD a_PairSet r fl)) 0) →
        (∃ ns ds, macD a_PairSet r1 f1 = D.ins a_PairSet ns ds) ∧ DD.TyB K a_PairSet (macD a_PairSet r2 f2) ∧ spd_PairSet___or__ a_PairSet aS [.p (macD a_PairSet r1 f1), .p (macD a_PairSet r2 f2)] R' E' := fun A B h => ⟨⟨_, _, rfl⟩, .ins io_PairSet, _, _, rfl, of2_cmb A B B1.ok B2.ok hb h⟩
    have opSub : ∀ {f g : Bool → Bool → Bool} {r1 r2 : List MRow} {f1 f2 : List Bool} {R' : B → Nat → Prop} {E' : Addr → List D → Nat → Prop}, Of2 b1 b2 g1 g2 f r1 f1 → Of2 b1 b2 g1 g2 g r2 f2 → (∀ r fl, Of2 b1 b2 g1 g2 (fun a b => f a b && !(g a b)) r fl → R' (.o (macD a_PairSet r fl)) 0) →
        (∃ ns ds, macD a_PairSet r1 f1 = D.ins a_PairSet ns ds) ∧ DD.TyB K a_PairSet (macD a_PairSet r2 f2) ∧ spd_PairSet___sub__ a_PairSet aS [.p (macD a_PairSet r1 f1), .p (macD a_PairSet r2 f2)] R' E' := fun A B h => ⟨⟨_, _, rfl⟩, .ins io_PairSet, _, _, rfl, of2_cmb A B B1.ok B2.ok hb h⟩
    have opXor : ∀ {f g : Bool → Bool → Bool} {r1 r2 : List MRow} {f1 f2 : List Bool} {R' : B → Nat → Prop} {E' : Addr → List D → Nat → Prop}, Of2 b1 b2 g1 g2 f r1 f1 → Of2 b1 b2 g1 g2 g r2 f2 → (∀ r fl, Of2 b1 b2 g1 g2 (fun a b => f a b != g a b) r fl → R' (.o (macD a_PairSet r fl)) 0) →
        (∃ ns ds, macD a_PairSet r1 f1 = D.ins a_PairSet ns ds) ∧ DD.TyB K a_PairSet (macD a_PairSet r2 f2) ∧ spd_PairSet___xor__ a_PairSet aS [.p (macD a_PairSet r1 f1), .p (macD a_PairSet r2 f2)] R' E' := fun A B h => ⟨⟨_, _, rfl⟩, .ins io_PairSet, _, _, rfl, of2_cmb A B B1.ok B2.ok hb h⟩
    have opNeg : ∀ {f : Bool → Bool → Bool} {r1 : List MRow} {f1 : List Bool} {R' : B → Nat → Prop} {E' : Addr → List D → Nat → Prop}, Of2 b1 b2 g1 g2 f r1 f1 → (∀ r fl, Of2 b1 b2 g1 g2 (fun a b => !(f a b)) r fl → R' (.o (macD a_PairSet r fl)) 0) →
        (∃ ns ds, macD a_PairSet r1 f1 = D.ins a_PairSet ns ds) ∧ spd_PairSet___invert__ a_PairSet [.p (macD a_PairSet r1 f1)] R' E' := fun A h => ⟨⟨_, _, rfl⟩, _, _, rfl, A.L.ok, A.L.len, h _ _ (of2_neg A)⟩
    have opCnt : ∀ {f : Bool → Bool → Bool} {r1 : List MRow} {f1 : List Bool} {R' : B → Nat → Prop} {E' : Addr → List D → Nat → Prop}, Of2 b1 b2 g1 g2 f r1 f1 → R' (.p (.int ((cw t fun w => if f (lang b1 g1 w) (lang b2 g2 w) = true then 1 else 0 : Nat) : Int))) 0 →
        (∃ ns ds, macD a_PairSet r1 f1 = D.ins a_PairSet ns ds ∧ ¬ Str.ofString "count" ∈ ns) ∧ spd_PairSet_count a_PairSet [.p (macD a_PairSet r1 f1), .p (.int (t : Nat))] R' E' := fun A h => ⟨⟨_, _, rfl, by decide⟩, _, _, _, rfl, A.L.ok, A.L.len, ht, by rw [A.count]; exact h⟩
    have plus : (cw t fun w => if (lang b1 g1 w && lang b2 g2 w) = true then 1 else 0) + (cw t fun w => if (lang b1 g1 w || lang b2 g2 w) = true then 1 else 0) = (cw t fun w => if lang b1 g1 w = true then 1 else 0) + (cw t fun w => if lang b2 g2 w = true then 1 else 0) := by
      rw [← cw_add, ← cw_add]
      refine cw_ext fun w _ _ => ?_
      cases lang b1 g1 w <;> cases lang b2 g2 w <;> rfl
    have ty : ∀ {r2 : List MRow} {f2 : List Bool}, TyF K a_PairSet (macD a_PairSet r2 f2) := .ins io_PairSet notFirst_self
    have bnd : ∀ {f g : Bool → Bool → Bool} {r1 r2 : List MRow} {f1 f2 : List Bool}, Of2 b1 b2 g1 g2 f r1 f1 → Of2 b1 b2 g1 g2 g r2 f2 → r1.length * r2.length ≤ 1000000 := fun A B => Nat.le_trans (Nat.mul_le_mul (Nat.le_trans (A.len B1.ok B2.ok) hb) (Nat.le_trans (B.len B1.ok B2.ok) hb)) (by decide)
    have wth : ∀ {f g : Bool → Bool → Bool} {r1 r2 : List MRow} {f1 f2 : List Bool}, Of2 b1 b2 g1 g2 f r1 f1 → Of2 b1 b2 g1 g2 g r2 f2 → (Within r1 f1 r2 f2 ↔ ∀ w, f (lang b1 g1 w) (lang b2 g2 w) = true → g (lang b1 g1 w) (lang b2 g2 w) = true) := fun A B => by
      unfold Within
      simp only [A.e, B.e]
    have opLe : ∀ {f g : Bool → Bool → Bool} {r1 r2 : List MRow} {f1 f2 : List Bool} {Q : B → Prop}, Of2 b1 b2 g1 g2 f r1 f1 → Of2 b1 b2 g1 g2 g r2 f2 → (∀ k : Bool, (k = true ↔ ∀ w, f (lang b1 g1 w) (lang b2 g2 w) = true → g (lang b1 g1 w) (lang b2 g2 w) = true) → Q (.p (.bl k))) → eqAG K a_PairSet (spd_PairSet___le__ a_PairSet aS) (macD a_PairSet r1 f1) (macD a_PairSet r2 f2) Q := fun A B h => ⟨⟨_, _, rfl⟩, ty, _, _, rfl, _, _, rfl, A.L.ok, A.L.len, .inl ⟨_, _, rfl, B.L.ok, B.L.len, bnd A B, fun b hbS => ⟨b, rfl, h b (hbS.trans (wth A B))⟩⟩⟩
    have opGe : ∀ {f g : Bool → Bool → Bool} {r1 r2 : List MRow} {f1 f2 : List Bool} {Q : B → Prop}, Of2 b1 b2 g1 g2 f r1 f1 → Of2 b1 b2 g1 g2 g r2 f2 → (∀ k : Bool, (k = true ↔ ∀ w, g (lang b1 g1 w) (lang b2 g2 w) = true → f (lang b1 g1 w) (lang b2 g2 w) = true) → Q (.p (.bl k))) → eqAG K a_PairSet (spd_PairSet___ge__ a_PairSet aS) (macD a_PairSet r1 f1) (macD a_PairSet r2 f2) Q := fun A B h => ⟨⟨_, _, rfl⟩, ty, _, _, rfl, _, _, rfl, A.L.ok, A.L.len, .inl ⟨_, _, rfl, B.L.ok, B.L.len, bnd A B, fun b hbS => ⟨b, rfl, h b (hbS.trans (wth B A))⟩⟩⟩
    have opLt : ∀ {f g : Bool → Bool → Bool} {r1 r2 : List MRow} {f1 f2 : List Bool} {Q : B → Prop}, Of2 b1 b2 g1 g2 f r1 f1 → Of2 b1 b2 g1 g2 g r2 f2 → (∀ k : Bool, (k = true ↔ (∀ w, f (lang b1 g1 w) (lang b2 g2 w) = true → g (lang b1 g1 w) (lang b2 g2 w) = true) ∧ ¬ ∀ w, f (lang b1 g1 w) (lang b2 g2 w) = g (lang b1 g1 w) (lang b2 g2 w)) → Q (.p (.bl k))) → eqAG K a_PairSet (spd_PairSet___lt__ a_PairSet aS) (macD a_PairSet r1 f1) (macD a_PairSet r2 f2) Q := fun A B h => ⟨⟨_, _, rfl⟩, ty, _, _, rfl, _, _, rfl, A.L.ok, A.L.len, .inl ⟨_, _, rfl, B.L.ok, B.L.len, bnd A B, fun b hbS => ⟨b, rfl, h b (hbS.trans (and_congr (wth A B) (not_congr (A.same_iff B))))⟩⟩⟩
    have opGt : ∀ {f g : Bool → Bool → Bool} {r1 r2 : List MRow} {f1 f2 : List Bool} {Q : B → Prop}, Of2 b1 b2 g1 g2 f r1 f1 → Of2 b1 b2 g1 g2 g r2 f2 → (∀ k : Bool, (k = true ↔ (∀ w, g (lang b1 g1 w) (lang b2 g2 w) = true → f (lang b1 g1 w) (lang b2 g2 w) = true) ∧ ¬ ∀ w, f (lang b1 g1 w) (lang b2 g2 w) = g (lang b1 g1 w) (lang b2 g2 w)) → Q (.p (.bl k))) → eqAG K a_PairSet (spd_PairSet___gt__ a_PairSet aS) (macD a_PairSet r1 f1) (macD a_PairSet r2 f2) Q := fun A B h => ⟨⟨_, _, rfl⟩, ty, _, _, rfl, _, _, rfl, A.L.ok, A.L.len, .inl ⟨_, _, rfl, B.L.ok, B.L.len, bnd A B, fun b hbS => ⟨b, rfl, h b (hbS.trans (and_congr (wth B A) (not_congr (A.same_iff B))))⟩⟩⟩
    have opEq : ∀ {f g : Bool → Bool → Bool} {r1 r2 : List MRow} {f1 f2 : List Bool} {Q : B → Prop}, Of2 b1 b2 g1 g2 f r1 f1 → Of2 b1 b2 g1 g2 g r2 f2 → (∀ k : Bool, (k = true ↔ ∀ w, f (lang b1 g1 w) (lang b2 g2 w) = g (lang b1 g1 w) (lang b2 g2 w)) → Q (.p (.bl k))) → eqAG K a_PairSet (spd_PairSet___eq__ a_PairSet) (macD a_PairSet r1 f1) (macD a_PairSet r2 f2) Q := fun A B h => ⟨⟨_, _, rfl⟩, ty, _, _, _, rfl, .inl ⟨_, _, rfl, fun b hbS => ⟨b, rfl, h b (hbS.trans (A.same_iff B))⟩⟩⟩
    have opNe : ∀ {f g : Bool → Bool → Bool} {r1 r2 : List MRow} {f1 f2 : List Bool} {Q : B → Prop}, Of2 b1 b2 g1 g2 f r1 f1 → Of2 b1 b2 g1 g2 g r2 f2 → (∀ a b, f a b = g a b) → Q (.p (.bl (!true))) → neAG K a_PairSet (spd_PairSet___eq__ a_PairSet) (macD a_PairSet r1 f1) (macD a_PairSet r2 f2) Q := fun A B hp h => ⟨⟨_, _, rfl⟩, ty, _, _, _, rfl, .inl ⟨_, _, rfl, fun b hbS => ⟨b, rfl, by
      obtain rfl : b = true := hbS.mpr (A.same B hp)
      exact h⟩⟩⟩
    have opLeT : ∀ {f g : Bool → Bool → Bool} {r1 r2 : List MRow} {f1 f2 : List Bool} {Q : B → Prop}, Of2 b1 b2 g1 g2 f r1 f1 → Of2 b1 b2 g1 g2 g r2 f2 → (∀ a b, f a b = true → g a b = true) → Q (.p (.bl true)) → eqAG K a_PairSet (spd_PairSet___le__ a_PairSet aS) (macD a_PairSet r1 f1) (macD a_PairSet r2 f2) Q := fun A B hp h => opLe A B fun k hk => by
      obtain rfl : k = true := hk.mpr fun w => hp _ _
      exact h
    have opGeT : ∀ {f g : Bool → Bool → Bool} {r1 r2 : List MRow} {f1 f2 : List Bool} {Q : B → Prop}, Of2 b1 b2 g1 g2 f r1 f1 → Of2 b1 b2 g1 g2 g r2 f2 → (∀ a b, g a b = true → f a b = true) → Q (.p (.bl true)) → eqAG K a_PairSet (spd_PairSet___ge__ a_PairSet aS) (macD a_PairSet r1 f1) (macD a_PairSet r2 f2) Q := fun A B hp h => opGe A B fun k hk => by
      obtain rfl : k = true := hk.mpr fun w => hp _ _
      exact h
    have xLe : ∀ {f g : Bool → Bool → Bool} {r1 r2 : List MRow} {f1 f2 : List Bool} {R' : B → Nat → Prop} {E' : Addr → List D → Nat → Prop}, Of2 b1 b2 g1 g2 f r1 f1 → Of2 b1 b2 g1 g2 g r2 f2 → (∀ k : Bool, (k = true ↔ ∀ w, f (lang b1 g1 w) (lang b2 g2 w) = true → g (lang b1 g1 w) (lang b2 g2 w) = true) → R' (.p (.bl k)) 0) → (∃ ns ds, macD a_PairSet r1 f1 = D.ins a_PairSet ns ds) ∧ TyF K a_PairSet (macD a_PairSet r2 f2) ∧ spd_PairSet___le__ a_PairSet aS [.p (macD a_PairSet r1 f1), .p (macD a_PairSet r2 f2)] R' E' := fun A B h => ⟨⟨_, _, rfl⟩, ty, _, _, rfl, _, _, rfl, A.L.ok, A.L.len, .inl ⟨_, _, rfl, B.L.ok, B.L.len, bnd A B, fun b hbS => h b (hbS.trans (wth A B))⟩⟩
    have xGe : ∀ {f g : Bool → Bool → Bool} {r1 r2 : List MRow} {f1 f2 : List Bool} {R' : B → Nat → Prop} {E' : Addr → List D → Nat → Prop}, Of2 b1 b2 g1 g2 f r1 f1 → Of2 b1 b2 g1 g2 g r2 f2 → (∀ k : Bool, (k = true ↔ ∀ w, g (lang b1 g1 w) (lang b2 g2 w) = true → f (lang b1 g1 w) (lang b2 g2 w) = true) → R' (.p (.bl k)) 0) → (∃ ns ds, macD a_PairSet r1 f1 = D.ins a_PairSet ns ds) ∧ TyF K a_PairSet (macD a_PairSet r2 f2) ∧ spd_PairSet___ge__ a_PairSet aS [.p (macD a_PairSet r1 f1), .p (macD a_PairSet r2 f2)] R' E' := fun A B h => ⟨⟨_, _, rfl⟩, ty, _, _, rfl, _, _, rfl, A.L.ok, A.L.len, .inl ⟨_, _, rfl, B.L.ok, B.L.len, bnd A B, fun b hbS => h b (hbS.trans (wth B A))⟩⟩
    have xLt : ∀ {f g : Bool → Bool → Bool} {r1 r2 : List MRow} {f1 f2 : List Bool} {R' : B → Nat → Prop} {E' : Addr → List D → Nat → Prop}, Of2 b1 b2 g1 g2 f r1 f1 → Of2 b1 b2 g1 g2 g r2 f2 → (∀ k : Bool, (k = true ↔ (∀ w, f (lang b1 g1 w) (lang b2 g2 w) = true → g (lang b1 g1 w) (lang b2 g2 w) = true) ∧ ¬ ∀ w, f (lang b1 g1 w) (lang b2 g2 w) = g (lang b1 g1 w) (lang b2 g2 w)) → R' (.p (.bl k)) 0) → (∃ ns ds, macD a_PairSet r1 f1 = D.ins a_PairSet ns ds) ∧ TyF K a_PairSet (macD a_PairSet r2 f2) ∧ spd_PairSet___lt__ a_PairSet aS [.p (macD a_PairSet r1 f1), .p (macD a_PairSet r2 f2)] R' E' := fun A B h => ⟨⟨_, _, rfl⟩, ty, _, _, rfl, _, _, rfl, A.L.ok, A.L.len, .inl ⟨_, _, rfl, B.L.ok, B.L.len, bnd A B, fun b hbS => h b (hbS.trans (and_congr (wth A B) (not_congr (A.same_iff B))))⟩⟩
    have xGt : ∀ {f g : Bool → Bool → Bool} {r1 r2 : List MRow} {f1 f2 : List Bool} {R' : B → Nat → Prop} {E' : Addr → List D → Nat → Prop}, Of2 b1 b2 g1 g2 f r1 f1 → Of2 b1 b2 g1 g2 g r2 f2 → (∀ k : Bool, (k = true ↔ (∀ w, g (lang b1 g1 w) (lang b2 g2 w) = true → f (lang b1 g1 w) (lang b2 g2 w) = true) ∧ ¬ ∀ w, f (lang b1 g1 w) (lang b2 g2 w) = g (lang b1 g1 w) (lang b2 g2 w)) → R' (.p (.bl k)) 0) → (∃ ns ds, macD a_PairSet r1 f1 = D.ins a_PairSet ns ds) ∧ TyF K a_PairSet (macD a_PairSet r2 f2) ∧ spd_PairSet___gt__ a_PairSet aS [.p (macD a_PairSet r1 f1), .p (macD a_PairSet r2 f2)] R' E' := fun A B h => ⟨⟨_, _, rfl⟩, ty, _, _, rfl, _, _, rfl, A.L.ok, A.L.len, .inl ⟨_, _, rfl, B.L.ok, B.L.len, bnd A B, fun b hbS => h b (hbS.trans (and_congr (wth B A) (not_congr (A.same_iff B))))⟩⟩
    have xEq : ∀ {f g : Bool → Bool → Bool} {r1 r2 : List MRow} {f1 f2 : List Bool} {R' : B → Nat → Prop} {E' : Addr → List D → Nat → Prop}, Of2 b1 b2 g1 g2 f r1 f1 → Of2 b1 b2 g1 g2 g r2 f2 → (∀ k : Bool, (k = true ↔ ∀ w, f (lang b1 g1 w) (lang b2 g2 w) = g (lang b1 g1 w) (lang b2 g2 w)) → R' (.p (.bl k)) 0) → (∃ ns ds, macD a_PairSet r1 f1 = D.ins a_PairSet ns ds) ∧ TyF K a_PairSet (macD a_PairSet r2 f2) ∧ spd_PairSet___eq__ a_PairSet [.p (macD a_PairSet r1 f1), .p (macD a_PairSet r2 f2)] R' E' := fun A B h => ⟨⟨_, _, rfl⟩, ty, _, _, _, rfl, .inl ⟨_, _, rfl, fun b hbS => h b (hbS.trans (A.same_iff B))⟩⟩
    have xBool : ∀ {f : Bool → Bool → Bool} {r1 : List MRow} {f1 : List Bool} {R' : B → Nat → Prop} {E' : Addr → List D → Nat → Prop}, Of2 b1 b2 g1 g2 f r1 f1 → (∀ k : Bool, (k = true ↔ ∃ w, f (lang b1 g1 w) (lang b2 g2 w) = true) → R' (.p (.bl k)) 0) → (∃ ns ds, macD a_PairSet r1 f1 = D.ins a_PairSet ns ds) ∧ spd_PairSet___bool__ a_PairSet [.p (macD a_PairSet r1 f1)] R' E' := fun A h => ⟨⟨_, _, rfl⟩, _, _, rfl, fun b hbS => h b (hbS.trans (A.some_iff))⟩
    have opEqT : ∀ {f g : Bool → Bool → Bool} {r1 r2 : List MRow} {f1 f2 : List Bool} {Q : B → Prop}, Of2 b1 b2 g1 g2 f r1 f1 → Of2 b1 b2 g1 g2 g r2 f2 → (∀ a b, f a b = g a b) → Q (.p (.bl true)) → eqAG K a_PairSet (spd_PairSet___eq__ a_PairSet) (macD a_PairSet r1 f1) (macD a_PairSet r2 f2) Q := fun A B hp h => opEq A B fun k hk => by
      obtain rfl : k = true := hk.mpr fun w => hp _ _
      exact h
    refine dseq ?_
    simp only [zM, dBin]
    refine opAnd A1 A2 fun ri fi Ai => ⟨rfl, rfl, opOr A1 A2 fun rs fs As => ⟨rfl, rfl, dseq ?_⟩⟩
    simp only [zM]
    refine opCnt Ai ⟨rfl, rfl, opCnt As ⟨rfl, rfl, dseq ?_⟩⟩
    simp only [zM]
    refine opCnt A1 ⟨rfl, rfl, opCnt A2 ⟨rfl, rfl, rfl, true, eqD_int.trans (congrArg some (decide_eq_true (by rw [← Int.natCast_add, ← Int.natCast_add, plus]))), iteF (dseq ?_)⟩⟩
    simp only [zM]
    refine opLeT Ai A1 (by decide) ⟨true, rfl, iteF (opLeT Ai A2 (by decide) ⟨true, rfl, iteF (opLeT A1 As (by decide) ⟨true, rfl, iteF (dseq ?_)⟩)⟩)⟩
    simp only [zM]
    refine opLeT A2 As (by decide) ⟨true, rfl, iteF (opGeT As Ai (by decide) ⟨true, rfl, iteF (dseq ?_)⟩)⟩
    simp only [zM, dBin, dInv]
    refine opXor A1 A2 fun _ _ Ax => ⟨rfl, rfl, opSub As Ai fun _ _ Ay => ⟨rfl, rfl, opNe Ax Ay (by decide) ⟨_, rfl, iteF (opSub A1 A2 fun _ _ Az => ⟨rfl, rfl, opNeg A2 fun _ _ An => ⟨rfl, rfl, opAnd A1 An fun _ _ Am => ⟨rfl, rfl, opNe Az Am (by decide) ⟨_, rfl, iteF (dseq ?_)⟩⟩⟩⟩)⟩⟩⟩
    simp only [zM, dBin, dInv]
    refine opOr A2 A1 fun _ _ Ax => ⟨rfl, rfl, opNe As Ax (by decide) ⟨_, rfl, iteF (opAnd A2 A1 fun _ _ Ay => ⟨rfl, rfl, opNe Ai Ay (by decide) ⟨_, rfl, iteF (dseq ?_)⟩⟩)⟩⟩
    simp only [zM, dBin, dInv]
    refine opNeg Ai fun _ _ N1 => ⟨rfl, rfl, opNeg A1 fun _ _ N2 => ⟨rfl, rfl, opNeg A2 fun _ _ N3 => ⟨rfl, rfl, opOr N2 N3 fun _ _ O1 => ⟨rfl, rfl, opNe N1 O1 (by decide) ⟨_, rfl, iteF ?_⟩⟩⟩⟩⟩
    refine opNeg As fun _ _ N1 => ⟨rfl, rfl, opNeg A1 fun _ _ N2 => ⟨rfl, rfl, opNeg A2 fun _ _ N3 => ⟨rfl, rfl, opAnd N2 N3 fun _ _ O1 => ⟨rfl, rfl, opNe N1 O1 (by decide) ⟨_, rfl, iteF ?_⟩⟩⟩⟩⟩
    refine opNeg A1 fun _ _ N1 => ⟨rfl, rfl, opNeg N1 fun _ _ N2 => ⟨rfl, rfl, opNe N2 A1 (by decide) ⟨_, rfl, iteF ?_⟩⟩⟩
    refine opSub A1 A1 fun _ _ N1 => ⟨rfl, rfl, opXor A1 A1 fun _ _ N2 => ⟨rfl, rfl, opNe N1 N2 (by decide) ⟨_, rfl, iteF (dseq ?_)⟩⟩⟩
    simp only [zM, dBin, dInv, dNotI, dCmpX]
    have bb : ∀ {x y : Bool}, (x = true ↔ y = true) → x = y := fun {x y} h => by
      cases x <;> cases y <;> simp_all
    refine xLe A1 A2 fun k1 h1 => ⟨k1, rfl, rfl, xEq Ai A1 fun k2 h2 => ⟨k2, rfl, rfl, true, ?_, iteF ?_⟩⟩
    · obtain rfl : k1 = k2 := bb (h1.trans ((forall_congr' fun w => by cases lang b1 g1 w <;> cases lang b2 g2 w <;> simp).trans h2.symm))
      cases k1 <;> rfl
    refine xLe A1 A2 fun k1 h1 => ⟨k1, rfl, rfl, ?_⟩
    refine opSub A1 A2 fun _ _ Az => ⟨rfl, rfl, xBool Az fun k2 h2 => ⟨k2, rfl, true, ?_, iteF (dseq ?_)⟩⟩
    · obtain rfl : k1 = !k2 := by
        have : k2 = !k1 := by
          cases k1 with
          | true =>
            cases k2 with
            | false => rfl
            | true =>
              obtain ⟨w, hw⟩ := h2.mp rfl
              have := h1.mp rfl w
              simp only [Bool.and_eq_true] at hw
              rw [this hw.1] at hw
              exact absurd hw.2 (by decide)
          | false =>
            cases k2 with
            | true => rfl
            | false =>
              refine absurd (h1.mpr fun w hw => ?_) (by decide)
              cases e : lang b2 g2 w with
              | true => rfl
              | false => exact absurd (h2.mpr ⟨w, by rw [hw, e]; rfl⟩) (by decide)
        rw [this, Bool.not_not]
      cases k2 <;> rfl
    simp only [zM, dBin, dInv, dNotI, dCmpX]
    refine xLt A1 A2 fun k1 h1 => ⟨k1, rfl, rfl, xGt A2 A1 fun k2 h2 => ⟨k2, rfl, rfl, true, ?_, iteF (dseq ?_)⟩⟩
    · obtain rfl : k1 = k2 := bb (h1.trans ((and_congr Iff.rfl (not_congr (forall_congr' fun w => eq_comm))).trans h2.symm))
      cases k1 <;> rfl
    simp only [zM, dSta]
    refine ⟨rfl, rfl, dseq ?_⟩
    have Ae : Of2 b1 b2 g1 g2 (fun _ _ => true) (lstR [(0, 0, 0)] (flOf 1 [0])) (lstF [(0, 0, 0)] (flOf 1 [0])) := ⟨least_lst ⟨by decide, by decide, by decide⟩, fun w => by
      rw [lst_lang ⟨by decide, by decide, by decide⟩]
      unfold lang
      have z : mrun [(0, 0, 0)] 0 w = 0 := by
        have := run_lt (rs := [(0, 0, 0)]) ⟨by decide, by decide, by decide⟩ w (q := 0) (by decide)
        simp at this
        exact this
      rw [z]
      rfl⟩
    have all : (cw t fun w => if lang b1 g1 w = true then 1 else 0) + (cw t fun w => if (!lang b1 g1 w) = true then 1 else 0) = cw t fun w => if true = true then 1 else 0 := by
      rw [← cw_add]
      refine cw_ext fun w _ _ => ?_
      cases lang b1 g1 w <;> rfl
    simp only [zM, dInv]
    refine opCnt A1 ⟨rfl, rfl, opNeg A1 fun _ _ An => ⟨rfl, rfl, opCnt An ⟨rfl, rfl, rfl, opCnt Ae ⟨rfl, rfl, true, eqD_int.trans (congrArg some (decide_eq_true (by rw [← Int.natCast_add, all]))), iteF ?_⟩⟩⟩⟩
    simp only [zM, dBin, dInv, dCmpX]
    refine opOr A1 A2 fun _ _ O1 => ⟨rfl, rfl, opSub O1 A2 fun _ _ O2 => ⟨rfl, rfl, opSub A1 A2 fun _ _ O3 => ⟨rfl, rfl, xEq O2 O3 fun k hk => ⟨k, rfl, ?_⟩⟩⟩⟩
    obtain rfl : k = true := hk.mpr fun w => by cases lang b1 g1 w <;> cases lang b2 g2 w <;> rfl
    exact ⟨rfl, 0, q⟩
end
section
variable {P : Program} {w : World} {K : PySem.W.Frag} {mg : Str → Option Value} {base : Heap}

def wsD (ws : List Nat) : D := .str (wrdS ws)
structure WsOk (wss : List (List Nat)) : Prop where
  n : wss.length ≤ 1000
  ok : ∀ ws ∈ wss, Same3 ws ∧ ws.length ≤ 1000

abbrev s__law_right : Stmt := topS 50
theorem sc__law_right : FnScope ["_law_pairs", "_law_table_here", "_law_words", "_law_word"] ["_law_pairs", "_law_table_here", "_law_words"] (defScope s__law_right) := ⟨rfl, rfl, rfl, by decide +kernel, rfl, by decide +kernel, by decide +kernel⟩
def spd__law_right (aP : Addr) : Spd := fun bs R _ => ∃ (r : List MRow) (fl : List Bool) (rs : List MRow) (acc : List Nat) (wss : List (List Nat)), bs = [.p (macD aP r fl), .p (tabD rs acc), .p (.lst (wss.map wsD))] ∧ RowsOk r ∧ fl.length = r.length ∧ RowsOk rs ∧ acc.length ≤ 4095 ∧ (∀ w, lang r fl w = decide (mrun rs 0 w ∈ acc)) ∧ WsOk wss ∧ R (.p (.bl true)) 0
theorem cal__law_right (Da : DefAt K mg "_law_right" s__law_right) {a_PairSet : Addr} (mt_PairSet_has : MethC P w K mg base a_PairSet "has" 4 ["self", "marks"] (spd_PairSet_has a_PairSet)) (c__law_read : Cal P w K mg base "_law_read" 1 ["_law_rows", "_law_marks_here"] spd__law_read) : Cal P w K mg base "_law_right" 5 ["_law_pairs", "_law_table_here", "_law_words"] (spd__law_right a_PairSet) := by
  refine cal_mk none Da sc__law_right (fun _ _ _ _ _ _ us hl => match us, hl with | [_, _, _], _ => rfl) (fun bs R E h => ?_) (fun bs R E h => ?_) fun f cdv A outer s H E W bs R ED gu hr te h fh => ?_
  · obtain ⟨r, fl, rs, acc, wss, rfl, okr, lr, ok, la, e, wo, q⟩ := h
    rfl
  · obtain ⟨r, fl, rs, acc, wss, rfl, okr, lr, ok, la, e, wo, q⟩ := h
    exact pur_none (by simp [B.own])
  · obtain ⟨r, fl, rs, acc, wss, rfl, okr, lr, ok, la, e, wo, q⟩ := h
    have nd := sc__law_right.nd
    have hu := hr.units
    have ps := passes_of (X := cxOf (L2N.CX P w) P w K mg base ["_law_pairs", "_law_table_here", "_law_words", "_law_word"] "_law_right" (defScope s__law_right) f cdv A outer s H E) rfl
    refine ⟨_, (dss_cons (ds_for te ps rfl (di_any (de_v 2)) (fun _ => (dg_name (i := 3) nd rfl (by first | exact Or.inl rfl | exact Or.inr rfl))) (fun _ te => (dss_one (ds_if (dt_cmp (op_neAll hu) rd_ne (de_meth mt_PairSet_has gu hr (de_v 0) (da_cons (de_v 3) da_nil)) (de_cmp op_inAll rd_in (de_c c__law_read gu hr (da_cons (de_ixN 1 hu de_int (fun _ _ => rfl)) (da_cons (de_v 3) da_nil))) (de_ixN 1 hu de_int (fun _ _ => rfl)) rfl) rfl) (dss_one (ds_ret de_bl)) dss_nil)))) (dss_one (ds_ret de_bl))), ?_⟩
    refine dseq ?_
    simp only [zM]
    refine forL_run wsD (fun p δ => ∃ x3, δ = [some (.p (macD a_PairSet r fl)), some (.p (tabD rs acc)), some (.p (.lst (wss.map wsD))), x3]) (l := wss) (pre := []) (fun p ws b δ e2 hI N hN => ?_) (fun δ hI => ?_) ⟨none, rfl⟩
    · obtain ⟨x3, rfl⟩ := hI
      have hx : ws ∈ wss := by
        rw [List.nil_append] at e2
        rw [e2]
        simp
      obtain ⟨h3, hl⟩ := wo.ok ws hx
      simp only [zM, wsD]
      refine ⟨⟨_, _, rfl, by decide⟩, _, _, ws, rfl, okr, lr, h3, by omega, rfl, rfl, _, at_0, rs, ws, _, rfl, .inl rfl, ok, h3, rfl, rfl, _, at_1, ?_⟩
      refine (inG_nat (n := mrun rs 0 ws) (as := acc)).mpr ⟨rfl, true, ?_, iteF (hN _ ⟨_, rfl⟩)⟩
      rw [e]
      cases decide (mrun rs 0 ws ∈ acc) <;> rfl
    · obtain ⟨x3, rfl⟩ := hI
      simp only [zM]
      exact ⟨0, q⟩
end
section
variable {P : Program} {w : World} {K : PySem.W.Frag} {mg : Str → Option Value} {base : Heap}

structure KeptOk (aP : Addr) (ks : List (List MRow × List Nat)) : Prop where
  n : ks.length ≤ 40
  pos : 0 < ks.length
  ok : ∀ x ∈ ks, TableOk 16 x.1 x.2
theorem jacc_tabW {r1 r2 : List MRow} {os : List PairN} {rows : List MRow} {a1 a2 : List Nat} {way n : Nat} (J : Joined r1 r2 os rows) (hb : os.length ≤ 4094) (hn : rows.length ≤ n) : TableOk n rows (jacc way os a1 a2) where
  ok := joined_rowsOk J hb
  le := hn
  nd := by
    unfold jacc jaccN
    exact List.nodup_range.filter _
  lt := fun a ha => by
    unfold jacc jaccN at ha
    rw [J.len]
    exact List.mem_range.mp (List.mem_filter.mp ha).1
theorem jacc_lang {r1 r2 : List MRow} {os : List PairN} {rows : List MRow} {a1 a2 : List Nat} {way : Nat} (J : Joined r1 r2 os rows) (w : List Nat) : decide (mrun rows 0 w ∈ jacc way os a1 a2) = wayB way (decide (mrun r1 0 w ∈ a1)) (decide (mrun r2 0 w ∈ a2)) := by
  have h := joined_run J _ w rfl
  have hl := (List.getElem?_eq_some_iff.mp h).1
  have e : os.getD (mrun rows 0 w) (0, 0) = (mrun r1 0 w, mrun r2 0 w) := by
    rw [List.getD_eq_getElem?_getD, h]
    rfl
  unfold jacc jaccN
  cases hv : wayB way (decide (mrun r1 0 w ∈ a1)) (decide (mrun r2 0 w ∈ a2)) with
  | true => exact decide_eq_true (List.mem_filter.mpr ⟨List.mem_range.mpr hl, by rw [e]; exact hv⟩)
  | false =>
    refine decide_eq_false fun z => ?_
    have := (List.mem_filter.mp z).2
    rw [e] at this
    rw [show wayB way (decide (mrun r1 0 w ∈ a1)) (decide (mrun r2 0 w ∈ a2)) = true from this] at hv
    cases hv
theorem told_w {rs : List MRow} {acc : List Nat} {ws : List Nat} (ok : RowsOk rs) : lang (lstR rs (flOf rs.length acc)) (lstF rs (flOf rs.length acc)) ws = decide (mrun rs 0 ws ∈ acc) := by
  rw [lst_lang ok]
  unfold lang
  rw [fl_at (run_at ok ws ok.pos)]
def keD (aP : Addr) (x : List MRow × List Nat) : D := .tup [pairD aP x.1 (flOf x.1.length x.2), tabD x.1 x.2]

abbrev s_law : Stmt := topS 51
theorem sc_law : FnScope ["_law_script", "_law_kept", "_law_cell", "_law_purse_here", "_law_table_here", "_law_new", "_law_old", "_law_before", "_law_length", "_law_way", "_law_put", "_law_own", "_law_words", "_law_turn"] ["_law_script"] (defScope s_law) := ⟨rfl, rfl, rfl, by decide +kernel, rfl, by decide +kernel, by decide +kernel⟩
def spd_law  : Spd := fun bs R _ => ∃ ns : List Int, bs = [.p (.scr ns)] ∧ R (.p (.bl true)) 0
theorem cal_law (Da : DefAt K mg "law" s_law) {a_PairSet : Addr} (c__law_purse : Cal P w K mg base "_law_purse" 1 ["_law_script", "_law_at"] spdPurse) (c__law_draw : Cal P w K mg base "_law_draw" 1 ["_law_purse_here", "_law_many"] spdDraw) (c__law_table : Cal P w K mg base "_law_table" 3 ["_law_purse_here", "_law_most"] spd__law_table) (c__law_set : Cal P w K mg base "_law_set" 7 ["_law_table_here"] (spd__law_set a_PairSet)) (c__law_marks : Cal P w K mg base "_law_marks" 3 ["_law_purse_here", "_law_most"] spd__law_marks) (c__law_joined : Cal P w K mg base "_law_joined" 3 ["_law_one", "_law_other", "_law_way"] spd__law_joined) (c__law_laws_of_sets : Cal P w K mg base "_law_laws_of_sets" 10 ["_law_one", "_law_other", "_law_length"] (spd__law_laws_of_sets a_PairSet)) (c__law_right : Cal P w K mg base "_law_right" 5 ["_law_pairs", "_law_table_here", "_law_words"] (spd__law_right a_PairSet)) (st_PairSet_common : StaC P w K mg base a_PairSet "common" 7 [] (spd_PairSet_common a_PairSet)) (c_PairSet : ConAt K mg "PairSet" (.ref a_PairSet)) {aS : Addr} (io_PairSet : InsOk K a_PairSet) (m_range : mg "range" = none) (m_min : mg "min" = none) (m_len : mg "len" = none) (mt_PairSet___and__ : MethC P w K mg base a_PairSet (PySem.dunder "and") 9 ["self", "other"] (spd_PairSet___and__ a_PairSet aS)) (bk_PairSet_and : BinK K a_PairSet "and") (mt_PairSet___or__ : MethC P w K mg base a_PairSet (PySem.dunder "or") 9 ["self", "other"] (spd_PairSet___or__ a_PairSet aS)) (bk_PairSet_or : BinK K a_PairSet "or") (mt_PairSet___sub__ : MethC P w K mg base a_PairSet (PySem.dunder "sub") 9 ["self", "other"] (spd_PairSet___sub__ a_PairSet aS)) (bk_PairSet_sub : BinK K a_PairSet "sub") (mt_PairSet___xor__ : MethC P w K mg base a_PairSet (PySem.dunder "xor") 9 ["self", "other"] (spd_PairSet___xor__ a_PairSet aS)) (bk_PairSet_xor : BinK K a_PairSet "xor") : Cal P w K mg base "law" 11 ["_law_script"] spd_law := by
  refine cal_mk none Da sc_law (fun _ _ _ _ _ _ us hl => match us, hl with | [_], _ => rfl) (fun bs R E h => ?_) (fun bs R E h => ?_) fun f cdv A outer s H E W bs R ED gu hr te h fh => ?_
  · obtain ⟨ns, rfl, q⟩ := h
    rfl
  · obtain ⟨ns, rfl, q⟩ := h
    exact pur_none (by simp [B.own])
  · obtain ⟨ns, rfl, q⟩ := h
    have nd := sc_law.nd
    have hu := hr.units
    have ps := passes_of (X := cxOf (L2N.CX P w) P w K mg base ["_law_script", "_law_kept", "_law_cell", "_law_purse_here", "_law_table_here", "_law_new", "_law_old", "_law_before", "_law_length", "_law_way", "_law_put", "_law_own", "_law_words", "_law_turn"] "law" (defScope s_law) f cdv A outer s H E) rfl
    refine ⟨_, (dss_cons (ds_set (i := 1) nd rfl (by first | exact Or.inl rfl | exact Or.inr rfl) (de_lst (da_cons (de_tup (da_cons (de_sta0 st_PairSet_common gu hr (de_con c_PairSet)) (da_cons (de_tup (da_cons (de_lst (da_cons (de_tup (da_cons de_int (da_cons de_int (da_cons de_int da_nil)))) (da_cons (de_tup (da_cons de_int (da_cons de_int (da_cons de_int da_nil)))) da_nil))) (da_cons (de_lst (da_cons de_int da_nil)) da_nil))) da_nil))) da_nil))) (dss_cons (ds_forR ps rfl (di_range1 rfl m_range (da_cons (de_op op_addAll rd_add (de_callB (call_min2 rfl) rc_min rfl m_min bt_min (da_cons de_int (da_cons (de_callB cr_lenAll rc_len rfl m_len bt_len (da_cons (de_v 0) da_nil)) da_nil))) de_int) da_nil)) (dg_name (i := 2) nd rfl (by first | exact Or.inl rfl | exact Or.inr rfl)) (dss_cons (ds_set (i := 3) nd rfl (by first | exact Or.inl rfl | exact Or.inr rfl) (de_asPurse (de_c c__law_purse gu hr (da_cons (de_v 0) (da_cons (de_v 2) da_nil))))) (dss_cons (ds_set (i := 4) nd rfl (by first | exact Or.inl rfl | exact Or.inr rfl) (de_cP c__law_table gu hr (i := 3) rfl (da_cons de_int da_nil))) (dss_cons (ds_set (i := 5) nd rfl (by first | exact Or.inl rfl | exact Or.inr rfl) (de_c c__law_set gu hr (da_cons (de_v 4) da_nil))) (dss_cons (ds_asg (de_ixN 1 hu (de_cP c__law_draw gu hr (i := 3) rfl (da_cons (de_lenN 1 m_len) da_nil)) (fun _ _ => rfl)) (dg_tup (n := 2) rfl (dgs_cons (dg_name (i := 6) nd rfl (by first | exact Or.inl rfl | exact Or.inr rfl)) (dgs_cons (dg_name (i := 7) nd rfl (by first | exact Or.inl rfl | exact Or.inr rfl)) dgs_nil)))) (dss_cons (ds_set (i := 8) nd rfl (by first | exact Or.inl rfl | exact Or.inr rfl) (de_ix2 hu (de_lst (da_cons (de_cP c__law_draw gu hr (i := 3) rfl (da_cons de_int da_nil)) (da_cons (de_cP c__law_draw gu hr (i := 3) rfl (da_cons de_int da_nil)) (da_cons de_int da_nil)))) (de_cP c__law_draw gu hr (i := 3) rfl (da_cons de_int da_nil)) fun _ _ => rfl)) (dss_cons (ds_if (DW.dt (dw_or (dt_not (dt_val (he := fun _ => rfl) (de_c c__law_laws_of_sets gu hr (da_cons (de_v 6) (da_cons (de_v 5) (da_cons (de_v 8) da_nil)))))) (dw_or1 (dt_not (dt_val (he := fun _ => rfl) (de_c c__law_laws_of_sets gu hr (da_cons (de_v 5) (da_cons (de_v 6) (da_cons (de_v 8) da_nil))))))))) (dss_one (ds_ret de_bl)) dss_nil) (dss_cons (ds_set (i := 9) nd rfl (by first | exact Or.inl rfl | exact Or.inr rfl) (de_cP c__law_draw gu hr (i := 3) rfl (da_cons de_int da_nil))) (dss_cons (ds_set (i := 10) nd rfl (by first | exact Or.inl rfl | exact Or.inr rfl) (de_ix2 hu (de_lst (da_cons (de_bin mt_PairSet___and__ bk_PairSet_and gu hr (de_v 6) (de_v 5)) (da_cons (de_bin mt_PairSet___or__ bk_PairSet_or gu hr (de_v 6) (de_v 5)) (da_cons (de_bin mt_PairSet___sub__ bk_PairSet_sub gu hr (de_v 6) (de_v 5)) (da_cons (de_bin mt_PairSet___xor__ bk_PairSet_xor gu hr (de_v 6) (de_v 5)) da_nil))))) (de_v 9) fun _ _ => rfl)) (dss_cons (ds_set (i := 11) nd rfl (by first | exact Or.inl rfl | exact Or.inr rfl) (de_c c__law_joined gu hr (da_cons (de_v 7) (da_cons (de_v 4) (da_cons (de_v 9) da_nil))))) (dss_cons (ds_set (i := 12) nd rfl (by first | exact Or.inl rfl | exact Or.inr rfl) (de_op op_addAll rd_add (de_lc rfl nd (DI0.di (di_range1 rfl m_range (da_cons de_int da_nil))) (own := [("_law_turn", 13)]) (blkOk_by (by kernel_rfl)) (fun _ _ _ _ _ _ => (dgc_name (i := 13) (by decide) nd rfl (by first | exact Or.inl rfl | exact Or.inr rfl))) (fun _ _ _ _ _ _ => dts_nil) (fun _ _ _ _ _ _ => (de_cP c__law_marks gu hr (i := 3) rfl (da_cons de_int da_nil)))) (de_lst (da_cons (de_cP c__law_marks gu hr (i := 3) rfl (da_cons de_int da_nil)) da_nil)))) (dss_cons (ds_if (DW.dt (dw_or (dt_not (dt_val (he := fun _ => rfl) (de_c c__law_right gu hr (da_cons (de_v 10) (da_cons (de_v 11) (da_cons (de_v 12) da_nil)))))) (dw_or1 (dt_not (dt_val (he := fun _ => rfl) (de_c c__law_right gu hr (da_cons (de_v 5) (da_cons (de_v 4) (da_cons (de_v 12) da_nil))))))))) (dss_one (ds_ret de_bl)) dss_nil) (dss_cons (ds_if (dt_not (dt_val (he := fun _ => rfl) (de_c c__law_right gu hr (da_cons (de_v 6) (da_cons (de_v 7) (da_cons (de_v 12) da_nil)))))) (dss_one (ds_ret de_bl)) dss_nil) (dss_cons (ds_append (i := 1) rfl (by first | exact Or.inl rfl | exact Or.inr (Or.inl rfl)) (de_tup (da_cons (de_v 5) (da_cons (de_v 4) da_nil))) (hpe := fun ta h => pe_bm PySem.F.plainAttrs_list PySem.F.slot_list_append PySem.F.type_list_append mt_append (pv 1) (pa_cons h pa_nil))) (dss_one (ds_if (dt_cmp op_le rd_intB0 (de_callB cr_lenAll rc_len rfl m_len bt_len (da_cons (de_ixN 11 hu de_int (fun _ _ => rfl)) da_nil)) de_int rfl) (dss_one (ds_append (i := 1) rfl (by first | exact Or.inl rfl | exact Or.inr (Or.inl rfl)) (de_tup (da_cons (de_v 10) (da_cons (de_v 11) da_nil))) (hpe := fun ta h => pe_bm PySem.F.plainAttrs_list PySem.F.slot_list_append PySem.F.type_list_append mt_append (pv 1) (pa_cons h pa_nil)))) dss_nil)))))))))))))))) (dss_one (ds_ret de_bl)))), ?_⟩
    refine dseq ?_
    simp only [zM, dSta]
    refine ⟨rfl, rfl, rfl, dseq ?_⟩
    simp only [zM]
    obtain ⟨n, hn, en⟩ : ∃ n : Nat, n ≤ 14 ∧ (if ((ns.length : Nat) : Int) < 12 then ((ns.length : Nat) : Int) else 12) + 2 = (n : Int) := by
      by_cases h : ((ns.length : Nat) : Int) < 12
      · exact ⟨ns.length + 2, by omega, by rw [if_pos h]; omega⟩
      · exact ⟨14, by omega, by rw [if_neg h]; rfl⟩
    refine ⟨12, _, rfl, rfl, rfl, (n : Int), congrArg D.int en, by omega, by omega, ?_⟩
    rw [Int.toNat_natCast]
    refine forL_ds (fun p δ => ∃ (ks : List (List MRow × List Nat)) (x2 x3 x4 x5 x6 x7 x8 x9 x10 x11 x12 x13 : Option B), KeptOk a_PairSet ks ∧ ks.length ≤ 1 + 2 * p.length ∧ δ = [some (.p (.scr ns)), some (.o (.lst (ks.map (keD a_PairSet)))), x2, x3, x4, x5, x6, x7, x8, x9, x10, x11, x12, x13]) (fun p d r δ e hI N hN => ?_) (fun δ hI => ?_) ⟨[([(0, 0, 1), (1, 1, 1)], [1])], _, _, _, _, _, _, _, _, _, _, _, _, ⟨by decide, by decide, fun x hx => ?_⟩, by decide, rfl⟩
    rotate_left 2
    · rw [List.mem_singleton.mp hx]
      exact ⟨⟨by decide, by decide, by decide⟩, by decide, by decide, by decide⟩
    rotate_left 1
    · obtain ⟨ks, x2, x3, x4, x5, x6, x7, x8, x9, x10, x11, x12, x13, KO, hk, rfl⟩ := hI
      simp only [zM]
      exact ⟨0, q⟩
    obtain ⟨ks, x2, x3, x4, x5, x6, x7, x8, x9, x10, x11, x12, x13, KO, hk, rfl⟩ := hI
    obtain ⟨rfl, hp⟩ := upto_at (n := n) e
    refine dseq ?_
    simp only [zM]
    refine ⟨ns, _, rfl, fun x y a1 a2 a3 a4 => ⟨rfl, x, y, 0, rfl, 0, ⟨a1, a2, a3, a4, by decide, by decide⟩, dseq ?_⟩⟩
    simp only [zM]
    refine ⟨0, 4, rfl, by decide, by decide, by decide, fun rs acc m ok hm0 hm1 => ⟨rfl, dseq ?_⟩⟩
    simp only [zM]
    refine ⟨rs, acc, rfl, ok.ok, ok.nd, ok.lt, rfl, dseq ?_⟩
    simp only [zM]
    have kp := KO.pos
    have kn := KO.n
    have big : (100 : Int) < 10 ^ 2000 := by decide +kernel
    refine ⟨m, _, rfl, by omega, by omega, by omega, fun dd d0 d1 => ?_⟩
    obtain ⟨dd, rfl⟩ := int_nat d0
    have hd : dd < ks.length := by omega
    have hx := List.getElem?_eq_getElem hd
    have hxm := List.getElem_mem hd
    generalize ks[dd] = x at hx hxm
    obtain ⟨ro, ao⟩ := x
    have to : TableOk 16 ro ao := KO.ok _ hxm
    refine ⟨rfl, rfl, _, atI_map hx, _, rfl, rfl, _, _, rfl, _, _, rfl, rfl, dseq ?_⟩
    simp only [zM]
    have nm : m ≤ 1000 := by omega
    refine ⟨_, 9, rfl, by decide, by omega, by omega, fun da p0 p1 => ⟨rfl, rfl, ?_⟩⟩
    obtain ⟨da, rfl⟩ := int_nat p0
    refine ⟨_, 41, rfl, by decide, by omega, by omega, fun db p2 p3 => ⟨rfl, rfl, ?_⟩⟩
    obtain ⟨db, rfl⟩ := int_nat p2
    refine ⟨_, 3, rfl, by decide, by omega, by omega, fun dc p4 p5 => ⟨rfl, ?_⟩⟩
    obtain ⟨dc, rfl⟩ := int_nat p4
    obtain ⟨t, ht, et⟩ : ∃ t : Nat, t ≤ 40 ∧ atI [D.int (da : Nat), D.int (db : Nat), D.int 40] ((dc : Nat) : Int) = some (.int (t : Nat)) := by
      have : dc = 0 ∨ dc = 1 ∨ dc = 2 := by omega
      rcases this with rfl | rfl | rfl
      · exact ⟨da, by omega, rfl⟩
      · exact ⟨db, by omega, rfl⟩
      · exact ⟨40, by omega, rfl⟩
    refine ⟨rfl, _, et, ?_⟩
    have Lo : Least (lstR ro (flOf ro.length ao)) (lstF ro (flOf ro.length ao)) := least_lst to.ok
    have Ln : Least (lstR rs (flOf rs.length acc)) (lstF rs (flOf rs.length acc)) := least_lst ok.ok
    have so : (lstR ro (flOf ro.length ao)).length ≤ 16 := Nat.le_trans (lst_small to.ok) to.le
    have sn : (lstR rs (flOf rs.length acc)).length ≤ 4 := Nat.le_trans (lst_small ok.ok) ok.le
    have mon : (lstR ro (flOf ro.length ao)).length * (lstR rs (flOf rs.length acc)).length ≤ 64 := Nat.le_trans (Nat.mul_le_mul so sn) (by decide)
    have mno : (lstR rs (flOf rs.length acc)).length * (lstR ro (flOf ro.length ao)).length ≤ 64 := Nat.le_trans (Nat.mul_le_mul sn so) (by decide)
    refine dseq ?_
    simp only [zM]
    refine ⟨_, _, _, _, t, rfl, Lo, Ln, mon, by omega, rfl, true, rfl, iteF ⟨_, _, _, _, t, rfl, Ln, Lo, mno, by omega, rfl, true, rfl, iteF (dseq ?_)⟩⟩
    simp only [zM]
    refine ⟨_, 4, rfl, by decide, by omega, by omega, fun way p6 p7 => ⟨rfl, dseq ?_⟩⟩
    obtain ⟨way, rfl⟩ := int_nat p6
    simp only [zM, dBin]
    have A1 : Of2 _ (lstR rs (flOf rs.length acc)) _ (lstF rs (flOf rs.length acc)) (fun a _ => a) _ _ := of2_one Lo
    have A2 : Of2 (lstR ro (flOf ro.length ao)) _ (lstF ro (flOf ro.length ao)) _ (fun _ b => b) _ _ := of2_other Ln
    refine ⟨⟨_, _, rfl⟩, .ins io_PairSet, _, _, rfl, of2_cmb A1 A2 Lo.ok Ln.ok mon fun y0 l0 Z0 => ⟨rfl, rfl, ?_⟩⟩
    refine ⟨⟨_, _, rfl⟩, .ins io_PairSet, _, _, rfl, of2_cmb A1 A2 Lo.ok Ln.ok mon fun y1 l1 Z1 => ⟨rfl, rfl, ?_⟩⟩
    refine ⟨⟨_, _, rfl⟩, .ins io_PairSet, _, _, rfl, of2_cmb A1 A2 Lo.ok Ln.ok mon fun y2 l2 Z2 => ⟨rfl, rfl, ?_⟩⟩
    refine ⟨⟨_, _, rfl⟩, .ins io_PairSet, _, _, rfl, of2_cmb A1 A2 Lo.ok Ln.ok mon fun y3 l3 Z3 => ⟨rfl, ?_⟩⟩
    obtain ⟨y, l, Z, ez⟩ : ∃ y l, Of2 (lstR ro (flOf ro.length ao)) (lstR rs (flOf rs.length acc)) (lstF ro (flOf ro.length ao)) (lstF rs (flOf rs.length acc)) (wayB way) y l ∧ atI [macD a_PairSet y0 l0, macD a_PairSet y1 l1, macD a_PairSet y2 l2, macD a_PairSet y3 l3] ((way : Nat) : Int) = some (macD a_PairSet y l) := by
      have : way = 0 ∨ way = 1 ∨ way = 2 ∨ way = 3 := by omega
      rcases this with rfl | rfl | rfl | rfl
      · exact ⟨_, _, Z0, rfl⟩
      · exact ⟨_, _, Z1, rfl⟩
      · exact ⟨_, _, Z2, rfl⟩
      · exact ⟨_, _, Z3, rfl⟩
    refine ⟨rfl, _, ez, dseq ?_⟩
    simp only [zM]
    have lao : ao.length ≤ 16 := Nat.le_trans (OrdOk.len ⟨to.nd, to.lt⟩) to.le
    have lac : acc.length ≤ 4 := Nat.le_trans (OrdOk.len ⟨ok.nd, ok.lt⟩) ok.le
    have mrs : ro.length * rs.length ≤ 64 := Nat.le_trans (Nat.mul_le_mul to.le ok.le) (by decide)
    refine ⟨ro, rs, ao, acc, way, rfl, to.ok, ok.ok, by omega, by omega, by omega, by omega, fun os rows J => ⟨rfl, dseq ?_⟩⟩
    have jl : os.length ≤ 64 := Nat.le_trans J.le mrs
    have TJ : TableOk rows.length rows (jacc way os ao acc) := jacc_tabW J (by omega) (Nat.le_refl _)
    have rl : rows.length ≤ 64 := by rw [J.len]; exact jl
    simp only [zM]
    refine ⟨by decide, by decide, ?_⟩
    have fin : ∀ (wss : List (List Nat)) (k : Nat), (∀ ws ∈ wss, Same3 ws ∧ ws.length ≤ 1000) → wss.length ≤ 7 → True := fun _ _ _ _ => trivial
    refine lcL_pre (pre := []) (fun p2 a δ => ∃ (wss : List (List Nat)) (k : Nat), a = wss.map wsD ∧ (∀ ws ∈ wss, Same3 ws ∧ ws.length ≤ 1000) ∧ wss.length = p2.length ∧ wss.length ≤ 6 ∧ k ≤ m + 5 + 8 * p2.length ∧ δ = [some (.p (.scr ns)), some (.o (.lst (ks.map (keD a_PairSet)))), some (.p (.int (p.length : Nat))), some (.u false k), some (.p (tabD rs acc)), some (.p (pairD a_PairSet rs (flOf rs.length acc))), some (.p (pairD a_PairSet ro (flOf ro.length ao))), some (.p (tabD ro ao)), some (.p (.int (t : Nat))), some (.p (.int (way : Nat))), some (.p (macD a_PairSet y l)), some (.p (tabD rows (jacc way os ao acc))), x12, none]) (fun p2 a δ hI => ?_) (fun p2 e2 r2 a δ hp2 hI Y M hY hM => ?_) (fun a δ hI => ?_) ⟨[], _, rfl, (fun _ h => by cases h), rfl, by decide, Nat.le_refl _, rfl⟩
    · obtain ⟨wss, k, rfl, h1, h2, h3, h4, rfl⟩ := hI
      rw [List.length_map, sizeLine_eq]
      omega
    · obtain ⟨wss, k, rfl, h1, h2, h3, h4, rfl⟩ := hI
      have hpl := congrArg List.length hp2
      rw [List.nil_append, List.length_append, List.length_cons, upto_ln] at hpl
      have hpl : 6 = p2.length + (r2.length + 1) := hpl
      simp only [zM, dYes]
      refine ⟨k, 7, rfl, by decide, by omega, fun x m2 xt xl q0 q1 => ⟨rfl, ?_⟩⟩
      obtain ⟨ws, rfl, w3, wl⟩ := mk_words xt
      refine ⟨rfl, hY (wsD ws) [some (.p (.scr ns)), some (.o (.lst (ks.map (keD a_PairSet)))), some (.p (.int (p.length : Nat))), some (.u false m2), some (.p (tabD rs acc)), some (.p (pairD a_PairSet rs (flOf rs.length acc))), some (.p (pairD a_PairSet ro (flOf ro.length ao))), some (.p (tabD ro ao)), some (.p (.int (t : Nat))), some (.p (.int (way : Nat))), some (.p (macD a_PairSet y l)), some (.p (tabD rows (jacc way os ao acc))), x12, some (.p e2)] ⟨wss ++ [ws], m2, by rw [List.map_append]; rfl, fun z hz => ?_, by rw [len_snoc, len_snoc, h2], by rw [len_snoc]; omega, by rw [len_snoc]; omega, rfl⟩⟩
      rcases List.mem_append.mp hz with z1 | z1
      · exact h1 z z1
      · rw [List.mem_singleton.mp z1]
        exact ⟨w3, by omega⟩
    obtain ⟨wss, k, rfl, h1, h2, h3, h4, rfl⟩ := hI
    rw [List.nil_append, show (upto 0 (Int.toNat 6)).length = 6 from rfl] at h2 h4
    refine ⟨⟨_, _, rfl⟩, _, _, rfl, k, 60, rfl, by decide, by omega, fun x m2 xt xl q0 q1 => ⟨rfl, rfl, ?_⟩⟩
    obtain ⟨ws, rfl, w3, wl⟩ := mk_words xt
    refine ⟨by rw [List.length_map]; omega, dseq ?_⟩
    simp only [zM]
    rw [show List.map wsD wss ++ [D.str (wrdS ws)] = (wss ++ [ws]).map wsD by rw [List.map_append]; rfl]
    have WO : WsOk (wss ++ [ws]) := ⟨by rw [len_snoc]; omega, fun z hz => by
      rcases List.mem_append.mp hz with z1 | z1
      · exact h1 z z1
      · rw [List.mem_singleton.mp z1]
        exact ⟨w3, by omega⟩⟩
    have lja : (jacc way os ao acc).length ≤ 4095 := Nat.le_trans jacc_le (by omega)
    refine ⟨_, _, _, _, _, rfl, Z.L.ok, Z.L.len, TJ.ok, lja, fun w => by rw [Z.e, told_w to.ok, told_w ok.ok, jacc_lang J], WO, rfl, true, rfl, iteF ?_⟩
    refine ⟨_, _, _, _, _, rfl, Ln.ok, Ln.len, ok.ok, by omega, fun w => told_w ok.ok, WO, rfl, true, rfl, iteF (dseq ?_)⟩
    simp only [zM]
    refine ⟨_, _, _, _, _, rfl, Lo.ok, Lo.len, to.ok, by omega, fun w => told_w to.ok, WO, rfl, true, rfl, iteF (dseq ?_)⟩
    simp only [zM]
    have zm : macD a_PairSet y l = pairD a_PairSet rows (flOf rows.length (jacc way os ao acc)) := by
      obtain ⟨e1, e2⟩ := canon Z.L (least_lst (fl := flOf rows.length (jacc way os ao acc)) TJ.ok) fun w => by rw [Z.e, told_w to.ok, told_w ok.ok, told_w TJ.ok, jacc_lang J]
      rw [e1, e2]
    have k1 : List.map (keD a_PairSet) ks ++ [D.tup [pairD a_PairSet rs (flOf rs.length acc), tabD rs acc]] = List.map (keD a_PairSet) (ks ++ [(rs, acc)]) := by
      rw [List.map_append]
      rfl
    have k2 : List.map (keD a_PairSet) (ks ++ [(rs, acc)]) ++ [D.tup [pairD a_PairSet rows (flOf rows.length (jacc way os ao acc)), tabD rows (jacc way os ao acc)]] = List.map (keD a_PairSet) (ks ++ [(rs, acc)] ++ [(rows, jacc way os ao acc)]) := by
      rw [List.map_append (l₁ := ks ++ [(rs, acc)])]
      rfl
    rw [k1, zm, k2]
    refine ⟨by omega, _, at_0, rows.length, congrArg some (List.length_map _), ?_⟩
    by_cases h16 : rows.length ≤ 16
    · rw [if_pos (show ((rows.length : Nat) : Int) ≤ 16 by omega)]
      refine ⟨by omega, hN _ ⟨ks ++ [(rs, acc)] ++ [(rows, jacc way os ao acc)], _, _, _, _, _, _, _, _, _, _, _, _, ⟨by rw [len_snoc, len_snoc]; omega, by rw [len_snoc]; omega, fun z hz => ?_⟩, by rw [len_snoc, len_snoc, len_snoc]; omega, rfl⟩⟩
      rcases List.mem_append.mp hz with z1 | z1
      · rcases List.mem_append.mp z1 with z2 | z2
        · exact KO.ok z z2
        · rw [List.mem_singleton.mp z2]
          exact ⟨ok.ok, Nat.le_trans ok.le (by decide), ok.nd, ok.lt⟩
      · rw [List.mem_singleton.mp z1]
        exact ⟨TJ.ok, h16, TJ.nd, TJ.lt⟩
    · rw [if_neg (show ¬ ((rows.length : Nat) : Int) ≤ 16 by omega)]
      refine hN _ ⟨ks ++ [(rs, acc)], _, _, _, _, _, _, _, _, _, _, _, _, ⟨by rw [len_snoc]; omega, by rw [len_snoc]; omega, fun z hz => ?_⟩, by rw [len_snoc, len_snoc]; omega, rfl⟩
      rcases List.mem_append.mp hz with z2 | z2
      · exact KO.ok z z2
      · rw [List.mem_singleton.mp z2]
        exact ⟨ok.ok, Nat.le_trans ok.le (by decide), ok.nd, ok.lt⟩
end
section
variable {P : Program} {w : World} {K : PySem.W.Frag} {mg : Str → Option Value} {base : Heap}

theorem mkp_2 {a_PairSet aI : Addr} {k : Nat} (h : ∃ f fd, GnOk P w K mg base k f fd ["self", "rows", "accepting"] (toSpS K (spi_PairSet a_PairSet aI)) ∧ Mk K a_PairSet f ∧ mg "PairSet" = some (.ref a_PairSet) ∧ FunD K "__init__" "PairSet.__init__" (defArgs s_PairSet___init__) (defBody s_PairSet___init__) (defScope s_PairSet___init__) [] [] f fd) :
    MakC P w K mg base "PairSet" a_PairSet k ["self", "rows", "accepting"] [] (spi_PairSet a_PairSet aI) := by
  obtain ⟨f, fd, G, M, hm, F⟩ := h
  obtain ⟨oc, od, dV, kV, doc, pm, an, cdv, ct, osl, rfl, lk, hcd, hD, hK⟩ := F.ex
  rcases hD with ⟨_, rfl⟩ | ⟨e, _⟩
  · exact ⟨f, _, [], [], G, M, hm, .all fun us hl => match us, hl with | [_, _, _], _ => rfl, .nil, fun F => .nil⟩
  · exact absurd rfl e

end
end K
set_option Elab.async false
set_option linter.all false
set_option maxRecDepth 100000
set_option maxHeartbeats 8000000
namespace K
open PySem PySem.Spec PyProof.Rows L2 DD
def initOf : Stmt → Stmt
  | .ClassDef _ _ _ b _ _ _ _ _ _ _ => b.getD 0 (.Pass ⟨0, 0, 0, 0⟩)
  | s => s
def p_InvalidMachine : Nat → Pos := fun | 0 => ⟨23, 8, 23, 13⟩ | 1 => ⟨23, 8, 23, 15⟩ | 2 => ⟨23, 8, 23, 24⟩ | 3 => ⟨23, 25, 23, 30⟩ | 4 => ⟨23, 8, 23, 31⟩ | 5 => ⟨23, 8, 23, 31⟩ | 6 => ⟨24, 8, 24, 12⟩ | 7 => ⟨24, 8, 24, 18⟩ | 8 => ⟨24, 21, 24, 26⟩ | _ => ⟨24, 8, 24, 26⟩
abbrev i_InvalidMachine : Stmt := initOf (topS 7)
def p_InvalidSet : Nat → Pos := fun | 0 => ⟨28, 8, 28, 13⟩ | 1 => ⟨28, 8, 28, 15⟩ | 2 => ⟨28, 8, 28, 24⟩ | 3 => ⟨28, 25, 28, 30⟩ | 4 => ⟨28, 8, 28, 31⟩ | 5 => ⟨28, 8, 28, 31⟩ | 6 => ⟨29, 8, 29, 12⟩ | 7 => ⟨29, 8, 29, 18⟩ | 8 => ⟨29, 21, 29, 26⟩ | _ => ⟨29, 8, 29, 26⟩
abbrev i_InvalidSet : Stmt := initOf (topS 8)
def p_InvalidNumber : Nat → Pos := fun | 0 => ⟨33, 8, 33, 13⟩ | 1 => ⟨33, 8, 33, 15⟩ | 2 => ⟨33, 8, 33, 24⟩ | 3 => ⟨33, 25, 33, 30⟩ | 4 => ⟨33, 8, 33, 31⟩ | 5 => ⟨33, 8, 33, 31⟩ | 6 => ⟨34, 8, 34, 12⟩ | 7 => ⟨34, 8, 34, 18⟩ | 8 => ⟨34, 21, 34, 26⟩ | _ => ⟨34, 8, 34, 26⟩
abbrev i_InvalidNumber : Stmt := initOf (topS 9)
def p_InvalidMarks : Nat → Pos := fun | 0 => ⟨18, 8, 18, 13⟩ | 1 => ⟨18, 8, 18, 15⟩ | 2 => ⟨18, 8, 18, 24⟩ | 3 => ⟨18, 25, 18, 30⟩ | 4 => ⟨18, 8, 18, 31⟩ | 5 => ⟨18, 8, 18, 31⟩ | 6 => ⟨19, 8, 19, 12⟩ | 7 => ⟨19, 8, 19, 18⟩ | 8 => ⟨19, 21, 19, 26⟩ | _ => ⟨19, 8, 19, 26⟩
abbrev i_InvalidMarks : Stmt := initOf (topS 6)
theorem all_mk {w : World} {K : PySem.W.Frag} {h : Heap} {mg : Str → Option Value} (X : K.In h) (G : h.Ns mainGlobals mg)
    {f_first_met : Addr} {od_first_met an_first_met : Option Addr} {sl_first_met : Array (Option Value)} {oc_first_met kV_first_met dc_first_met pm_first_met cd_first_met ct_first_met : Value}
    {f_renumbered : Addr} {od_renumbered an_renumbered : Option Addr} {sl_renumbered : Array (Option Value)} {oc_renumbered kV_renumbered dc_renumbered pm_renumbered cd_renumbered ct_renumbered : Value}
    {f_grouped : Addr} {od_grouped an_grouped : Option Addr} {sl_grouped : Array (Option Value)} {oc_grouped kV_grouped dc_grouped pm_grouped cd_grouped ct_grouped : Value}
    {f_least_machine : Addr} {od_least_machine an_least_machine : Option Addr} {sl_least_machine : Array (Option Value)} {oc_least_machine kV_least_machine dc_least_machine pm_least_machine cd_least_machine ct_least_machine : Value}
    {f_is_whole : Addr} {od_is_whole an_is_whole : Option Addr} {sl_is_whole : Array (Option Value)} {oc_is_whole kV_is_whole dc_is_whole pm_is_whole cd_is_whole ct_is_whole : Value}
    {f_is_state : Addr} {od_is_state an_is_state : Option Addr} {sl_is_state : Array (Option Value)} {oc_is_state kV_is_state dc_is_state pm_is_state cd_is_state ct_is_state : Value}
    {f_is_machine : Addr} {od_is_machine an_is_machine : Option Addr} {sl_is_machine : Array (Option Value)} {oc_is_machine kV_is_machine dc_is_machine pm_is_machine cd_is_machine ct_is_machine : Value}
    {f__law_draw : Addr} {od__law_draw an__law_draw : Option Addr} {sl__law_draw : Array (Option Value)} {oc__law_draw kV__law_draw dc__law_draw pm__law_draw cd__law_draw ct__law_draw : Value}
    {f__law_purse : Addr} {od__law_purse an__law_purse : Option Addr} {sl__law_purse : Array (Option Value)} {oc__law_purse kV__law_purse dc__law_purse pm__law_purse cd__law_purse ct__law_purse : Value}
    {f__law_table : Addr} {od__law_table an__law_table : Option Addr} {sl__law_table : Array (Option Value)} {oc__law_table kV__law_table dc__law_table pm__law_table cd__law_table ct__law_table : Value}
    {f__law_joined : Addr} {od__law_joined an__law_joined : Option Addr} {sl__law_joined : Array (Option Value)} {oc__law_joined kV__law_joined dc__law_joined pm__law_joined cd__law_joined ct__law_joined : Value}
    {f__law_set : Addr} {od__law_set an__law_set : Option Addr} {sl__law_set : Array (Option Value)} {oc__law_set kV__law_set dc__law_set pm__law_set cd__law_set ct__law_set : Value}
    {f_product : Addr} {od_product an_product : Option Addr} {sl_product : Array (Option Value)} {oc_product kV_product dc_product pm_product cd_product ct_product : Value}
    {f_is_within : Addr} {od_is_within an_is_within : Option Addr} {sl_is_within : Array (Option Value)} {oc_is_within kV_is_within dc_is_within pm_is_within cd_is_within ct_is_within : Value}
    {f_is_over : Addr} {od_is_over an_is_over : Option Addr} {sl_is_over : Array (Option Value)} {oc_is_over kV_is_over dc_is_over pm_is_over cd_is_over ct_is_over : Value}
    {f_made_of : Addr} {od_made_of an_made_of : Option Addr} {sl_made_of : Array (Option Value)} {oc_made_of kV_made_of dc_made_of pm_made_of cd_made_of ct_made_of : Value}
    {f_combined : Addr} {od_combined an_combined : Option Addr} {sl_combined : Array (Option Value)} {oc_combined kV_combined dc_combined pm_combined cd_combined ct_combined : Value}
    {f_count_words : Addr} {od_count_words an_count_words : Option Addr} {sl_count_words : Array (Option Value)} {oc_count_words kV_count_words dc_count_words pm_count_words cd_count_words ct_count_words : Value}
    {f_state_from : Addr} {od_state_from an_state_from : Option Addr} {sl_state_from : Array (Option Value)} {oc_state_from kV_state_from dc_state_from pm_state_from cd_state_from ct_state_from : Value}
    {f_state_after : Addr} {od_state_after an_state_after : Option Addr} {sl_state_after : Array (Option Value)} {oc_state_after kV_state_after dc_state_after pm_state_after cd_state_after ct_state_after : Value}
    {f__law_read : Addr} {od__law_read an__law_read : Option Addr} {sl__law_read : Array (Option Value)} {oc__law_read kV__law_read dc__law_read pm__law_read cd__law_read ct__law_read : Value}
    {f_is_marks : Addr} {od_is_marks an_is_marks : Option Addr} {sl_is_marks : Array (Option Value)} {oc_is_marks kV_is_marks dc_is_marks pm_is_marks cd_is_marks ct_is_marks : Value}
    {f_check_marks : Addr} {od_check_marks an_check_marks : Option Addr} {sl_check_marks : Array (Option Value)} {oc_check_marks kV_check_marks dc_check_marks pm_check_marks cd_check_marks ct_check_marks : Value}
    {f__law_pick : Addr} {od__law_pick an__law_pick : Option Addr} {sl__law_pick : Array (Option Value)} {oc__law_pick kV__law_pick dc__law_pick pm__law_pick cd__law_pick ct__law_pick : Value}
    {f__law_marks : Addr} {od__law_marks an__law_marks : Option Addr} {sl__law_marks : Array (Option Value)} {oc__law_marks kV__law_marks dc__law_marks pm__law_marks cd__law_marks ct__law_marks : Value}
    {f__law_laws_of_sets : Addr} {od__law_laws_of_sets an__law_laws_of_sets : Option Addr} {sl__law_laws_of_sets : Array (Option Value)} {oc__law_laws_of_sets kV__law_laws_of_sets dc__law_laws_of_sets pm__law_laws_of_sets cd__law_laws_of_sets ct__law_laws_of_sets : Value}
    {f__law_right : Addr} {od__law_right an__law_right : Option Addr} {sl__law_right : Array (Option Value)} {oc__law_right kV__law_right dc__law_right pm__law_right cd__law_right ct__law_right : Value}
    {f_law : Addr} {od_law an_law : Option Addr} {sl_law : Array (Option Value)} {oc_law kV_law dc_law pm_law cd_law ct_law : Value}
    {A_InvalidMachine : Addr}
    {nm_InvalidMachine q_InvalidMachine : Str} {N_InvalidMachine : Addr} {bs_InvalidMachine bm_InvalidMachine : List Value} {sn_InvalidMachine : List Str} {sub_InvalidMachine : List Value} {ab_InvalidMachine : Bool} {col_InvalidMachine : Option Bool} {dd_InvalidMachine : Option Addr} {k0_InvalidMachine k1_InvalidMachine k2_InvalidMachine k3_InvalidMachine k5_InvalidMachine : Option Value}
    {T_InvalidMachine : Addr} {tc_InvalidMachine : Value} {td_InvalidMachine : Option Addr} {tn_InvalidMachine : Nat} {ts_InvalidMachine : Array (Option Value)}
    {I_InvalidMachine : Addr} {oc_InvalidMachine kV_InvalidMachine doc_InvalidMachine pm_InvalidMachine ct_InvalidMachine ccl_InvalidMachine cl_InvalidMachine : Value} {od_InvalidMachine an_InvalidMachine cdd_InvalidMachine cld_InvalidMachine : Option Addr} {cda_InvalidMachine cc_InvalidMachine : Addr} {osl_InvalidMachine ccs_InvalidMachine csl_InvalidMachine : Array (Option Value)} {vs_InvalidMachine : Array Value} {file_InvalidMachine : Str} {tf_InvalidMachine : Tok}
    {A_InvalidSet : Addr}
    {nm_InvalidSet q_InvalidSet : Str} {N_InvalidSet : Addr} {bs_InvalidSet bm_InvalidSet : List Value} {sn_InvalidSet : List Str} {sub_InvalidSet : List Value} {ab_InvalidSet : Bool} {col_InvalidSet : Option Bool} {dd_InvalidSet : Option Addr} {k0_InvalidSet k1_InvalidSet k2_InvalidSet k3_InvalidSet k5_InvalidSet : Option Value}
    {T_InvalidSet : Addr} {tc_InvalidSet : Value} {td_InvalidSet : Option Addr} {tn_InvalidSet : Nat} {ts_InvalidSet : Array (Option Value)}
    {I_InvalidSet : Addr} {oc_InvalidSet kV_InvalidSet doc_InvalidSet pm_InvalidSet ct_InvalidSet ccl_InvalidSet cl_InvalidSet : Value} {od_InvalidSet an_InvalidSet cdd_InvalidSet cld_InvalidSet : Option Addr} {cda_InvalidSet cc_InvalidSet : Addr} {osl_InvalidSet ccs_InvalidSet csl_InvalidSet : Array (Option Value)} {vs_InvalidSet : Array Value} {file_InvalidSet : Str} {tf_InvalidSet : Tok}
    {A_InvalidNumber : Addr}
    {nm_InvalidNumber q_InvalidNumber : Str} {N_InvalidNumber : Addr} {bs_InvalidNumber bm_InvalidNumber : List Value} {sn_InvalidNumber : List Str} {sub_InvalidNumber : List Value} {ab_InvalidNumber : Bool} {col_InvalidNumber : Option Bool} {dd_InvalidNumber : Option Addr} {k0_InvalidNumber k1_InvalidNumber k2_InvalidNumber k3_InvalidNumber k5_InvalidNumber : Option Value}
    {T_InvalidNumber : Addr} {tc_InvalidNumber : Value} {td_InvalidNumber : Option Addr} {tn_InvalidNumber : Nat} {ts_InvalidNumber : Array (Option Value)}
    {I_InvalidNumber : Addr} {oc_InvalidNumber kV_InvalidNumber doc_InvalidNumber pm_InvalidNumber ct_InvalidNumber ccl_InvalidNumber cl_InvalidNumber : Value} {od_InvalidNumber an_InvalidNumber cdd_InvalidNumber cld_InvalidNumber : Option Addr} {cda_InvalidNumber cc_InvalidNumber : Addr} {osl_InvalidNumber ccs_InvalidNumber csl_InvalidNumber : Array (Option Value)} {vs_InvalidNumber : Array Value} {file_InvalidNumber : Str} {tf_InvalidNumber : Tok}
    {A_InvalidMarks : Addr}
    {nm_InvalidMarks q_InvalidMarks : Str} {N_InvalidMarks : Addr} {bs_InvalidMarks bm_InvalidMarks : List Value} {sn_InvalidMarks : List Str} {sub_InvalidMarks : List Value} {ab_InvalidMarks : Bool} {col_InvalidMarks : Option Bool} {dd_InvalidMarks : Option Addr} {k0_InvalidMarks k1_InvalidMarks k2_InvalidMarks k3_InvalidMarks k5_InvalidMarks : Option Value}
    {T_InvalidMarks : Addr} {tc_InvalidMarks : Value} {td_InvalidMarks : Option Addr} {tn_InvalidMarks : Nat} {ts_InvalidMarks : Array (Option Value)}
    {I_InvalidMarks : Addr} {oc_InvalidMarks kV_InvalidMarks doc_InvalidMarks pm_InvalidMarks ct_InvalidMarks ccl_InvalidMarks cl_InvalidMarks : Value} {od_InvalidMarks an_InvalidMarks cdd_InvalidMarks cld_InvalidMarks : Option Addr} {cda_InvalidMarks cc_InvalidMarks : Addr} {osl_InvalidMarks ccs_InvalidMarks csl_InvalidMarks : Array (Option Value)} {vs_InvalidMarks : Array Value} {file_InvalidMarks : Str} {tf_InvalidMarks : Tok}
    {A_MARKS : Addr} {od_MARKS : Option Addr} {sl_MARKS : Array (Option Value)} {nn_MARKS : Nat} {t0_MARKS t1_MARKS t2_MARKS : Tok}
    {A_PairSet : Addr}
    {nm_PairSet q_PairSet : Str} {N_PairSet : Addr} {bs_PairSet : List Value} {sn_PairSet : List Str} {sub_PairSet : List Value} {ab_PairSet : Bool} {col_PairSet : Option Bool} {dd_PairSet : Option Addr} {k0_PairSet k1_PairSet k2_PairSet k3_PairSet k5_PairSet : Option Value} {nw_PairSet : String} {fe_PairSet : Addr} {oe_PairSet : Obj}
    {f_PairSet___le__ : Addr} {od_PairSet___le__ an_PairSet___le__ : Option Addr} {sl_PairSet___le__ : Array (Option Value)} {oc_PairSet___le__ kV_PairSet___le__ dc_PairSet___le__ pm_PairSet___le__ cd_PairSet___le__ ct_PairSet___le__ : Value}
    {f_PairSet___ge__ : Addr} {od_PairSet___ge__ an_PairSet___ge__ : Option Addr} {sl_PairSet___ge__ : Array (Option Value)} {oc_PairSet___ge__ kV_PairSet___ge__ dc_PairSet___ge__ pm_PairSet___ge__ cd_PairSet___ge__ ct_PairSet___ge__ : Value}
    {f_PairSet___lt__ : Addr} {od_PairSet___lt__ an_PairSet___lt__ : Option Addr} {sl_PairSet___lt__ : Array (Option Value)} {oc_PairSet___lt__ kV_PairSet___lt__ dc_PairSet___lt__ pm_PairSet___lt__ cd_PairSet___lt__ ct_PairSet___lt__ : Value}
    {f_PairSet___gt__ : Addr} {od_PairSet___gt__ an_PairSet___gt__ : Option Addr} {sl_PairSet___gt__ : Array (Option Value)} {oc_PairSet___gt__ kV_PairSet___gt__ dc_PairSet___gt__ pm_PairSet___gt__ cd_PairSet___gt__ ct_PairSet___gt__ : Value}
    {f_PairSet___eq__ : Addr} {od_PairSet___eq__ an_PairSet___eq__ : Option Addr} {sl_PairSet___eq__ : Array (Option Value)} {oc_PairSet___eq__ kV_PairSet___eq__ dc_PairSet___eq__ pm_PairSet___eq__ cd_PairSet___eq__ ct_PairSet___eq__ : Value}
    {f_PairSet___bool__ : Addr} {od_PairSet___bool__ an_PairSet___bool__ : Option Addr} {sl_PairSet___bool__ : Array (Option Value)} {oc_PairSet___bool__ kV_PairSet___bool__ dc_PairSet___bool__ pm_PairSet___bool__ cd_PairSet___bool__ ct_PairSet___bool__ : Value}
    {f_PairSet___and__ : Addr} {od_PairSet___and__ an_PairSet___and__ : Option Addr} {sl_PairSet___and__ : Array (Option Value)} {oc_PairSet___and__ kV_PairSet___and__ dc_PairSet___and__ pm_PairSet___and__ cd_PairSet___and__ ct_PairSet___and__ : Value}
    {f_PairSet___or__ : Addr} {od_PairSet___or__ an_PairSet___or__ : Option Addr} {sl_PairSet___or__ : Array (Option Value)} {oc_PairSet___or__ kV_PairSet___or__ dc_PairSet___or__ pm_PairSet___or__ cd_PairSet___or__ ct_PairSet___or__ : Value}
    {f_PairSet___sub__ : Addr} {od_PairSet___sub__ an_PairSet___sub__ : Option Addr} {sl_PairSet___sub__ : Array (Option Value)} {oc_PairSet___sub__ kV_PairSet___sub__ dc_PairSet___sub__ pm_PairSet___sub__ cd_PairSet___sub__ ct_PairSet___sub__ : Value}
    {f_PairSet___xor__ : Addr} {od_PairSet___xor__ an_PairSet___xor__ : Option Addr} {sl_PairSet___xor__ : Array (Option Value)} {oc_PairSet___xor__ kV_PairSet___xor__ dc_PairSet___xor__ pm_PairSet___xor__ cd_PairSet___xor__ ct_PairSet___xor__ : Value}
    {f_PairSet___invert__ : Addr} {od_PairSet___invert__ an_PairSet___invert__ : Option Addr} {sl_PairSet___invert__ : Array (Option Value)} {oc_PairSet___invert__ kV_PairSet___invert__ dc_PairSet___invert__ pm_PairSet___invert__ cd_PairSet___invert__ ct_PairSet___invert__ : Value}
    {f_PairSet_count : Addr} {od_PairSet_count an_PairSet_count : Option Addr} {sl_PairSet_count : Array (Option Value)} {oc_PairSet_count kV_PairSet_count dc_PairSet_count pm_PairSet_count cd_PairSet_count ct_PairSet_count : Value}
    {f_PairSet_has : Addr} {od_PairSet_has an_PairSet_has : Option Addr} {sl_PairSet_has : Array (Option Value)} {oc_PairSet_has kV_PairSet_has dc_PairSet_has pm_PairSet_has cd_PairSet_has ct_PairSet_has : Value}
    {p_PairSet_every : Addr} {r_PairSet_every : List Value}
    {f_PairSet_every : Addr} {od_PairSet_every an_PairSet_every : Option Addr} {sl_PairSet_every : Array (Option Value)} {oc_PairSet_every kV_PairSet_every dc_PairSet_every pm_PairSet_every cd_PairSet_every ct_PairSet_every : Value}
    {p_PairSet_common : Addr} {r_PairSet_common : List Value}
    {f_PairSet_common : Addr} {od_PairSet_common an_PairSet_common : Option Addr} {sl_PairSet_common : Array (Option Value)} {oc_PairSet_common kV_PairSet_common dc_PairSet_common pm_PairSet_common cd_PairSet_common ct_PairSet_common : Value}
    {f_PairSet___init__ : Addr} {od_PairSet___init__ an_PairSet___init__ : Option Addr} {sl_PairSet___init__ : Array (Option Value)} {oc_PairSet___init__ kV_PairSet___init__ dc_PairSet___init__ pm_PairSet___init__ cd_PairSet___init__ ct_PairSet___init__ dV_PairSet___init__ : Value}
    
    (zsup : PySem.W.nsIn K mainGlobals "super" = some none)
    (zopq : PySem.W.nsIn K cStatics "thirdparty.any" = some none)
    (zsp : PySem.W.specialIn K (.builtin "object.__class__") "__get__" = some (some (.builtin "getset_descriptor.__get__")))
    (ztk : PySem.W.takesIn K (.builtin "object.__class__") = some true)
    (a_first_met : PySem.W.nsIn K mainGlobals "first_met" = some (some (.ref f_first_met)))
    (l_first_met : K.lookup f_first_met = some ⟨oc_first_met, od_first_met, .func (PySem.W.fnOf "first_met" "first_met" (defArgs s_first_met) (defBody s_first_met) (defScope s_first_met) .none kV_first_met dc_first_met pm_first_met an_first_met cd_first_met ct_first_met), sl_first_met⟩)
    (c_first_met : PySem.W.codeIn K cd_first_met "first_met" = true)
    (k_first_met : PySem.W.keepIn K (.ref f_first_met) = true)
    (a_renumbered : PySem.W.nsIn K mainGlobals "renumbered" = some (some (.ref f_renumbered)))
    (l_renumbered : K.lookup f_renumbered = some ⟨oc_renumbered, od_renumbered, .func (PySem.W.fnOf "renumbered" "renumbered" (defArgs s_renumbered) (defBody s_renumbered) (defScope s_renumbered) .none kV_renumbered dc_renumbered pm_renumbered an_renumbered cd_renumbered ct_renumbered), sl_renumbered⟩)
    (c_renumbered : PySem.W.codeIn K cd_renumbered "renumbered" = true)
    (k_renumbered : PySem.W.keepIn K (.ref f_renumbered) = true)
    (a_grouped : PySem.W.nsIn K mainGlobals "grouped" = some (some (.ref f_grouped)))
    (l_grouped : K.lookup f_grouped = some ⟨oc_grouped, od_grouped, .func (PySem.W.fnOf "grouped" "grouped" (defArgs s_grouped) (defBody s_grouped) (defScope s_grouped) .none kV_grouped dc_grouped pm_grouped an_grouped cd_grouped ct_grouped), sl_grouped⟩)
    (c_grouped : PySem.W.codeIn K cd_grouped "grouped" = true)
    (k_grouped : PySem.W.keepIn K (.ref f_grouped) = true)
    (a_least_machine : PySem.W.nsIn K mainGlobals "least_machine" = some (some (.ref f_least_machine)))
    (l_least_machine : K.lookup f_least_machine = some ⟨oc_least_machine, od_least_machine, .func (PySem.W.fnOf "least_machine" "least_machine" (defArgs s_least_machine) (defBody s_least_machine) (defScope s_least_machine) .none kV_least_machine dc_least_machine pm_least_machine an_least_machine cd_least_machine ct_least_machine), sl_least_machine⟩)
    (c_least_machine : PySem.W.codeIn K cd_least_machine "least_machine" = true)
    (k_least_machine : PySem.W.keepIn K (.ref f_least_machine) = true)
    (a_is_whole : PySem.W.nsIn K mainGlobals "is_whole" = some (some (.ref f_is_whole)))
    (l_is_whole : K.lookup f_is_whole = some ⟨oc_is_whole, od_is_whole, .func (PySem.W.fnOf "is_whole" "is_whole" (defArgs s_is_whole) (defBody s_is_whole) (defScope s_is_whole) .none kV_is_whole dc_is_whole pm_is_whole an_is_whole cd_is_whole ct_is_whole), sl_is_whole⟩)
    (c_is_whole : PySem.W.codeIn K cd_is_whole "is_whole" = true)
    (k_is_whole : PySem.W.keepIn K (.ref f_is_whole) = true)
    (a_is_state : PySem.W.nsIn K mainGlobals "is_state" = some (some (.ref f_is_state)))
    (l_is_state : K.lookup f_is_state = some ⟨oc_is_state, od_is_state, .func (PySem.W.fnOf "is_state" "is_state" (defArgs s_is_state) (defBody s_is_state) (defScope s_is_state) .none kV_is_state dc_is_state pm_is_state an_is_state cd_is_state ct_is_state), sl_is_state⟩)
    (c_is_state : PySem.W.codeIn K cd_is_state "is_state" = true)
    (k_is_state : PySem.W.keepIn K (.ref f_is_state) = true)
    (a_is_machine : PySem.W.nsIn K mainGlobals "is_machine" = some (some (.ref f_is_machine)))
    (l_is_machine : K.lookup f_is_machine = some ⟨oc_is_machine, od_is_machine, .func (PySem.W.fnOf "is_machine" "is_machine" (defArgs s_is_machine) (defBody s_is_machine) (defScope s_is_machine) .none kV_is_machine dc_is_machine pm_is_machine an_is_machine cd_is_machine ct_is_machine), sl_is_machine⟩)
    (c_is_machine : PySem.W.codeIn K cd_is_machine "is_machine" = true)
    (k_is_machine : PySem.W.keepIn K (.ref f_is_machine) = true)
    (a__law_draw : PySem.W.nsIn K mainGlobals "_law_draw" = some (some (.ref f__law_draw)))
    (l__law_draw : K.lookup f__law_draw = some ⟨oc__law_draw, od__law_draw, .func (PySem.W.fnOf "_law_draw" "_law_draw" (defArgs s__law_draw) (defBody s__law_draw) (defScope s__law_draw) .none kV__law_draw dc__law_draw pm__law_draw an__law_draw cd__law_draw ct__law_draw), sl__law_draw⟩)
    (c__law_draw : PySem.W.codeIn K cd__law_draw "_law_draw" = true)
    (k__law_draw : PySem.W.keepIn K (.ref f__law_draw) = true)
    (a__law_purse : PySem.W.nsIn K mainGlobals "_law_purse" = some (some (.ref f__law_purse)))
    (l__law_purse : K.lookup f__law_purse = some ⟨oc__law_purse, od__law_purse, .func (PySem.W.fnOf "_law_purse" "_law_purse" (defArgs s__law_purse) (defBody s__law_purse) (defScope s__law_purse) .none kV__law_purse dc__law_purse pm__law_purse an__law_purse cd__law_purse ct__law_purse), sl__law_purse⟩)
    (c__law_purse : PySem.W.codeIn K cd__law_purse "_law_purse" = true)
    (k__law_purse : PySem.W.keepIn K (.ref f__law_purse) = true)
    (a__law_table : PySem.W.nsIn K mainGlobals "_law_table" = some (some (.ref f__law_table)))
    (l__law_table : K.lookup f__law_table = some ⟨oc__law_table, od__law_table, .func (PySem.W.fnOf "_law_table" "_law_table" (defArgs s__law_table) (defBody s__law_table) (defScope s__law_table) .none kV__law_table dc__law_table pm__law_table an__law_table cd__law_table ct__law_table), sl__law_table⟩)
    (c__law_table : PySem.W.codeIn K cd__law_table "_law_table" = true)
    (k__law_table : PySem.W.keepIn K (.ref f__law_table) = true)
    (a__law_joined : PySem.W.nsIn K mainGlobals "_law_joined" = some (some (.ref f__law_joined)))
    (l__law_joined : K.lookup f__law_joined = some ⟨oc__law_joined, od__law_joined, .func (PySem.W.fnOf "_law_joined" "_law_joined" (defArgs s__law_joined) (defBody s__law_joined) (defScope s__law_joined) .none kV__law_joined dc__law_joined pm__law_joined an__law_joined cd__law_joined ct__law_joined), sl__law_joined⟩)
    (c__law_joined : PySem.W.codeIn K cd__law_joined "_law_joined" = true)
    (k__law_joined : PySem.W.keepIn K (.ref f__law_joined) = true)
    (a__law_set : PySem.W.nsIn K mainGlobals "_law_set" = some (some (.ref f__law_set)))
    (l__law_set : K.lookup f__law_set = some ⟨oc__law_set, od__law_set, .func (PySem.W.fnOf "_law_set" "_law_set" (defArgs s__law_set) (defBody s__law_set) (defScope s__law_set) .none kV__law_set dc__law_set pm__law_set an__law_set cd__law_set ct__law_set), sl__law_set⟩)
    (c__law_set : PySem.W.codeIn K cd__law_set "_law_set" = true)
    (k__law_set : PySem.W.keepIn K (.ref f__law_set) = true)
    (a_product : PySem.W.nsIn K mainGlobals "product" = some (some (.ref f_product)))
    (l_product : K.lookup f_product = some ⟨oc_product, od_product, .func (PySem.W.fnOf "product" "product" (defArgs s_product) (defBody s_product) (defScope s_product) .none kV_product dc_product pm_product an_product cd_product ct_product), sl_product⟩)
    (c_product : PySem.W.codeIn K cd_product "product" = true)
    (k_product : PySem.W.keepIn K (.ref f_product) = true)
    (a_is_within : PySem.W.nsIn K mainGlobals "is_within" = some (some (.ref f_is_within)))
    (l_is_within : K.lookup f_is_within = some ⟨oc_is_within, od_is_within, .func (PySem.W.fnOf "is_within" "is_within" (defArgs s_is_within) (defBody s_is_within) (defScope s_is_within) .none kV_is_within dc_is_within pm_is_within an_is_within cd_is_within ct_is_within), sl_is_within⟩)
    (c_is_within : PySem.W.codeIn K cd_is_within "is_within" = true)
    (k_is_within : PySem.W.keepIn K (.ref f_is_within) = true)
    (a_is_over : PySem.W.nsIn K mainGlobals "is_over" = some (some (.ref f_is_over)))
    (l_is_over : K.lookup f_is_over = some ⟨oc_is_over, od_is_over, .func (PySem.W.fnOf "is_over" "is_over" (defArgs s_is_over) (defBody s_is_over) (defScope s_is_over) .none kV_is_over dc_is_over pm_is_over an_is_over cd_is_over ct_is_over), sl_is_over⟩)
    (c_is_over : PySem.W.codeIn K cd_is_over "is_over" = true)
    (k_is_over : PySem.W.keepIn K (.ref f_is_over) = true)
    (a_made_of : PySem.W.nsIn K mainGlobals "made_of" = some (some (.ref f_made_of)))
    (l_made_of : K.lookup f_made_of = some ⟨oc_made_of, od_made_of, .func (PySem.W.fnOf "made_of" "made_of" (defArgs s_made_of) (defBody s_made_of) (defScope s_made_of) .none kV_made_of dc_made_of pm_made_of an_made_of cd_made_of ct_made_of), sl_made_of⟩)
    (c_made_of : PySem.W.codeIn K cd_made_of "made_of" = true)
    (k_made_of : PySem.W.keepIn K (.ref f_made_of) = true)
    (a_combined : PySem.W.nsIn K mainGlobals "combined" = some (some (.ref f_combined)))
    (l_combined : K.lookup f_combined = some ⟨oc_combined, od_combined, .func (PySem.W.fnOf "combined" "combined" (defArgs s_combined) (defBody s_combined) (defScope s_combined) .none kV_combined dc_combined pm_combined an_combined cd_combined ct_combined), sl_combined⟩)
    (c_combined : PySem.W.codeIn K cd_combined "combined" = true)
    (k_combined : PySem.W.keepIn K (.ref f_combined) = true)
    (a_count_words : PySem.W.nsIn K mainGlobals "count_words" = some (some (.ref f_count_words)))
    (l_count_words : K.lookup f_count_words = some ⟨oc_count_words, od_count_words, .func (PySem.W.fnOf "count_words" "count_words" (defArgs s_count_words) (defBody s_count_words) (defScope s_count_words) .none kV_count_words dc_count_words pm_count_words an_count_words cd_count_words ct_count_words), sl_count_words⟩)
    (c_count_words : PySem.W.codeIn K cd_count_words "count_words" = true)
    (k_count_words : PySem.W.keepIn K (.ref f_count_words) = true)
    (a_state_from : PySem.W.nsIn K mainGlobals "state_from" = some (some (.ref f_state_from)))
    (l_state_from : K.lookup f_state_from = some ⟨oc_state_from, od_state_from, .func (PySem.W.fnOf "state_from" "state_from" (defArgs s_state_from) (defBody s_state_from) (defScope s_state_from) .none kV_state_from dc_state_from pm_state_from an_state_from cd_state_from ct_state_from), sl_state_from⟩)
    (c_state_from : PySem.W.codeIn K cd_state_from "state_from" = true)
    (k_state_from : PySem.W.keepIn K (.ref f_state_from) = true)
    (a_state_after : PySem.W.nsIn K mainGlobals "state_after" = some (some (.ref f_state_after)))
    (l_state_after : K.lookup f_state_after = some ⟨oc_state_after, od_state_after, .func (PySem.W.fnOf "state_after" "state_after" (defArgs s_state_after) (defBody s_state_after) (defScope s_state_after) .none kV_state_after dc_state_after pm_state_after an_state_after cd_state_after ct_state_after), sl_state_after⟩)
    (c_state_after : PySem.W.codeIn K cd_state_after "state_after" = true)
    (k_state_after : PySem.W.keepIn K (.ref f_state_after) = true)
    (a__law_read : PySem.W.nsIn K mainGlobals "_law_read" = some (some (.ref f__law_read)))
    (l__law_read : K.lookup f__law_read = some ⟨oc__law_read, od__law_read, .func (PySem.W.fnOf "_law_read" "_law_read" (defArgs s__law_read) (defBody s__law_read) (defScope s__law_read) .none kV__law_read dc__law_read pm__law_read an__law_read cd__law_read ct__law_read), sl__law_read⟩)
    (c__law_read : PySem.W.codeIn K cd__law_read "_law_read" = true)
    (k__law_read : PySem.W.keepIn K (.ref f__law_read) = true)
    (a_is_marks : PySem.W.nsIn K mainGlobals "is_marks" = some (some (.ref f_is_marks)))
    (l_is_marks : K.lookup f_is_marks = some ⟨oc_is_marks, od_is_marks, .func (PySem.W.fnOf "is_marks" "is_marks" (defArgs s_is_marks) (defBody s_is_marks) (defScope s_is_marks) .none kV_is_marks dc_is_marks pm_is_marks an_is_marks cd_is_marks ct_is_marks), sl_is_marks⟩)
    (c_is_marks : PySem.W.codeIn K cd_is_marks "is_marks" = true)
    (k_is_marks : PySem.W.keepIn K (.ref f_is_marks) = true)
    (a_check_marks : PySem.W.nsIn K mainGlobals "check_marks" = some (some (.ref f_check_marks)))
    (l_check_marks : K.lookup f_check_marks = some ⟨oc_check_marks, od_check_marks, .func (PySem.W.fnOf "check_marks" "check_marks" (defArgs s_check_marks) (defBody s_check_marks) (defScope s_check_marks) .none kV_check_marks dc_check_marks pm_check_marks an_check_marks cd_check_marks ct_check_marks), sl_check_marks⟩)
    (c_check_marks : PySem.W.codeIn K cd_check_marks "check_marks" = true)
    (k_check_marks : PySem.W.keepIn K (.ref f_check_marks) = true)
    (a__law_pick : PySem.W.nsIn K mainGlobals "_law_pick" = some (some (.ref f__law_pick)))
    (l__law_pick : K.lookup f__law_pick = some ⟨oc__law_pick, od__law_pick, .func (PySem.W.fnOf "_law_pick" "_law_pick" (defArgs s__law_pick) (defBody s__law_pick) (defScope s__law_pick) .none kV__law_pick dc__law_pick pm__law_pick an__law_pick cd__law_pick ct__law_pick), sl__law_pick⟩)
    (c__law_pick : PySem.W.codeIn K cd__law_pick "_law_pick" = true)
    (k__law_pick : PySem.W.keepIn K (.ref f__law_pick) = true)
    (a__law_marks : PySem.W.nsIn K mainGlobals "_law_marks" = some (some (.ref f__law_marks)))
    (l__law_marks : K.lookup f__law_marks = some ⟨oc__law_marks, od__law_marks, .func (PySem.W.fnOf "_law_marks" "_law_marks" (defArgs s__law_marks) (defBody s__law_marks) (defScope s__law_marks) .none kV__law_marks dc__law_marks pm__law_marks an__law_marks cd__law_marks ct__law_marks), sl__law_marks⟩)
    (c__law_marks : PySem.W.codeIn K cd__law_marks "_law_marks" = true)
    (k__law_marks : PySem.W.keepIn K (.ref f__law_marks) = true)
    (a__law_laws_of_sets : PySem.W.nsIn K mainGlobals "_law_laws_of_sets" = some (some (.ref f__law_laws_of_sets)))
    (l__law_laws_of_sets : K.lookup f__law_laws_of_sets = some ⟨oc__law_laws_of_sets, od__law_laws_of_sets, .func (PySem.W.fnOf "_law_laws_of_sets" "_law_laws_of_sets" (defArgs s__law_laws_of_sets) (defBody s__law_laws_of_sets) (defScope s__law_laws_of_sets) .none kV__law_laws_of_sets dc__law_laws_of_sets pm__law_laws_of_sets an__law_laws_of_sets cd__law_laws_of_sets ct__law_laws_of_sets), sl__law_laws_of_sets⟩)
    (c__law_laws_of_sets : PySem.W.codeIn K cd__law_laws_of_sets "_law_laws_of_sets" = true)
    (k__law_laws_of_sets : PySem.W.keepIn K (.ref f__law_laws_of_sets) = true)
    (a__law_right : PySem.W.nsIn K mainGlobals "_law_right" = some (some (.ref f__law_right)))
    (l__law_right : K.lookup f__law_right = some ⟨oc__law_right, od__law_right, .func (PySem.W.fnOf "_law_right" "_law_right" (defArgs s__law_right) (defBody s__law_right) (defScope s__law_right) .none kV__law_right dc__law_right pm__law_right an__law_right cd__law_right ct__law_right), sl__law_right⟩)
    (c__law_right : PySem.W.codeIn K cd__law_right "_law_right" = true)
    (k__law_right : PySem.W.keepIn K (.ref f__law_right) = true)
    (a_law : PySem.W.nsIn K mainGlobals "law" = some (some (.ref f_law)))
    (l_law : K.lookup f_law = some ⟨oc_law, od_law, .func (PySem.W.fnOf "law" "law" (defArgs s_law) (defBody s_law) (defScope s_law) .none kV_law dc_law pm_law an_law cd_law ct_law), sl_law⟩)
    (c_law : PySem.W.codeIn K cd_law "law" = true)
    (k_law : PySem.W.keepIn K (.ref f_law) = true)
    (z_len : PySem.W.nsIn K mainGlobals "len" = some none)
    (z_enumerate : PySem.W.nsIn K mainGlobals "enumerate" = some none)
    (z_set : PySem.W.nsIn K mainGlobals "set" = some none)
    (z_int : PySem.W.nsIn K mainGlobals "int" = some none)
    (z_isinstance : PySem.W.nsIn K mainGlobals "isinstance" = some none)
    (z_bool : PySem.W.nsIn K mainGlobals "bool" = some none)
    (z_list : PySem.W.nsIn K mainGlobals "list" = some none)
    (z_tuple : PySem.W.nsIn K mainGlobals "tuple" = some none)
    (z_range : PySem.W.nsIn K mainGlobals "range" = some none)
    (z_max : PySem.W.nsIn K mainGlobals "max" = some none)
    (z_sum : PySem.W.nsIn K mainGlobals "sum" = some none)
    (z_str : PySem.W.nsIn K mainGlobals "str" = some none)
    (z_min : PySem.W.nsIn K mainGlobals "min" = some none)
    (a_InvalidMachine : PySem.W.nsIn K mainGlobals "InvalidMachine" = some (some (.ref A_InvalidMachine)))
    (xL_InvalidMachine : K.lookup A_InvalidMachine = some (excClassObj nm_InvalidMachine q_InvalidMachine A_InvalidMachine N_InvalidMachine bs_InvalidMachine bm_InvalidMachine true sn_InvalidMachine sub_InvalidMachine ab_InvalidMachine col_InvalidMachine dd_InvalidMachine k0_InvalidMachine k1_InvalidMachine k2_InvalidMachine k3_InvalidMachine k5_InvalidMachine "ValueError.__new__"))
    (rf_InvalidMachine : PySem.HandSPX.refsVE bm_InvalidMachine = true)
    (sa_InvalidMachine : PySem.W.findIn K (.ref A_InvalidMachine) "__setattr__" = some (some (.builtin "object.__setattr__")))
    (ex_InvalidMachine : PySem.W.subIn K (.ref A_InvalidMachine) (.type "BaseException") = some true)
    (no_InvalidMachine : PySem.W.findIn K (.ref A_InvalidMachine) "value" = some none)
    (ty_InvalidMachine : PySem.W.typeIn K (.ref A_InvalidMachine) = some (.type "type"))
    (kp_InvalidMachine : PySem.W.keepIn K (.ref A_InvalidMachine) = true)
    (iC_InvalidMachine : PySem.W.findIn K (.ref A_InvalidMachine) "__init__" = some (some (.ref I_InvalidMachine)))
    (tI_InvalidMachine : PySem.W.typeIn K (.ref I_InvalidMachine) = some (.type "function"))
    (hm_InvalidMachine : PySem.W.ks_superIn K A_InvalidMachine A_InvalidMachine "__init__" = some (some (.builtin "ValueError.__init__")))
    (hB_InvalidMachine : PySem.W.subIn K (.ref A_InvalidMachine) (.type "ValueError") = some true)
    (hD_InvalidMachine : PySem.W.mroIn K A_InvalidMachine (.ref A_InvalidMachine) = some true)
    (l1_InvalidMachine : K.lookup I_InvalidMachine = some ⟨oc_InvalidMachine, od_InvalidMachine, .func (PySem.W.ksFn "__init__" "InvalidMachine.__init__" (defArgs i_InvalidMachine) (ixBody p_InvalidMachine) ixScope (.ref T_InvalidMachine) kV_InvalidMachine doc_InvalidMachine pm_InvalidMachine an_InvalidMachine (.ref cda_InvalidMachine) ct_InvalidMachine cc_InvalidMachine), osl_InvalidMachine⟩)
    (lT_InvalidMachine : K.lookup T_InvalidMachine = some ⟨tc_InvalidMachine, td_InvalidMachine, .seq [.none].toArray tn_InvalidMachine, ts_InvalidMachine⟩)
    (c1_InvalidMachine : PySem.W.codeIn K (.ref cda_InvalidMachine) "InvalidMachine.__init__" = true)
    (l2_InvalidMachine : K.lookup cda_InvalidMachine = some ⟨ccl_InvalidMachine, cdd_InvalidMachine, .fields vs_InvalidMachine, ccs_InvalidMachine⟩)
    (v2_InvalidMachine : vs_InvalidMachine[2]? = some (.str file_InvalidMachine tf_InvalidMachine))
    (fi_InvalidMachine : ((PySem.Challenge.pw_everypair_k29_whole_set_algebra.main.file : Str) == file_InvalidMachine) = true)
    (l3_InvalidMachine : K.lookup cc_InvalidMachine = some ⟨cl_InvalidMachine, cld_InvalidMachine, .cell (some (.ref A_InvalidMachine)), csl_InvalidMachine⟩)
    (a_InvalidSet : PySem.W.nsIn K mainGlobals "InvalidSet" = some (some (.ref A_InvalidSet)))
    (xL_InvalidSet : K.lookup A_InvalidSet = some (excClassObj nm_InvalidSet q_InvalidSet A_InvalidSet N_InvalidSet bs_InvalidSet bm_InvalidSet true sn_InvalidSet sub_InvalidSet ab_InvalidSet col_InvalidSet dd_InvalidSet k0_InvalidSet k1_InvalidSet k2_InvalidSet k3_InvalidSet k5_InvalidSet "ValueError.__new__"))
    (rf_InvalidSet : PySem.HandSPX.refsVE bm_InvalidSet = true)
    (sa_InvalidSet : PySem.W.findIn K (.ref A_InvalidSet) "__setattr__" = some (some (.builtin "object.__setattr__")))
    (ex_InvalidSet : PySem.W.subIn K (.ref A_InvalidSet) (.type "BaseException") = some true)
    (no_InvalidSet : PySem.W.findIn K (.ref A_InvalidSet) "value" = some none)
    (ty_InvalidSet : PySem.W.typeIn K (.ref A_InvalidSet) = some (.type "type"))
    (kp_InvalidSet : PySem.W.keepIn K (.ref A_InvalidSet) = true)
    (iC_InvalidSet : PySem.W.findIn K (.ref A_InvalidSet) "__init__" = some (some (.ref I_InvalidSet)))
    (tI_InvalidSet : PySem.W.typeIn K (.ref I_InvalidSet) = some (.type "function"))
    (hm_InvalidSet : PySem.W.ks_superIn K A_InvalidSet A_InvalidSet "__init__" = some (some (.builtin "ValueError.__init__")))
    (hB_InvalidSet : PySem.W.subIn K (.ref A_InvalidSet) (.type "ValueError") = some true)
    (hD_InvalidSet : PySem.W.mroIn K A_InvalidSet (.ref A_InvalidSet) = some true)
    (l1_InvalidSet : K.lookup I_InvalidSet = some ⟨oc_InvalidSet, od_InvalidSet, .func (PySem.W.ksFn "__init__" "InvalidSet.__init__" (defArgs i_InvalidSet) (ixBody p_InvalidSet) ixScope (.ref T_InvalidSet) kV_InvalidSet doc_InvalidSet pm_InvalidSet an_InvalidSet (.ref cda_InvalidSet) ct_InvalidSet cc_InvalidSet), osl_InvalidSet⟩)
    (lT_InvalidSet : K.lookup T_InvalidSet = some ⟨tc_InvalidSet, td_InvalidSet, .seq [.none].toArray tn_InvalidSet, ts_InvalidSet⟩)
    (c1_InvalidSet : PySem.W.codeIn K (.ref cda_InvalidSet) "InvalidSet.__init__" = true)
    (l2_InvalidSet : K.lookup cda_InvalidSet = some ⟨ccl_InvalidSet, cdd_InvalidSet, .fields vs_InvalidSet, ccs_InvalidSet⟩)
    (v2_InvalidSet : vs_InvalidSet[2]? = some (.str file_InvalidSet tf_InvalidSet))
    (fi_InvalidSet : ((PySem.Challenge.pw_everypair_k29_whole_set_algebra.main.file : Str) == file_InvalidSet) = true)
    (l3_InvalidSet : K.lookup cc_InvalidSet = some ⟨cl_InvalidSet, cld_InvalidSet, .cell (some (.ref A_InvalidSet)), csl_InvalidSet⟩)
    (a_InvalidNumber : PySem.W.nsIn K mainGlobals "InvalidNumber" = some (some (.ref A_InvalidNumber)))
    (xL_InvalidNumber : K.lookup A_InvalidNumber = some (excClassObj nm_InvalidNumber q_InvalidNumber A_InvalidNumber N_InvalidNumber bs_InvalidNumber bm_InvalidNumber true sn_InvalidNumber sub_InvalidNumber ab_InvalidNumber col_InvalidNumber dd_InvalidNumber k0_InvalidNumber k1_InvalidNumber k2_InvalidNumber k3_InvalidNumber k5_InvalidNumber "ValueError.__new__"))
    (rf_InvalidNumber : PySem.HandSPX.refsVE bm_InvalidNumber = true)
    (sa_InvalidNumber : PySem.W.findIn K (.ref A_InvalidNumber) "__setattr__" = some (some (.builtin "object.__setattr__")))
    (ex_InvalidNumber : PySem.W.subIn K (.ref A_InvalidNumber) (.type "BaseException") = some true)
    (no_InvalidNumber : PySem.W.findIn K (.ref A_InvalidNumber) "value" = some none)
    (ty_InvalidNumber : PySem.W.typeIn K (.ref A_InvalidNumber) = some (.type "type"))
    (kp_InvalidNumber : PySem.W.keepIn K (.ref A_InvalidNumber) = true)
    (iC_InvalidNumber : PySem.W.findIn K (.ref A_InvalidNumber) "__init__" = some (some (.ref I_InvalidNumber)))
    (tI_InvalidNumber : PySem.W.typeIn K (.ref I_InvalidNumber) = some (.type "function"))
    (hm_InvalidNumber : PySem.W.ks_superIn K A_InvalidNumber A_InvalidNumber "__init__" = some (some (.builtin "ValueError.__init__")))
    (hB_InvalidNumber : PySem.W.subIn K (.ref A_InvalidNumber) (.type "ValueError") = some true)
    (hD_InvalidNumber : PySem.W.mroIn K A_InvalidNumber (.ref A_InvalidNumber) = some true)
    (l1_InvalidNumber : K.lookup I_InvalidNumber = some ⟨oc_InvalidNumber, od_InvalidNumber, .func (PySem.W.ksFn "__init__" "InvalidNumber.__init__" (defArgs i_InvalidNumber) (ixBody p_InvalidNumber) ixScope (.ref T_InvalidNumber) kV_InvalidNumber doc_InvalidNumber pm_InvalidNumber an_InvalidNumber (.ref cda_InvalidNumber) ct_InvalidNumber cc_InvalidNumber), osl_InvalidNumber⟩)
    (lT_InvalidNumber : K.lookup T_InvalidNumber = some ⟨tc_InvalidNumber, td_InvalidNumber, .seq [.none].toArray tn_InvalidNumber, ts_InvalidNumber⟩)
    (c1_InvalidNumber : PySem.W.codeIn K (.ref cda_InvalidNumber) "InvalidNumber.__init__" = true)
    (l2_InvalidNumber : K.lookup cda_InvalidNumber = some ⟨ccl_InvalidNumber, cdd_InvalidNumber, .fields vs_InvalidNumber, ccs_InvalidNumber⟩)
    (v2_InvalidNumber : vs_InvalidNumber[2]? = some (.str file_InvalidNumber tf_InvalidNumber))
    (fi_InvalidNumber : ((PySem.Challenge.pw_everypair_k29_whole_set_algebra.main.file : Str) == file_InvalidNumber) = true)
    (l3_InvalidNumber : K.lookup cc_InvalidNumber = some ⟨cl_InvalidNumber, cld_InvalidNumber, .cell (some (.ref A_InvalidNumber)), csl_InvalidNumber⟩)
    (a_InvalidMarks : PySem.W.nsIn K mainGlobals "InvalidMarks" = some (some (.ref A_InvalidMarks)))
    (xL_InvalidMarks : K.lookup A_InvalidMarks = some (excClassObj nm_InvalidMarks q_InvalidMarks A_InvalidMarks N_InvalidMarks bs_InvalidMarks bm_InvalidMarks true sn_InvalidMarks sub_InvalidMarks ab_InvalidMarks col_InvalidMarks dd_InvalidMarks k0_InvalidMarks k1_InvalidMarks k2_InvalidMarks k3_InvalidMarks k5_InvalidMarks "ValueError.__new__"))
    (rf_InvalidMarks : PySem.HandSPX.refsVE bm_InvalidMarks = true)
    (sa_InvalidMarks : PySem.W.findIn K (.ref A_InvalidMarks) "__setattr__" = some (some (.builtin "object.__setattr__")))
    (ex_InvalidMarks : PySem.W.subIn K (.ref A_InvalidMarks) (.type "BaseException") = some true)
    (no_InvalidMarks : PySem.W.findIn K (.ref A_InvalidMarks) "value" = some none)
    (ty_InvalidMarks : PySem.W.typeIn K (.ref A_InvalidMarks) = some (.type "type"))
    (kp_InvalidMarks : PySem.W.keepIn K (.ref A_InvalidMarks) = true)
    (iC_InvalidMarks : PySem.W.findIn K (.ref A_InvalidMarks) "__init__" = some (some (.ref I_InvalidMarks)))
    (tI_InvalidMarks : PySem.W.typeIn K (.ref I_InvalidMarks) = some (.type "function"))
    (hm_InvalidMarks : PySem.W.ks_superIn K A_InvalidMarks A_InvalidMarks "__init__" = some (some (.builtin "ValueError.__init__")))
    (hB_InvalidMarks : PySem.W.subIn K (.ref A_InvalidMarks) (.type "ValueError") = some true)
    (hD_InvalidMarks : PySem.W.mroIn K A_InvalidMarks (.ref A_InvalidMarks) = some true)
    (l1_InvalidMarks : K.lookup I_InvalidMarks = some ⟨oc_InvalidMarks, od_InvalidMarks, .func (PySem.W.ksFn "__init__" "InvalidMarks.__init__" (defArgs i_InvalidMarks) (ixBody p_InvalidMarks) ixScope (.ref T_InvalidMarks) kV_InvalidMarks doc_InvalidMarks pm_InvalidMarks an_InvalidMarks (.ref cda_InvalidMarks) ct_InvalidMarks cc_InvalidMarks), osl_InvalidMarks⟩)
    (lT_InvalidMarks : K.lookup T_InvalidMarks = some ⟨tc_InvalidMarks, td_InvalidMarks, .seq [.none].toArray tn_InvalidMarks, ts_InvalidMarks⟩)
    (c1_InvalidMarks : PySem.W.codeIn K (.ref cda_InvalidMarks) "InvalidMarks.__init__" = true)
    (l2_InvalidMarks : K.lookup cda_InvalidMarks = some ⟨ccl_InvalidMarks, cdd_InvalidMarks, .fields vs_InvalidMarks, ccs_InvalidMarks⟩)
    (v2_InvalidMarks : vs_InvalidMarks[2]? = some (.str file_InvalidMarks tf_InvalidMarks))
    (fi_InvalidMarks : ((PySem.Challenge.pw_everypair_k29_whole_set_algebra.main.file : Str) == file_InvalidMarks) = true)
    (l3_InvalidMarks : K.lookup cc_InvalidMarks = some ⟨cl_InvalidMarks, cld_InvalidMarks, .cell (some (.ref A_InvalidMarks)), csl_InvalidMarks⟩)
    (a_MARKS : PySem.W.nsIn K mainGlobals "MARKS" = some (some (.ref A_MARKS)))
    (l_MARKS : K.lookup A_MARKS = some ⟨.type "tuple", od_MARKS, .seq [.str "c" t0_MARKS, .str "h" t1_MARKS, .str "b" t2_MARKS].toArray nn_MARKS, sl_MARKS⟩)
    (a_PairSet : PySem.W.nsIn K mainGlobals "PairSet" = some (some (.ref A_PairSet)))
    (pg_PairSet : PySem.W.plainGet K A_PairSet Str.empty = true)
    (hd_PairSet : PySem.W.hasDictIn K A_PairSet = true)
    (po_PairSet : PySem.W.plainOver K A_PairSet = true)
    (sa_PairSet : PySem.W.findIn K (.ref A_PairSet) "__setattr__" = some (some (.builtin "object.__setattr__")))
    (na_PairSet_machine : PySem.W.findIn K (.ref A_PairSet) "machine" = some none)
    (ha_PairSet : PySem.W.findIn K (.ref A_PairSet) "__class__" = some (some (.builtin "object.__class__")))
    (mo_PairSet : PySem.W.mroIn K A_PairSet (.type "object") = some true)
    (nk_PairSet : NoKit K A_PairSet)
    (nf_PairSet : NoFirst K A_PairSet)
    (nl_PairSet : K.lookup A_PairSet = some (excClassObj nm_PairSet q_PairSet A_PairSet N_PairSet bs_PairSet [.type "object"] true sn_PairSet sub_PairSet ab_PairSet col_PairSet dd_PairSet k0_PairSet k1_PairSet k2_PairSet k3_PairSet k5_PairSet nw_PairSet))
    (nn_PairSet : PySem.W.nsOkIn K N_PairSet = true)
    (ne_PairSet : PySem.W.nsIn K N_PairSet "__eq__" = some (some (.ref fe_PairSet)))
    (nx_PairSet : PySem.W.nsIn K N_PairSet "__ne__" = some none)
    (nf1_PairSet : PySem.W.findIn K (.ref A_PairSet) "__eq__" = some (some (.ref fe_PairSet)))
    (nf2_PairSet : K.lookup fe_PairSet = some oe_PairSet)
    (nf3_PairSet : oe_PairSet.cls = .type "function")
    (at_PairSet___le__ : PySem.W.findIn K (.ref A_PairSet) "__le__" = some (some (.ref f_PairSet___le__)))
    (fn_PairSet___le__ : PySem.W.isFn K (.ref f_PairSet___le__) = true)
    (l_PairSet___le__ : K.lookup f_PairSet___le__ = some ⟨oc_PairSet___le__, od_PairSet___le__, .func (PySem.W.fnOf "__le__" "PairSet.__le__" (defArgs s_PairSet___le__) (defBody s_PairSet___le__) (defScope s_PairSet___le__) .none kV_PairSet___le__ dc_PairSet___le__ pm_PairSet___le__ an_PairSet___le__ cd_PairSet___le__ ct_PairSet___le__), sl_PairSet___le__⟩)
    (c_PairSet___le__ : PySem.W.codeIn K cd_PairSet___le__ "PairSet.__le__" = true)
    (k_PairSet___le__ : PySem.W.keepIn K (.ref f_PairSet___le__) = true)
    (at_PairSet___ge__ : PySem.W.findIn K (.ref A_PairSet) "__ge__" = some (some (.ref f_PairSet___ge__)))
    (fn_PairSet___ge__ : PySem.W.isFn K (.ref f_PairSet___ge__) = true)
    (l_PairSet___ge__ : K.lookup f_PairSet___ge__ = some ⟨oc_PairSet___ge__, od_PairSet___ge__, .func (PySem.W.fnOf "__ge__" "PairSet.__ge__" (defArgs s_PairSet___ge__) (defBody s_PairSet___ge__) (defScope s_PairSet___ge__) .none kV_PairSet___ge__ dc_PairSet___ge__ pm_PairSet___ge__ an_PairSet___ge__ cd_PairSet___ge__ ct_PairSet___ge__), sl_PairSet___ge__⟩)
    (c_PairSet___ge__ : PySem.W.codeIn K cd_PairSet___ge__ "PairSet.__ge__" = true)
    (k_PairSet___ge__ : PySem.W.keepIn K (.ref f_PairSet___ge__) = true)
    (at_PairSet___lt__ : PySem.W.findIn K (.ref A_PairSet) "__lt__" = some (some (.ref f_PairSet___lt__)))
    (fn_PairSet___lt__ : PySem.W.isFn K (.ref f_PairSet___lt__) = true)
    (l_PairSet___lt__ : K.lookup f_PairSet___lt__ = some ⟨oc_PairSet___lt__, od_PairSet___lt__, .func (PySem.W.fnOf "__lt__" "PairSet.__lt__" (defArgs s_PairSet___lt__) (defBody s_PairSet___lt__) (defScope s_PairSet___lt__) .none kV_PairSet___lt__ dc_PairSet___lt__ pm_PairSet___lt__ an_PairSet___lt__ cd_PairSet___lt__ ct_PairSet___lt__), sl_PairSet___lt__⟩)
    (c_PairSet___lt__ : PySem.W.codeIn K cd_PairSet___lt__ "PairSet.__lt__" = true)
    (k_PairSet___lt__ : PySem.W.keepIn K (.ref f_PairSet___lt__) = true)
    (at_PairSet___gt__ : PySem.W.findIn K (.ref A_PairSet) "__gt__" = some (some (.ref f_PairSet___gt__)))
    (fn_PairSet___gt__ : PySem.W.isFn K (.ref f_PairSet___gt__) = true)
    (l_PairSet___gt__ : K.lookup f_PairSet___gt__ = some ⟨oc_PairSet___gt__, od_PairSet___gt__, .func (PySem.W.fnOf "__gt__" "PairSet.__gt__" (defArgs s_PairSet___gt__) (defBody s_PairSet___gt__) (defScope s_PairSet___gt__) .none kV_PairSet___gt__ dc_PairSet___gt__ pm_PairSet___gt__ an_PairSet___gt__ cd_PairSet___gt__ ct_PairSet___gt__), sl_PairSet___gt__⟩)
    (c_PairSet___gt__ : PySem.W.codeIn K cd_PairSet___gt__ "PairSet.__gt__" = true)
    (k_PairSet___gt__ : PySem.W.keepIn K (.ref f_PairSet___gt__) = true)
    (at_PairSet___eq__ : PySem.W.findIn K (.ref A_PairSet) "__eq__" = some (some (.ref f_PairSet___eq__)))
    (fn_PairSet___eq__ : PySem.W.isFn K (.ref f_PairSet___eq__) = true)
    (l_PairSet___eq__ : K.lookup f_PairSet___eq__ = some ⟨oc_PairSet___eq__, od_PairSet___eq__, .func (PySem.W.fnOf "__eq__" "PairSet.__eq__" (defArgs s_PairSet___eq__) (defBody s_PairSet___eq__) (defScope s_PairSet___eq__) .none kV_PairSet___eq__ dc_PairSet___eq__ pm_PairSet___eq__ an_PairSet___eq__ cd_PairSet___eq__ ct_PairSet___eq__), sl_PairSet___eq__⟩)
    (c_PairSet___eq__ : PySem.W.codeIn K cd_PairSet___eq__ "PairSet.__eq__" = true)
    (k_PairSet___eq__ : PySem.W.keepIn K (.ref f_PairSet___eq__) = true)
    (at_PairSet___bool__ : PySem.W.findIn K (.ref A_PairSet) "__bool__" = some (some (.ref f_PairSet___bool__)))
    (fn_PairSet___bool__ : PySem.W.isFn K (.ref f_PairSet___bool__) = true)
    (l_PairSet___bool__ : K.lookup f_PairSet___bool__ = some ⟨oc_PairSet___bool__, od_PairSet___bool__, .func (PySem.W.fnOf "__bool__" "PairSet.__bool__" (defArgs s_PairSet___bool__) (defBody s_PairSet___bool__) (defScope s_PairSet___bool__) .none kV_PairSet___bool__ dc_PairSet___bool__ pm_PairSet___bool__ an_PairSet___bool__ cd_PairSet___bool__ ct_PairSet___bool__), sl_PairSet___bool__⟩)
    (c_PairSet___bool__ : PySem.W.codeIn K cd_PairSet___bool__ "PairSet.__bool__" = true)
    (k_PairSet___bool__ : PySem.W.keepIn K (.ref f_PairSet___bool__) = true)
    (at_PairSet___and__ : PySem.W.findIn K (.ref A_PairSet) "__and__" = some (some (.ref f_PairSet___and__)))
    (fn_PairSet___and__ : PySem.W.isFn K (.ref f_PairSet___and__) = true)
    (l_PairSet___and__ : K.lookup f_PairSet___and__ = some ⟨oc_PairSet___and__, od_PairSet___and__, .func (PySem.W.fnOf "__and__" "PairSet.__and__" (defArgs s_PairSet___and__) (defBody s_PairSet___and__) (defScope s_PairSet___and__) .none kV_PairSet___and__ dc_PairSet___and__ pm_PairSet___and__ an_PairSet___and__ cd_PairSet___and__ ct_PairSet___and__), sl_PairSet___and__⟩)
    (c_PairSet___and__ : PySem.W.codeIn K cd_PairSet___and__ "PairSet.__and__" = true)
    (k_PairSet___and__ : PySem.W.keepIn K (.ref f_PairSet___and__) = true)
    (at_PairSet___or__ : PySem.W.findIn K (.ref A_PairSet) "__or__" = some (some (.ref f_PairSet___or__)))
    (fn_PairSet___or__ : PySem.W.isFn K (.ref f_PairSet___or__) = true)
    (l_PairSet___or__ : K.lookup f_PairSet___or__ = some ⟨oc_PairSet___or__, od_PairSet___or__, .func (PySem.W.fnOf "__or__" "PairSet.__or__" (defArgs s_PairSet___or__) (defBody s_PairSet___or__) (defScope s_PairSet___or__) .none kV_PairSet___or__ dc_PairSet___or__ pm_PairSet___or__ an_PairSet___or__ cd_PairSet___or__ ct_PairSet___or__), sl_PairSet___or__⟩)
    (c_PairSet___or__ : PySem.W.codeIn K cd_PairSet___or__ "PairSet.__or__" = true)
    (k_PairSet___or__ : PySem.W.keepIn K (.ref f_PairSet___or__) = true)
    (at_PairSet___sub__ : PySem.W.findIn K (.ref A_PairSet) "__sub__" = some (some (.ref f_PairSet___sub__)))
    (fn_PairSet___sub__ : PySem.W.isFn K (.ref f_PairSet___sub__) = true)
    (l_PairSet___sub__ : K.lookup f_PairSet___sub__ = some ⟨oc_PairSet___sub__, od_PairSet___sub__, .func (PySem.W.fnOf "__sub__" "PairSet.__sub__" (defArgs s_PairSet___sub__) (defBody s_PairSet___sub__) (defScope s_PairSet___sub__) .none kV_PairSet___sub__ dc_PairSet___sub__ pm_PairSet___sub__ an_PairSet___sub__ cd_PairSet___sub__ ct_PairSet___sub__), sl_PairSet___sub__⟩)
    (c_PairSet___sub__ : PySem.W.codeIn K cd_PairSet___sub__ "PairSet.__sub__" = true)
    (k_PairSet___sub__ : PySem.W.keepIn K (.ref f_PairSet___sub__) = true)
    (at_PairSet___xor__ : PySem.W.findIn K (.ref A_PairSet) "__xor__" = some (some (.ref f_PairSet___xor__)))
    (fn_PairSet___xor__ : PySem.W.isFn K (.ref f_PairSet___xor__) = true)
    (l_PairSet___xor__ : K.lookup f_PairSet___xor__ = some ⟨oc_PairSet___xor__, od_PairSet___xor__, .func (PySem.W.fnOf "__xor__" "PairSet.__xor__" (defArgs s_PairSet___xor__) (defBody s_PairSet___xor__) (defScope s_PairSet___xor__) .none kV_PairSet___xor__ dc_PairSet___xor__ pm_PairSet___xor__ an_PairSet___xor__ cd_PairSet___xor__ ct_PairSet___xor__), sl_PairSet___xor__⟩)
    (c_PairSet___xor__ : PySem.W.codeIn K cd_PairSet___xor__ "PairSet.__xor__" = true)
    (k_PairSet___xor__ : PySem.W.keepIn K (.ref f_PairSet___xor__) = true)
    (at_PairSet___invert__ : PySem.W.findIn K (.ref A_PairSet) "__invert__" = some (some (.ref f_PairSet___invert__)))
    (fn_PairSet___invert__ : PySem.W.isFn K (.ref f_PairSet___invert__) = true)
    (l_PairSet___invert__ : K.lookup f_PairSet___invert__ = some ⟨oc_PairSet___invert__, od_PairSet___invert__, .func (PySem.W.fnOf "__invert__" "PairSet.__invert__" (defArgs s_PairSet___invert__) (defBody s_PairSet___invert__) (defScope s_PairSet___invert__) .none kV_PairSet___invert__ dc_PairSet___invert__ pm_PairSet___invert__ an_PairSet___invert__ cd_PairSet___invert__ ct_PairSet___invert__), sl_PairSet___invert__⟩)
    (c_PairSet___invert__ : PySem.W.codeIn K cd_PairSet___invert__ "PairSet.__invert__" = true)
    (k_PairSet___invert__ : PySem.W.keepIn K (.ref f_PairSet___invert__) = true)
    (at_PairSet_count : PySem.W.findIn K (.ref A_PairSet) "count" = some (some (.ref f_PairSet_count)))
    (fn_PairSet_count : PySem.W.isFn K (.ref f_PairSet_count) = true)
    (l_PairSet_count : K.lookup f_PairSet_count = some ⟨oc_PairSet_count, od_PairSet_count, .func (PySem.W.fnOf "count" "PairSet.count" (defArgs s_PairSet_count) (defBody s_PairSet_count) (defScope s_PairSet_count) .none kV_PairSet_count dc_PairSet_count pm_PairSet_count an_PairSet_count cd_PairSet_count ct_PairSet_count), sl_PairSet_count⟩)
    (c_PairSet_count : PySem.W.codeIn K cd_PairSet_count "PairSet.count" = true)
    (k_PairSet_count : PySem.W.keepIn K (.ref f_PairSet_count) = true)
    (at_PairSet_has : PySem.W.findIn K (.ref A_PairSet) "has" = some (some (.ref f_PairSet_has)))
    (fn_PairSet_has : PySem.W.isFn K (.ref f_PairSet_has) = true)
    (l_PairSet_has : K.lookup f_PairSet_has = some ⟨oc_PairSet_has, od_PairSet_has, .func (PySem.W.fnOf "has" "PairSet.has" (defArgs s_PairSet_has) (defBody s_PairSet_has) (defScope s_PairSet_has) .none kV_PairSet_has dc_PairSet_has pm_PairSet_has an_PairSet_has cd_PairSet_has ct_PairSet_has), sl_PairSet_has⟩)
    (c_PairSet_has : PySem.W.codeIn K cd_PairSet_has "PairSet.has" = true)
    (k_PairSet_has : PySem.W.keepIn K (.ref f_PairSet_has) = true)
    (rr_PairSet_every : PySem.W.readsIn K A_PairSet (.type "type") = true)
    (gg_PairSet_every : PySem.W.specialIn K (.ref A_PairSet) "__getattribute__" = some (some (.builtin "type.__getattribute__")))
    (at_PairSet_every : PySem.W.findCls K (.ref A_PairSet) (.type "type") "every" = some (.get (.builtin "staticmethod.__get__") (.ref p_PairSet_every) .none (.ref A_PairSet)))
    (re_PairSet_every : PySem.W.recIn K p_PairSet_every "staticmethod" = some (.ref f_PairSet_every :: r_PairSet_every))
    (l_PairSet_every : K.lookup f_PairSet_every = some ⟨oc_PairSet_every, od_PairSet_every, .func (PySem.W.fnOf "every" "PairSet.every" (defArgs s_PairSet_every) (defBody s_PairSet_every) (defScope s_PairSet_every) .none kV_PairSet_every dc_PairSet_every pm_PairSet_every an_PairSet_every cd_PairSet_every ct_PairSet_every), sl_PairSet_every⟩)
    (c_PairSet_every : PySem.W.codeIn K cd_PairSet_every "PairSet.every" = true)
    (k_PairSet_every : PySem.W.keepIn K (.ref f_PairSet_every) = true)
    (rr_PairSet_common : PySem.W.readsIn K A_PairSet (.type "type") = true)
    (gg_PairSet_common : PySem.W.specialIn K (.ref A_PairSet) "__getattribute__" = some (some (.builtin "type.__getattribute__")))
    (at_PairSet_common : PySem.W.findCls K (.ref A_PairSet) (.type "type") "common" = some (.get (.builtin "staticmethod.__get__") (.ref p_PairSet_common) .none (.ref A_PairSet)))
    (re_PairSet_common : PySem.W.recIn K p_PairSet_common "staticmethod" = some (.ref f_PairSet_common :: r_PairSet_common))
    (l_PairSet_common : K.lookup f_PairSet_common = some ⟨oc_PairSet_common, od_PairSet_common, .func (PySem.W.fnOf "common" "PairSet.common" (defArgs s_PairSet_common) (defBody s_PairSet_common) (defScope s_PairSet_common) .none kV_PairSet_common dc_PairSet_common pm_PairSet_common an_PairSet_common cd_PairSet_common ct_PairSet_common), sl_PairSet_common⟩)
    (c_PairSet_common : PySem.W.codeIn K cd_PairSet_common "PairSet.common" = true)
    (k_PairSet_common : PySem.W.keepIn K (.ref f_PairSet_common) = true)
    (mk_PairSet : PySem.W.makesIn K A_PairSet = true)
    (in_PairSet : PySem.W.findIn K (.ref A_PairSet) "__init__" = some (some (.ref f_PairSet___init__)))
    (fn_PairSet___init__ : PySem.W.isFn K (.ref f_PairSet___init__) = true)
    (kc_PairSet : PySem.W.keepIn K (.ref A_PairSet) = true)
    (l_PairSet___init__ : K.lookup f_PairSet___init__ = some ⟨oc_PairSet___init__, od_PairSet___init__, .func (PySem.W.fnOf "__init__" "PairSet.__init__" (defArgs s_PairSet___init__) (defBody s_PairSet___init__) (defScope s_PairSet___init__) dV_PairSet___init__ kV_PairSet___init__ dc_PairSet___init__ pm_PairSet___init__ an_PairSet___init__ cd_PairSet___init__ ct_PairSet___init__), sl_PairSet___init__⟩)
    (c_PairSet___init__ : PySem.W.codeIn K cd_PairSet___init__ "PairSet.__init__" = true)
    (k_PairSet___init__ : PySem.W.keepIn K (.ref f_PairSet___init__) = true)
    (T0_PairSet___init__ : dV_PairSet___init__ = .none)
    (sf_PairSet : PySem.W.selfFirst K A_PairSet = true)
    (rv_PairSet_and : PySem.W.findIn K (.ref A_PairSet) (dunderR "and") = some none)
    (ty_PairSet_and : (tyNames.all fun t => (PySem.W.findIn K (.type t) (PySem.dunder "and")).isSome && (PySem.W.findIn K (.type t) (dunderR "and")).isSome && PySem.W.subIn K (.type t) (.ref A_PairSet) == some false) = true)
    (rv_PairSet_or : PySem.W.findIn K (.ref A_PairSet) (dunderR "or") = some none)
    (ty_PairSet_or : (tyNames.all fun t => (PySem.W.findIn K (.type t) (PySem.dunder "or")).isSome && (PySem.W.findIn K (.type t) (dunderR "or")).isSome && PySem.W.subIn K (.type t) (.ref A_PairSet) == some false) = true)
    (rv_PairSet_sub : PySem.W.findIn K (.ref A_PairSet) (dunderR "sub") = some none)
    (ty_PairSet_sub : (tyNames.all fun t => (PySem.W.findIn K (.type t) (PySem.dunder "sub")).isSome && (PySem.W.findIn K (.type t) (dunderR "sub")).isSome && PySem.W.subIn K (.type t) (.ref A_PairSet) == some false) = true)
    (rv_PairSet_xor : PySem.W.findIn K (.ref A_PairSet) (dunderR "xor") = some none)
    (ty_PairSet_xor : (tyNames.all fun t => (PySem.W.findIn K (.type t) (PySem.dunder "xor")).isSome && (PySem.W.findIn K (.type t) (dunderR "xor")).isSome && PySem.W.subIn K (.type t) (.ref A_PairSet) == some false) = true)
    (base : Heap) : Cal PySem.Challenge.pw_everypair_k29_whole_set_algebra w K mg base "law" 11 ["_law_script"] spd_law := by
  have d_first_met : DefAt K mg "first_met" s_first_met := defAt_of X G a_first_met l_first_met c_first_met k_first_met
  have d_renumbered : DefAt K mg "renumbered" s_renumbered := defAt_of X G a_renumbered l_renumbered c_renumbered k_renumbered
  have d_grouped : DefAt K mg "grouped" s_grouped := defAt_of X G a_grouped l_grouped c_grouped k_grouped
  have d_least_machine : DefAt K mg "least_machine" s_least_machine := defAt_of X G a_least_machine l_least_machine c_least_machine k_least_machine
  have d_is_whole : DefAt K mg "is_whole" s_is_whole := defAt_of X G a_is_whole l_is_whole c_is_whole k_is_whole
  have d_is_state : DefAt K mg "is_state" s_is_state := defAt_of X G a_is_state l_is_state c_is_state k_is_state
  have d_is_machine : DefAt K mg "is_machine" s_is_machine := defAt_of X G a_is_machine l_is_machine c_is_machine k_is_machine
  have d__law_draw : DefAt K mg "_law_draw" s__law_draw := defAt_of X G a__law_draw l__law_draw c__law_draw k__law_draw
  have d__law_purse : DefAt K mg "_law_purse" s__law_purse := defAt_of X G a__law_purse l__law_purse c__law_purse k__law_purse
  have d__law_table : DefAt K mg "_law_table" s__law_table := defAt_of X G a__law_table l__law_table c__law_table k__law_table
  have d__law_joined : DefAt K mg "_law_joined" s__law_joined := defAt_of X G a__law_joined l__law_joined c__law_joined k__law_joined
  have d__law_set : DefAt K mg "_law_set" s__law_set := defAt_of X G a__law_set l__law_set c__law_set k__law_set
  have d_product : DefAt K mg "product" s_product := defAt_of X G a_product l_product c_product k_product
  have d_is_within : DefAt K mg "is_within" s_is_within := defAt_of X G a_is_within l_is_within c_is_within k_is_within
  have d_is_over : DefAt K mg "is_over" s_is_over := defAt_of X G a_is_over l_is_over c_is_over k_is_over
  have d_made_of : DefAt K mg "made_of" s_made_of := defAt_of X G a_made_of l_made_of c_made_of k_made_of
  have d_combined : DefAt K mg "combined" s_combined := defAt_of X G a_combined l_combined c_combined k_combined
  have d_count_words : DefAt K mg "count_words" s_count_words := defAt_of X G a_count_words l_count_words c_count_words k_count_words
  have d_state_from : DefAt K mg "state_from" s_state_from := defAt_of X G a_state_from l_state_from c_state_from k_state_from
  have d_state_after : DefAt K mg "state_after" s_state_after := defAt_of X G a_state_after l_state_after c_state_after k_state_after
  have d__law_read : DefAt K mg "_law_read" s__law_read := defAt_of X G a__law_read l__law_read c__law_read k__law_read
  have d_is_marks : DefAt K mg "is_marks" s_is_marks := defAt_of X G a_is_marks l_is_marks c_is_marks k_is_marks
  have d_check_marks : DefAt K mg "check_marks" s_check_marks := defAt_of X G a_check_marks l_check_marks c_check_marks k_check_marks
  have d__law_pick : DefAt K mg "_law_pick" s__law_pick := defAt_of X G a__law_pick l__law_pick c__law_pick k__law_pick
  have d__law_marks : DefAt K mg "_law_marks" s__law_marks := defAt_of X G a__law_marks l__law_marks c__law_marks k__law_marks
  have d__law_laws_of_sets : DefAt K mg "_law_laws_of_sets" s__law_laws_of_sets := defAt_of X G a__law_laws_of_sets l__law_laws_of_sets c__law_laws_of_sets k__law_laws_of_sets
  have d__law_right : DefAt K mg "_law_right" s__law_right := defAt_of X G a__law_right l__law_right c__law_right k__law_right
  have d_law : DefAt K mg "law" s_law := defAt_of X G a_law l_law c_law k_law
  have m_len := PySem.W.mg_none_of X G z_len
  have m_enumerate := PySem.W.mg_none_of X G z_enumerate
  have m_set := PySem.W.mg_none_of X G z_set
  have m_int := PySem.W.mg_none_of X G z_int
  have m_isinstance := PySem.W.mg_none_of X G z_isinstance
  have m_bool := PySem.W.mg_none_of X G z_bool
  have m_list := PySem.W.mg_none_of X G z_list
  have m_tuple := PySem.W.mg_none_of X G z_tuple
  have m_range := PySem.W.mg_none_of X G z_range
  have m_max := PySem.W.mg_none_of X G z_max
  have m_sum := PySem.W.mg_none_of X G z_sum
  have m_str := PySem.W.mg_none_of X G z_str
  have m_min := PySem.W.mg_none_of X G z_min
  have m_InvalidMachine := PySem.W.mg_of X G a_InvalidMachine
  have o_InvalidMachine : OwnX PySem.Challenge.pw_everypair_k29_whole_set_algebra K A_InvalidMachine I_InvalidMachine := ⟨⟨⟨_, _, _, _, _, _, _, _, _, _, _, _, _, _, _, xL_InvalidMachine, rf_InvalidMachine⟩, sa_InvalidMachine, ex_InvalidMachine, ty_InvalidMachine, kp_InvalidMachine⟩, iC_InvalidMachine, tI_InvalidMachine, no_InvalidMachine, zsup, zopq, hm_InvalidMachine, hB_InvalidMachine, hD_InvalidMachine, by decide +kernel, _, _, _, _, _, _, _, _, _, _, _, _, _, _, _, _, _, _, _, _, _, _, _, _, _, l1_InvalidMachine, c1_InvalidMachine, l2_InvalidMachine, v2_InvalidMachine, fi_InvalidMachine, l3_InvalidMachine, rfl, rfl, own_binds lT_InvalidMachine rfl (fun _ _ => ⟨_, rfl, rfl⟩), fun _ => rfl⟩
  have m_InvalidSet := PySem.W.mg_of X G a_InvalidSet
  have o_InvalidSet : OwnX PySem.Challenge.pw_everypair_k29_whole_set_algebra K A_InvalidSet I_InvalidSet := ⟨⟨⟨_, _, _, _, _, _, _, _, _, _, _, _, _, _, _, xL_InvalidSet, rf_InvalidSet⟩, sa_InvalidSet, ex_InvalidSet, ty_InvalidSet, kp_InvalidSet⟩, iC_InvalidSet, tI_InvalidSet, no_InvalidSet, zsup, zopq, hm_InvalidSet, hB_InvalidSet, hD_InvalidSet, by decide +kernel, _, _, _, _, _, _, _, _, _, _, _, _, _, _, _, _, _, _, _, _, _, _, _, _, _, l1_InvalidSet, c1_InvalidSet, l2_InvalidSet, v2_InvalidSet, fi_InvalidSet, l3_InvalidSet, rfl, rfl, own_binds lT_InvalidSet rfl (fun _ _ => ⟨_, rfl, rfl⟩), fun _ => rfl⟩
  have m_InvalidNumber := PySem.W.mg_of X G a_InvalidNumber
  have o_InvalidNumber : OwnX PySem.Challenge.pw_everypair_k29_whole_set_algebra K A_InvalidNumber I_InvalidNumber := ⟨⟨⟨_, _, _, _, _, _, _, _, _, _, _, _, _, _, _, xL_InvalidNumber, rf_InvalidNumber⟩, sa_InvalidNumber, ex_InvalidNumber, ty_InvalidNumber, kp_InvalidNumber⟩, iC_InvalidNumber, tI_InvalidNumber, no_InvalidNumber, zsup, zopq, hm_InvalidNumber, hB_InvalidNumber, hD_InvalidNumber, by decide +kernel, _, _, _, _, _, _, _, _, _, _, _, _, _, _, _, _, _, _, _, _, _, _, _, _, _, l1_InvalidNumber, c1_InvalidNumber, l2_InvalidNumber, v2_InvalidNumber, fi_InvalidNumber, l3_InvalidNumber, rfl, rfl, own_binds lT_InvalidNumber rfl (fun _ _ => ⟨_, rfl, rfl⟩), fun _ => rfl⟩
  have m_InvalidMarks := PySem.W.mg_of X G a_InvalidMarks
  have o_InvalidMarks : OwnX PySem.Challenge.pw_everypair_k29_whole_set_algebra K A_InvalidMarks I_InvalidMarks := ⟨⟨⟨_, _, _, _, _, _, _, _, _, _, _, _, _, _, _, xL_InvalidMarks, rf_InvalidMarks⟩, sa_InvalidMarks, ex_InvalidMarks, ty_InvalidMarks, kp_InvalidMarks⟩, iC_InvalidMarks, tI_InvalidMarks, no_InvalidMarks, zsup, zopq, hm_InvalidMarks, hB_InvalidMarks, hD_InvalidMarks, by decide +kernel, _, _, _, _, _, _, _, _, _, _, _, _, _, _, _, _, _, _, _, _, _, _, _, _, _, l1_InvalidMarks, c1_InvalidMarks, l2_InvalidMarks, v2_InvalidMarks, fi_InvalidMarks, l3_InvalidMarks, rfl, rfl, own_binds lT_InvalidMarks rfl (fun _ _ => ⟨_, rfl, rfl⟩), fun _ => rfl⟩
  have c_MARKS : ConAt K mg "MARKS" (.cst ((["c", "h", "b"] : List Str).map D.str)) := con_strs (PySem.W.mg_of X G a_MARKS) l_MARKS rfl rfl (by show 3 ≤ sizeLine; decide) (.cons ⟨_, rfl⟩ (.cons ⟨_, rfl⟩ (.cons ⟨_, rfl⟩ .nil)))
  have m_PairSet := PySem.W.mg_of X G a_PairSet
  have cl_PairSet : Cls K A_PairSet := ⟨pg_PairSet, hd_PairSet, po_PairSet, sa_PairSet⟩
  have fo_PairSet_machine : FldOk K A_PairSet "machine" := ⟨cl_PairSet, na_PairSet_machine⟩
  have io_PairSet : InsOk K A_PairSet := ⟨cl_PairSet, ha_PairSet, zsp, ztk, mo_PairSet⟩
  have ne_PairSet_ : NeC K A_PairSet := ⟨_, N_PairSet, _, _, _, _, _, _, _, _, _, _, _, _, _, _, nl_PairSet, nn_PairSet, ne_PairSet, nx_PairSet, nf1_PairSet, _, nf2_PairSet, nf3_PairSet⟩
  have d_PairSet___le__ : MethAt K A_PairSet "__le__" "PairSet.__le__" s_PairSet___le__ := ⟨cl_PairSet, _, _, ⟨at_PairSet___le__, fn_PairSet___le__, k_PairSet___le__⟩, ⟨_, _, _, _, _, _, _, _, _, rfl, l_PairSet___le__, c_PairSet___le__⟩, k_PairSet___le__⟩
  have d_PairSet___ge__ : MethAt K A_PairSet "__ge__" "PairSet.__ge__" s_PairSet___ge__ := ⟨cl_PairSet, _, _, ⟨at_PairSet___ge__, fn_PairSet___ge__, k_PairSet___ge__⟩, ⟨_, _, _, _, _, _, _, _, _, rfl, l_PairSet___ge__, c_PairSet___ge__⟩, k_PairSet___ge__⟩
  have d_PairSet___lt__ : MethAt K A_PairSet "__lt__" "PairSet.__lt__" s_PairSet___lt__ := ⟨cl_PairSet, _, _, ⟨at_PairSet___lt__, fn_PairSet___lt__, k_PairSet___lt__⟩, ⟨_, _, _, _, _, _, _, _, _, rfl, l_PairSet___lt__, c_PairSet___lt__⟩, k_PairSet___lt__⟩
  have d_PairSet___gt__ : MethAt K A_PairSet "__gt__" "PairSet.__gt__" s_PairSet___gt__ := ⟨cl_PairSet, _, _, ⟨at_PairSet___gt__, fn_PairSet___gt__, k_PairSet___gt__⟩, ⟨_, _, _, _, _, _, _, _, _, rfl, l_PairSet___gt__, c_PairSet___gt__⟩, k_PairSet___gt__⟩
  have d_PairSet___eq__ : MethAt K A_PairSet "__eq__" "PairSet.__eq__" s_PairSet___eq__ := ⟨cl_PairSet, _, _, ⟨at_PairSet___eq__, fn_PairSet___eq__, k_PairSet___eq__⟩, ⟨_, _, _, _, _, _, _, _, _, rfl, l_PairSet___eq__, c_PairSet___eq__⟩, k_PairSet___eq__⟩
  have d_PairSet___bool__ : MethAt K A_PairSet "__bool__" "PairSet.__bool__" s_PairSet___bool__ := ⟨cl_PairSet, _, _, ⟨at_PairSet___bool__, fn_PairSet___bool__, k_PairSet___bool__⟩, ⟨_, _, _, _, _, _, _, _, _, rfl, l_PairSet___bool__, c_PairSet___bool__⟩, k_PairSet___bool__⟩
  have d_PairSet___and__ : MethAt K A_PairSet "__and__" "PairSet.__and__" s_PairSet___and__ := ⟨cl_PairSet, _, _, ⟨at_PairSet___and__, fn_PairSet___and__, k_PairSet___and__⟩, ⟨_, _, _, _, _, _, _, _, _, rfl, l_PairSet___and__, c_PairSet___and__⟩, k_PairSet___and__⟩
  have d_PairSet___or__ : MethAt K A_PairSet "__or__" "PairSet.__or__" s_PairSet___or__ := ⟨cl_PairSet, _, _, ⟨at_PairSet___or__, fn_PairSet___or__, k_PairSet___or__⟩, ⟨_, _, _, _, _, _, _, _, _, rfl, l_PairSet___or__, c_PairSet___or__⟩, k_PairSet___or__⟩
  have d_PairSet___sub__ : MethAt K A_PairSet "__sub__" "PairSet.__sub__" s_PairSet___sub__ := ⟨cl_PairSet, _, _, ⟨at_PairSet___sub__, fn_PairSet___sub__, k_PairSet___sub__⟩, ⟨_, _, _, _, _, _, _, _, _, rfl, l_PairSet___sub__, c_PairSet___sub__⟩, k_PairSet___sub__⟩
  have d_PairSet___xor__ : MethAt K A_PairSet "__xor__" "PairSet.__xor__" s_PairSet___xor__ := ⟨cl_PairSet, _, _, ⟨at_PairSet___xor__, fn_PairSet___xor__, k_PairSet___xor__⟩, ⟨_, _, _, _, _, _, _, _, _, rfl, l_PairSet___xor__, c_PairSet___xor__⟩, k_PairSet___xor__⟩
  have d_PairSet___invert__ : MethAt K A_PairSet "__invert__" "PairSet.__invert__" s_PairSet___invert__ := ⟨cl_PairSet, _, _, ⟨at_PairSet___invert__, fn_PairSet___invert__, k_PairSet___invert__⟩, ⟨_, _, _, _, _, _, _, _, _, rfl, l_PairSet___invert__, c_PairSet___invert__⟩, k_PairSet___invert__⟩
  have d_PairSet_count : MethAt K A_PairSet "count" "PairSet.count" s_PairSet_count := ⟨cl_PairSet, _, _, ⟨at_PairSet_count, fn_PairSet_count, k_PairSet_count⟩, ⟨_, _, _, _, _, _, _, _, _, rfl, l_PairSet_count, c_PairSet_count⟩, k_PairSet_count⟩
  have d_PairSet_has : MethAt K A_PairSet "has" "PairSet.has" s_PairSet_has := ⟨cl_PairSet, _, _, ⟨at_PairSet_has, fn_PairSet_has, k_PairSet_has⟩, ⟨_, _, _, _, _, _, _, _, _, rfl, l_PairSet_has, c_PairSet_has⟩, k_PairSet_has⟩
  have d_PairSet_every : StaAt K A_PairSet "every" "PairSet.every" s_PairSet_every := ⟨rr_PairSet_every, gg_PairSet_every, _, _, _, _, at_PairSet_every, re_PairSet_every, ⟨_, _, _, _, _, _, _, _, _, rfl, l_PairSet_every, c_PairSet_every⟩, k_PairSet_every⟩
  have d_PairSet_common : StaAt K A_PairSet "common" "PairSet.common" s_PairSet_common := ⟨rr_PairSet_common, gg_PairSet_common, _, _, _, _, at_PairSet_common, re_PairSet_common, ⟨_, _, _, _, _, _, _, _, _, rfl, l_PairSet_common, c_PairSet_common⟩, k_PairSet_common⟩
  have d_PairSet___init__ : InitAt K mg "PairSet" A_PairSet "PairSet.__init__" s_PairSet___init__ [] [] := ⟨_, _, ⟨mk_PairSet, in_PairSet, fn_PairSet___init__, kc_PairSet⟩, m_PairSet, ⟨_, _, _, _, _, _, _, _, _, _, rfl, l_PairSet___init__, c_PairSet___init__, .inl ⟨rfl, T0_PairSet___init__⟩, .inl rfl⟩, k_PairSet___init__⟩
  have bk_PairSet_and : BinK K A_PairSet "and" := ⟨sf_PairSet, rv_PairSet_and, ty_PairSet_and⟩
  have bk_PairSet_or : BinK K A_PairSet "or" := ⟨sf_PairSet, rv_PairSet_or, ty_PairSet_or⟩
  have bk_PairSet_sub : BinK K A_PairSet "sub" := ⟨sf_PairSet, rv_PairSet_sub, ty_PairSet_sub⟩
  have bk_PairSet_xor : BinK K A_PairSet "xor" := ⟨sf_PairSet, rv_PairSet_xor, ty_PairSet_xor⟩
  have w_first_met : Cal PySem.Challenge.pw_everypair_k29_whole_set_algebra w K mg base _ _ _ _ := cal_first_met  d_first_met m_len
  have w_renumbered : Cal PySem.Challenge.pw_everypair_k29_whole_set_algebra w K mg base _ _ _ _ := cal_renumbered  d_renumbered w_first_met m_enumerate
  have w_grouped : Cal PySem.Challenge.pw_everypair_k29_whole_set_algebra w K mg base _ _ _ _ := cal_grouped  d_grouped m_len m_set m_int m_enumerate
  have w_least_machine : Cal PySem.Challenge.pw_everypair_k29_whole_set_algebra w K mg base _ _ _ _ := cal_least_machine  d_least_machine w_renumbered w_grouped m_enumerate
  have w_is_whole : Cal PySem.Challenge.pw_everypair_k29_whole_set_algebra w K mg base _ _ _ _ := cal_is_whole  d_is_whole m_isinstance m_int m_bool
  have w_is_state : Cal PySem.Challenge.pw_everypair_k29_whole_set_algebra w K mg base _ _ _ _ := cal_is_state  d_is_state w_is_whole
  have w_is_machine : Cal PySem.Challenge.pw_everypair_k29_whole_set_algebra w K mg base _ _ _ _ := cal_is_machine  d_is_machine w_is_state m_isinstance m_list m_tuple m_len
  have g_PairSet := cal_PairSet (P := PySem.Challenge.pw_everypair_k29_whole_set_algebra) (w := w) (base := base)  (a_PairSet := A_PairSet) d_PairSet___init__ w_is_machine w_least_machine fo_PairSet_machine o_InvalidMachine m_InvalidMachine m_tuple m_range m_len
  have w__law_draw : Cal PySem.Challenge.pw_everypair_k29_whole_set_algebra w K mg base _ _ _ _ := cal_draw  d__law_draw m_int
  have w__law_purse : Cal PySem.Challenge.pw_everypair_k29_whole_set_algebra w K mg base _ _ _ _ := cal_purse  d__law_purse m_int m_len m_max
  have w__law_table : Cal PySem.Challenge.pw_everypair_k29_whole_set_algebra w K mg base _ _ _ _ := cal__law_table  d__law_table w__law_draw m_range m_int
  have w__law_joined : Cal PySem.Challenge.pw_everypair_k29_whole_set_algebra w K mg base _ _ _ _ := cal__law_joined  d__law_joined m_range m_len
  have w__law_set : Cal PySem.Challenge.pw_everypair_k29_whole_set_algebra w K mg base _ _ _ _ := cal__law_set  (a_PairSet := A_PairSet) d__law_set (mkp_2 g_PairSet) m_list
  have w_product : Cal PySem.Challenge.pw_everypair_k29_whole_set_algebra w K mg base _ _ _ _ := cal_product  d_product m_range m_len m_int
  have w_is_within : Cal PySem.Challenge.pw_everypair_k29_whole_set_algebra w K mg base _ _ _ _ := cal_is_within  (a_PairSet := A_PairSet) d_is_within w_product o_InvalidSet m_InvalidSet (con_ref m_PairSet) io_PairSet nk_PairSet fo_PairSet_machine m_isinstance
  have w_is_over : Cal PySem.Challenge.pw_everypair_k29_whole_set_algebra w K mg base _ _ _ _ := cal_is_over  (a_PairSet := A_PairSet) d_is_over w_product o_InvalidSet m_InvalidSet (con_ref m_PairSet) io_PairSet nk_PairSet fo_PairSet_machine m_isinstance
  have p_PairSet___le__ : MethC PySem.Challenge.pw_everypair_k29_whole_set_algebra w K mg base _ _ _ _ _ := cal_PairSet___le__  (a_PairSet := A_PairSet) d_PairSet___le__ w_is_within fo_PairSet_machine
  have p_PairSet___ge__ : MethC PySem.Challenge.pw_everypair_k29_whole_set_algebra w K mg base _ _ _ _ _ := cal_PairSet___ge__  (a_PairSet := A_PairSet) d_PairSet___ge__ w_is_over fo_PairSet_machine
  have p_PairSet___lt__ : MethC PySem.Challenge.pw_everypair_k29_whole_set_algebra w K mg base _ _ _ _ _ := cal_PairSet___lt__  (a_PairSet := A_PairSet) d_PairSet___lt__ w_is_within fo_PairSet_machine
  have p_PairSet___gt__ : MethC PySem.Challenge.pw_everypair_k29_whole_set_algebra w K mg base _ _ _ _ _ := cal_PairSet___gt__  (a_PairSet := A_PairSet) d_PairSet___gt__ w_is_over fo_PairSet_machine
  have p_PairSet___eq__ : MethC PySem.Challenge.pw_everypair_k29_whole_set_algebra w K mg base _ _ _ _ _ := cal_PairSet___eq__  (a_PairSet := A_PairSet) d_PairSet___eq__ (con_ref m_PairSet) io_PairSet nk_PairSet fo_PairSet_machine m_isinstance
  have p_PairSet___bool__ : MethC PySem.Challenge.pw_everypair_k29_whole_set_algebra w K mg base _ _ _ _ _ := cal_PairSet___bool__  (a_PairSet := A_PairSet) d_PairSet___bool__ fo_PairSet_machine
  have w_made_of : Cal PySem.Challenge.pw_everypair_k29_whole_set_algebra w K mg base _ _ _ _ := cal_made_of  (a_PairSet := A_PairSet) d_made_of (mkp_2 g_PairSet) m_list m_range m_len
  have w_combined : Cal PySem.Challenge.pw_everypair_k29_whole_set_algebra w K mg base _ _ _ _ := cal_combined  (a_PairSet := A_PairSet) d_combined w_made_of w_product o_InvalidSet m_InvalidSet (con_ref m_PairSet) io_PairSet nk_PairSet fo_PairSet_machine m_isinstance
  have p_PairSet___and__ : MethC PySem.Challenge.pw_everypair_k29_whole_set_algebra w K mg base _ (PySem.dunder "and") _ _ _ := (by rw [show PySem.dunder "and" = ("__and__" : Str) by decide +kernel]; exact cal_PairSet___and__  (a_PairSet := A_PairSet) d_PairSet___and__ w_combined)
  have p_PairSet___or__ : MethC PySem.Challenge.pw_everypair_k29_whole_set_algebra w K mg base _ (PySem.dunder "or") _ _ _ := (by rw [show PySem.dunder "or" = ("__or__" : Str) by decide +kernel]; exact cal_PairSet___or__  (a_PairSet := A_PairSet) d_PairSet___or__ w_combined)
  have p_PairSet___sub__ : MethC PySem.Challenge.pw_everypair_k29_whole_set_algebra w K mg base _ (PySem.dunder "sub") _ _ _ := (by rw [show PySem.dunder "sub" = ("__sub__" : Str) by decide +kernel]; exact cal_PairSet___sub__  (a_PairSet := A_PairSet) d_PairSet___sub__ w_combined)
  have p_PairSet___xor__ : MethC PySem.Challenge.pw_everypair_k29_whole_set_algebra w K mg base _ (PySem.dunder "xor") _ _ _ := (by rw [show PySem.dunder "xor" = ("__xor__" : Str) by decide +kernel]; exact cal_PairSet___xor__  (a_PairSet := A_PairSet) d_PairSet___xor__ w_combined)
  have p_PairSet___invert__ : MethC PySem.Challenge.pw_everypair_k29_whole_set_algebra w K mg base _ _ _ _ _ := cal_PairSet___invert__  (a_PairSet := A_PairSet) d_PairSet___invert__ w_made_of fo_PairSet_machine
  have w_count_words : Cal PySem.Challenge.pw_everypair_k29_whole_set_algebra w K mg base _ _ _ _ := cal_count_words  d_count_words m_range m_len m_int m_enumerate m_sum
  have p_PairSet_count : MethC PySem.Challenge.pw_everypair_k29_whole_set_algebra w K mg base _ _ _ _ _ := cal_PairSet_count  (a_PairSet := A_PairSet) d_PairSet_count w_is_whole w_count_words o_InvalidNumber m_InvalidNumber fo_PairSet_machine
  have p_PairSet_every : StaC PySem.Challenge.pw_everypair_k29_whole_set_algebra w K mg base _ _ _ _ _ := cal_PairSet_every  (a_PairSet := A_PairSet) d_PairSet_every (mkp_2 g_PairSet) (con_ref m_PairSet)
  have p_PairSet_common : StaC PySem.Challenge.pw_everypair_k29_whole_set_algebra w K mg base _ _ _ _ _ := cal_PairSet_common  (a_PairSet := A_PairSet) d_PairSet_common (mkp_2 g_PairSet) (con_ref m_PairSet)
  have w_state_from : Cal PySem.Challenge.pw_everypair_k29_whole_set_algebra w K mg base _ _ _ _ := cal_state_from  d_state_from
  have w_state_after : Cal PySem.Challenge.pw_everypair_k29_whole_set_algebra w K mg base _ _ _ _ := cal_state_after  d_state_after w_state_from
  have w__law_read : Cal PySem.Challenge.pw_everypair_k29_whole_set_algebra w K mg base _ _ _ _ := cal__law_read  d__law_read
  have w_is_marks : Cal PySem.Challenge.pw_everypair_k29_whole_set_algebra w K mg base _ _ _ _ := cal_is_marks  d_is_marks c_MARKS m_isinstance m_str
  have w_check_marks : Cal PySem.Challenge.pw_everypair_k29_whole_set_algebra w K mg base _ _ _ _ := cal_check_marks  d_check_marks w_is_marks o_InvalidMarks m_InvalidMarks
  have p_PairSet_has : MethC PySem.Challenge.pw_everypair_k29_whole_set_algebra w K mg base _ _ _ _ _ := cal_PairSet_has  (a_PairSet := A_PairSet) d_PairSet_has w_check_marks w_state_after fo_PairSet_machine
  have w__law_pick : Cal PySem.Challenge.pw_everypair_k29_whole_set_algebra w K mg base _ _ _ _ := cal__law_pick  d__law_pick w__law_draw m_len
  have w__law_marks : Cal PySem.Challenge.pw_everypair_k29_whole_set_algebra w K mg base _ _ _ _ := cal__law_marks  d__law_marks w__law_draw w__law_pick m_range
  have w__law_laws_of_sets : Cal PySem.Challenge.pw_everypair_k29_whole_set_algebra w K mg base _ _ _ _ := cal__law_laws_of_sets  (a_PairSet := A_PairSet) d__law_laws_of_sets p_PairSet___and__ bk_PairSet_and p_PairSet___or__ bk_PairSet_or p_PairSet___sub__ bk_PairSet_sub p_PairSet___xor__ bk_PairSet_xor (cmp_of p_PairSet___le__) (cmp_of p_PairSet___lt__) (cmp_of p_PairSet___ge__) (cmp_of p_PairSet___gt__) (cmp_of p_PairSet___eq__) ne_PairSet_ io_PairSet nf_PairSet p_PairSet___invert__ p_PairSet_count p_PairSet___bool__ p_PairSet_every (con_ref m_PairSet)
  have w__law_right : Cal PySem.Challenge.pw_everypair_k29_whole_set_algebra w K mg base _ _ _ _ := cal__law_right  (a_PairSet := A_PairSet) d__law_right p_PairSet_has w__law_read
  exact cal_law  (a_PairSet := A_PairSet) d_law w__law_purse w__law_draw w__law_table w__law_set w__law_marks w__law_joined w__law_laws_of_sets w__law_right p_PairSet_common (con_ref m_PairSet) io_PairSet m_range m_min m_len p_PairSet___and__ bk_PairSet_and p_PairSet___or__ bk_PairSet_or p_PairSet___sub__ bk_PairSet_sub p_PairSet___xor__ bk_PairSet_xor
end K
open PySem PySem.W PyProof.Rows
local macro_rules | `(tactic| o_head ($_:ident $k $a $e)) => `(tactic| o_head (HK.hook $k $a (by decide +kernel) $e))
set_option maxRecDepth 100000 in
set_option maxHeartbeats 0 in
theorem PySem.Challenge.cw_everypair_k29_whole_set_algebra_holds : PySem.Challenge.rw_everypair_k29_whole_set_algebra.Holds := by
  w_on; o_law; x_head; (case hw => w_witness2)
  k_fill
  refine DD.walk_c (l := PySem.Challenge.rw_everypair_k29_whole_set_algebra) (n := 63) (k := 11) (x := "_law_script") (y := "law") (spd := K.spd_law) rfl (by decide) rfl ⟨rfl, by decide, by decide⟩ (fun w h Y => HK.hook_says Y) rfl ?F ?S
  case F =>
    intro w mg h KX G
    refine' K.all_mk KX G ?zsup ?zopq ?zsp ?ztk ?a_first_met ?l_first_met ?c_first_met ?k_first_met ?a_renumbered ?l_renumbered ?c_renumbered ?k_renumbered ?a_grouped ?l_grouped ?c_grouped ?k_grouped ?a_least_machine ?l_least_machine ?c_least_machine ?k_least_machine ?a_is_whole ?l_is_whole ?c_is_whole ?k_is_whole ?a_is_state ?l_is_state ?c_is_state ?k_is_state ?a_is_machine ?l_is_machine ?c_is_machine ?k_is_machine ?a__law_draw ?l__law_draw ?c__law_draw ?k__law_draw ?a__law_purse ?l__law_purse ?c__law_purse ?k__law_purse ?a__law_table ?l__law_table ?c__law_table ?k__law_table ?a__law_joined ?l__law_joined ?c__law_joined ?k__law_joined ?a__law_set ?l__law_set ?c__law_set ?k__law_set ?a_product ?l_product ?c_product ?k_product ?a_is_within ?l_is_within ?c_is_within ?k_is_within ?a_is_over ?l_is_over ?c_is_over ?k_is_over ?a_made_of ?l_made_of ?c_made_of ?k_made_of ?a_combined ?l_combined ?c_combined ?k_combined ?a_count_words ?l_count_words ?c_count_words ?k_count_words ?a_state_from ?l_state_from ?c_state_from ?k_state_from ?a_state_after ?l_state_after ?c_state_after ?k_state_after ?a__law_read ?l__law_read ?c__law_read ?k__law_read ?a_is_marks ?l_is_marks ?c_is_marks ?k_is_marks ?a_check_marks ?l_check_marks ?c_check_marks ?k_check_marks ?a__law_pick ?l__law_pick ?c__law_pick ?k__law_pick ?a__law_marks ?l__law_marks ?c__law_marks ?k__law_marks ?a__law_laws_of_sets ?l__law_laws_of_sets ?c__law_laws_of_sets ?k__law_laws_of_sets ?a__law_right ?l__law_right ?c__law_right ?k__law_right ?a_law ?l_law ?c_law ?k_law ?z_len ?z_enumerate ?z_set ?z_int ?z_isinstance ?z_bool ?z_list ?z_tuple ?z_range ?z_max ?z_sum ?z_str ?z_min ?a_InvalidMachine ?xL_InvalidMachine ?rf_InvalidMachine ?sa_InvalidMachine ?ex_InvalidMachine ?no_InvalidMachine ?ty_InvalidMachine ?kp_InvalidMachine ?iC_InvalidMachine ?tI_InvalidMachine ?hm_InvalidMachine ?hB_InvalidMachine ?hD_InvalidMachine ?l1_InvalidMachine ?lT_InvalidMachine ?c1_InvalidMachine ?l2_InvalidMachine ?v2_InvalidMachine ?fi_InvalidMachine ?l3_InvalidMachine ?a_InvalidSet ?xL_InvalidSet ?rf_InvalidSet ?sa_InvalidSet ?ex_InvalidSet ?no_InvalidSet ?ty_InvalidSet ?kp_InvalidSet ?iC_InvalidSet ?tI_InvalidSet ?hm_InvalidSet ?hB_InvalidSet ?hD_InvalidSet ?l1_InvalidSet ?lT_InvalidSet ?c1_InvalidSet ?l2_InvalidSet ?v2_InvalidSet ?fi_InvalidSet ?l3_InvalidSet ?a_InvalidNumber ?xL_InvalidNumber ?rf_InvalidNumber ?sa_InvalidNumber ?ex_InvalidNumber ?no_InvalidNumber ?ty_InvalidNumber ?kp_InvalidNumber ?iC_InvalidNumber ?tI_InvalidNumber ?hm_InvalidNumber ?hB_InvalidNumber ?hD_InvalidNumber ?l1_InvalidNumber ?lT_InvalidNumber ?c1_InvalidNumber ?l2_InvalidNumber ?v2_InvalidNumber ?fi_InvalidNumber ?l3_InvalidNumber ?a_InvalidMarks ?xL_InvalidMarks ?rf_InvalidMarks ?sa_InvalidMarks ?ex_InvalidMarks ?no_InvalidMarks ?ty_InvalidMarks ?kp_InvalidMarks ?iC_InvalidMarks ?tI_InvalidMarks ?hm_InvalidMarks ?hB_InvalidMarks ?hD_InvalidMarks ?l1_InvalidMarks ?lT_InvalidMarks ?c1_InvalidMarks ?l2_InvalidMarks ?v2_InvalidMarks ?fi_InvalidMarks ?l3_InvalidMarks ?a_MARKS ?l_MARKS ?a_PairSet ?pg_PairSet ?hd_PairSet ?po_PairSet ?sa_PairSet ?na_PairSet_machine ?ha_PairSet ?mo_PairSet ?nk_PairSet ?nf_PairSet ?nl_PairSet ?nn_PairSet ?ne_PairSet ?nx_PairSet ?nf1_PairSet ?nf2_PairSet ?nf3_PairSet ?at_PairSet___le__ ?fn_PairSet___le__ ?l_PairSet___le__ ?c_PairSet___le__ ?k_PairSet___le__ ?at_PairSet___ge__ ?fn_PairSet___ge__ ?l_PairSet___ge__ ?c_PairSet___ge__ ?k_PairSet___ge__ ?at_PairSet___lt__ ?fn_PairSet___lt__ ?l_PairSet___lt__ ?c_PairSet___lt__ ?k_PairSet___lt__ ?at_PairSet___gt__ ?fn_PairSet___gt__ ?l_PairSet___gt__ ?c_PairSet___gt__ ?k_PairSet___gt__ ?at_PairSet___eq__ ?fn_PairSet___eq__ ?l_PairSet___eq__ ?c_PairSet___eq__ ?k_PairSet___eq__ ?at_PairSet___bool__ ?fn_PairSet___bool__ ?l_PairSet___bool__ ?c_PairSet___bool__ ?k_PairSet___bool__ ?at_PairSet___and__ ?fn_PairSet___and__ ?l_PairSet___and__ ?c_PairSet___and__ ?k_PairSet___and__ ?at_PairSet___or__ ?fn_PairSet___or__ ?l_PairSet___or__ ?c_PairSet___or__ ?k_PairSet___or__ ?at_PairSet___sub__ ?fn_PairSet___sub__ ?l_PairSet___sub__ ?c_PairSet___sub__ ?k_PairSet___sub__ ?at_PairSet___xor__ ?fn_PairSet___xor__ ?l_PairSet___xor__ ?c_PairSet___xor__ ?k_PairSet___xor__ ?at_PairSet___invert__ ?fn_PairSet___invert__ ?l_PairSet___invert__ ?c_PairSet___invert__ ?k_PairSet___invert__ ?at_PairSet_count ?fn_PairSet_count ?l_PairSet_count ?c_PairSet_count ?k_PairSet_count ?at_PairSet_has ?fn_PairSet_has ?l_PairSet_has ?c_PairSet_has ?k_PairSet_has ?rr_PairSet_every ?gg_PairSet_every ?at_PairSet_every ?re_PairSet_every ?l_PairSet_every ?c_PairSet_every ?k_PairSet_every ?rr_PairSet_common ?gg_PairSet_common ?at_PairSet_common ?re_PairSet_common ?l_PairSet_common ?c_PairSet_common ?k_PairSet_common ?mk_PairSet ?in_PairSet ?fn_PairSet___init__ ?kc_PairSet ?l_PairSet___init__ ?c_PairSet___init__ ?k_PairSet___init__ ?T0_PairSet___init__ ?sf_PairSet ?rv_PairSet_and ?ty_PairSet_and ?rv_PairSet_or ?ty_PairSet_or ?rv_PairSet_sub ?ty_PairSet_sub ?rv_PairSet_xor ?ty_PairSet_xor
    (case zsup => k_is)
    (case zopq => k_is)
    (case zsp => k_is)
    (case ztk => k_is)
    (case a_first_met => k_is)
    (case l_first_met => k_is)
    (case c_first_met => k_is)
    (case k_first_met => k_is)
    (case a_renumbered => k_is)
    (case l_renumbered => k_is)
    (case c_renumbered => k_is)
    (case k_renumbered => k_is)
    (case a_grouped => k_is)
    (case l_grouped => k_is)
    (case c_grouped => k_is)
    (case k_grouped => k_is)
    (case a_least_machine => k_is)
    (case l_least_machine => k_is)
    (case c_least_machine => k_is)
    (case k_least_machine => k_is)
    (case a_is_whole => k_is)
    (case l_is_whole => k_is)
    (case c_is_whole => k_is)
    (case k_is_whole => k_is)
    (case a_is_state => k_is)
    (case l_is_state => k_is)
    (case c_is_state => k_is)
    (case k_is_state => k_is)
    (case a_is_machine => k_is)
    (case l_is_machine => k_is)
    (case c_is_machine => k_is)
    (case k_is_machine => k_is)
    (case a__law_draw => k_is)
    (case l__law_draw => k_is)
    (case c__law_draw => k_is)
    (case k__law_draw => k_is)
    (case a__law_purse => k_is)
    (case l__law_purse => k_is)
    (case c__law_purse => k_is)
    (case k__law_purse => k_is)
    (case a__law_table => k_is)
    (case l__law_table => k_is)
    (case c__law_table => k_is)
    (case k__law_table => k_is)
    (case a__law_joined => k_is)
    (case l__law_joined => k_is)
    (case c__law_joined => k_is)
    (case k__law_joined => k_is)
    (case a__law_set => k_is)
    (case l__law_set => k_is)
    (case c__law_set => k_is)
    (case k__law_set => k_is)
    (case a_product => k_is)
    (case l_product => k_is)
    (case c_product => k_is)
    (case k_product => k_is)
    (case a_is_within => k_is)
    (case l_is_within => k_is)
    (case c_is_within => k_is)
    (case k_is_within => k_is)
    (case a_is_over => k_is)
    (case l_is_over => k_is)
    (case c_is_over => k_is)
    (case k_is_over => k_is)
    (case a_made_of => k_is)
    (case l_made_of => k_is)
    (case c_made_of => k_is)
    (case k_made_of => k_is)
    (case a_combined => k_is)
    (case l_combined => k_is)
    (case c_combined => k_is)
    (case k_combined => k_is)
    (case a_count_words => k_is)
    (case l_count_words => k_is)
    (case c_count_words => k_is)
    (case k_count_words => k_is)
    (case a_state_from => k_is)
    (case l_state_from => k_is)
    (case c_state_from => k_is)
    (case k_state_from => k_is)
    (case a_state_after => k_is)
    (case l_state_after => k_is)
    (case c_state_after => k_is)
    (case k_state_after => k_is)
    (case a__law_read => k_is)
    (case l__law_read => k_is)
    (case c__law_read => k_is)
    (case k__law_read => k_is)
    (case a_is_marks => k_is)
    (case l_is_marks => k_is)
    (case c_is_marks => k_is)
    (case k_is_marks => k_is)
    (case a_check_marks => k_is)
    (case l_check_marks => k_is)
    (case c_check_marks => k_is)
    (case k_check_marks => k_is)
    (case a__law_pick => k_is)
    (case l__law_pick => k_is)
    (case c__law_pick => k_is)
    (case k__law_pick => k_is)
    (case a__law_marks => k_is)
    (case l__law_marks => k_is)
    (case c__law_marks => k_is)
    (case k__law_marks => k_is)
    (case a__law_laws_of_sets => k_is)
    (case l__law_laws_of_sets => k_is)
    (case c__law_laws_of_sets => k_is)
    (case k__law_laws_of_sets => k_is)
    (case a__law_right => k_is)
    (case l__law_right => k_is)
    (case c__law_right => k_is)
    (case k__law_right => k_is)
    (case a_law => k_is)
    (case l_law => k_is)
    (case c_law => k_is)
    (case k_law => k_is)
    (case z_len => k_is)
    (case z_enumerate => k_is)
    (case z_set => k_is)
    (case z_int => k_is)
    (case z_isinstance => k_is)
    (case z_bool => k_is)
    (case z_list => k_is)
    (case z_tuple => k_is)
    (case z_range => k_is)
    (case z_max => k_is)
    (case z_sum => k_is)
    (case z_str => k_is)
    (case z_min => k_is)
    (case a_InvalidMachine => k_is)
    (case xL_InvalidMachine => k_is)
    (case rf_InvalidMachine => decide +kernel)
    (case sa_InvalidMachine => k_is)
    (case ex_InvalidMachine => k_is)
    (case no_InvalidMachine => k_is)
    (case ty_InvalidMachine => k_is)
    (case kp_InvalidMachine => k_is)
    (case iC_InvalidMachine => k_is)
    (case tI_InvalidMachine => k_is)
    (case hm_InvalidMachine => kernel_rfl)
    (case hB_InvalidMachine => k_is)
    (case hD_InvalidMachine => k_is)
    (case l1_InvalidMachine => k_is)
    (case lT_InvalidMachine => k_is)
    (case c1_InvalidMachine => k_is)
    (case l2_InvalidMachine => k_is)
    (case v2_InvalidMachine => rfl)
    (case fi_InvalidMachine => decide +kernel)
    (case l3_InvalidMachine => k_is)
    (case a_InvalidSet => k_is)
    (case xL_InvalidSet => k_is)
    (case rf_InvalidSet => decide +kernel)
    (case sa_InvalidSet => k_is)
    (case ex_InvalidSet => k_is)
    (case no_InvalidSet => k_is)
    (case ty_InvalidSet => k_is)
    (case kp_InvalidSet => k_is)
    (case iC_InvalidSet => k_is)
    (case tI_InvalidSet => k_is)
    (case hm_InvalidSet => kernel_rfl)
    (case hB_InvalidSet => k_is)
    (case hD_InvalidSet => k_is)
    (case l1_InvalidSet => k_is)
    (case lT_InvalidSet => k_is)
    (case c1_InvalidSet => k_is)
    (case l2_InvalidSet => k_is)
    (case v2_InvalidSet => rfl)
    (case fi_InvalidSet => decide +kernel)
    (case l3_InvalidSet => k_is)
    (case a_InvalidNumber => k_is)
    (case xL_InvalidNumber => k_is)
    (case rf_InvalidNumber => decide +kernel)
    (case sa_InvalidNumber => k_is)
    (case ex_InvalidNumber => k_is)
    (case no_InvalidNumber => k_is)
    (case ty_InvalidNumber => k_is)
    (case kp_InvalidNumber => k_is)
    (case iC_InvalidNumber => k_is)
    (case tI_InvalidNumber => k_is)
    (case hm_InvalidNumber => kernel_rfl)
    (case hB_InvalidNumber => k_is)
    (case hD_InvalidNumber => k_is)
    (case l1_InvalidNumber => k_is)
    (case lT_InvalidNumber => k_is)
    (case c1_InvalidNumber => k_is)
    (case l2_InvalidNumber => k_is)
    (case v2_InvalidNumber => rfl)
    (case fi_InvalidNumber => decide +kernel)
    (case l3_InvalidNumber => k_is)
    (case a_InvalidMarks => k_is)
    (case xL_InvalidMarks => k_is)
    (case rf_InvalidMarks => decide +kernel)
    (case sa_InvalidMarks => k_is)
    (case ex_InvalidMarks => k_is)
    (case no_InvalidMarks => k_is)
    (case ty_InvalidMarks => k_is)
    (case kp_InvalidMarks => k_is)
    (case iC_InvalidMarks => k_is)
    (case tI_InvalidMarks => k_is)
    (case hm_InvalidMarks => kernel_rfl)
    (case hB_InvalidMarks => k_is)
    (case hD_InvalidMarks => k_is)
    (case l1_InvalidMarks => k_is)
    (case lT_InvalidMarks => k_is)
    (case c1_InvalidMarks => k_is)
    (case l2_InvalidMarks => k_is)
    (case v2_InvalidMarks => rfl)
    (case fi_InvalidMarks => decide +kernel)
    (case l3_InvalidMarks => k_is)
    (case a_MARKS => k_is)
    (case l_MARKS => k_is)
    (case a_PairSet => k_is)
    (case pg_PairSet => k_is)
    (case hd_PairSet => k_is)
    (case po_PairSet => k_is)
    (case sa_PairSet => k_is)
    (case na_PairSet_machine => k_is)
    (case ha_PairSet => k_is)
    (case mo_PairSet => k_is)
    (case nk_PairSet => show _ = true; kernel_rfl)
    (case nf_PairSet => show _ = true; kernel_rfl)
    (case nl_PairSet => k_is)
    (case nn_PairSet => kernel_rfl)
    (case ne_PairSet => k_is)
    (case nx_PairSet => k_is)
    (case nf1_PairSet => k_is)
    (case nf2_PairSet => k_is)
    (case nf3_PairSet => rfl)
    (case at_PairSet___le__ => k_is)
    (case fn_PairSet___le__ => k_is)
    (case l_PairSet___le__ => k_is)
    (case c_PairSet___le__ => k_is)
    (case k_PairSet___le__ => k_is)
    (case at_PairSet___ge__ => k_is)
    (case fn_PairSet___ge__ => k_is)
    (case l_PairSet___ge__ => k_is)
    (case c_PairSet___ge__ => k_is)
    (case k_PairSet___ge__ => k_is)
    (case at_PairSet___lt__ => k_is)
    (case fn_PairSet___lt__ => k_is)
    (case l_PairSet___lt__ => k_is)
    (case c_PairSet___lt__ => k_is)
    (case k_PairSet___lt__ => k_is)
    (case at_PairSet___gt__ => k_is)
    (case fn_PairSet___gt__ => k_is)
    (case l_PairSet___gt__ => k_is)
    (case c_PairSet___gt__ => k_is)
    (case k_PairSet___gt__ => k_is)
    (case at_PairSet___eq__ => k_is)
    (case fn_PairSet___eq__ => k_is)
    (case l_PairSet___eq__ => k_is)
    (case c_PairSet___eq__ => k_is)
    (case k_PairSet___eq__ => k_is)
    (case at_PairSet___bool__ => k_is)
    (case fn_PairSet___bool__ => k_is)
    (case l_PairSet___bool__ => k_is)
    (case c_PairSet___bool__ => k_is)
    (case k_PairSet___bool__ => k_is)
    (case at_PairSet___and__ => k_is)
    (case fn_PairSet___and__ => k_is)
    (case l_PairSet___and__ => k_is)
    (case c_PairSet___and__ => k_is)
    (case k_PairSet___and__ => k_is)
    (case at_PairSet___or__ => k_is)
    (case fn_PairSet___or__ => k_is)
    (case l_PairSet___or__ => k_is)
    (case c_PairSet___or__ => k_is)
    (case k_PairSet___or__ => k_is)
    (case at_PairSet___sub__ => k_is)
    (case fn_PairSet___sub__ => k_is)
    (case l_PairSet___sub__ => k_is)
    (case c_PairSet___sub__ => k_is)
    (case k_PairSet___sub__ => k_is)
    (case at_PairSet___xor__ => k_is)
    (case fn_PairSet___xor__ => k_is)
    (case l_PairSet___xor__ => k_is)
    (case c_PairSet___xor__ => k_is)
    (case k_PairSet___xor__ => k_is)
    (case at_PairSet___invert__ => k_is)
    (case fn_PairSet___invert__ => k_is)
    (case l_PairSet___invert__ => k_is)
    (case c_PairSet___invert__ => k_is)
    (case k_PairSet___invert__ => k_is)
    (case at_PairSet_count => k_is)
    (case fn_PairSet_count => k_is)
    (case l_PairSet_count => k_is)
    (case c_PairSet_count => k_is)
    (case k_PairSet_count => k_is)
    (case at_PairSet_has => k_is)
    (case fn_PairSet_has => k_is)
    (case l_PairSet_has => k_is)
    (case c_PairSet_has => k_is)
    (case k_PairSet_has => k_is)
    (case rr_PairSet_every => k_is)
    (case gg_PairSet_every => k_is)
    (case at_PairSet_every => k_is)
    (case re_PairSet_every => k_is)
    (case l_PairSet_every => k_is)
    (case c_PairSet_every => k_is)
    (case k_PairSet_every => k_is)
    (case rr_PairSet_common => k_is)
    (case gg_PairSet_common => k_is)
    (case at_PairSet_common => k_is)
    (case re_PairSet_common => k_is)
    (case l_PairSet_common => k_is)
    (case c_PairSet_common => k_is)
    (case k_PairSet_common => k_is)
    (case mk_PairSet => k_is)
    (case in_PairSet => k_is)
    (case fn_PairSet___init__ => k_is)
    (case kc_PairSet => k_is)
    (case l_PairSet___init__ => k_is)
    (case c_PairSet___init__ => k_is)
    (case k_PairSet___init__ => k_is)
    (case T0_PairSet___init__ => rfl)
    (case sf_PairSet => kernel_rfl)
    (case rv_PairSet_and => kernel_rfl)
    (case ty_PairSet_and => kernel_rfl)
    (case rv_PairSet_or => kernel_rfl)
    (case ty_PairSet_or => kernel_rfl)
    (case rv_PairSet_sub => kernel_rfl)
    (case ty_PairSet_sub => kernel_rfl)
    (case rv_PairSet_xor => kernel_rfl)
    (case ty_PairSet_xor => kernel_rfl)
  case S =>
    exact fun ns _ => ⟨ns, rfl, rfl⟩
#print axioms PySem.Challenge.cw_everypair_k29_whole_set_algebra_holds

