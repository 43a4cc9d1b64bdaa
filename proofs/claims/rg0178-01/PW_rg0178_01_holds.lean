import PyProof.Rows.All
import Wide.All
import OpenK.AllK
import Wide.FinOn
import Lean
import PySem.Challenge.RW_rg0178_01
set_option Elab.async false
namespace Mine
section
open PySem PySem.Spec PySem.Calls PyProof.Rows PySem.W PySem.W.X
def cut (V : XV) : SimTy := fun c md κ t T m i ch gl => ∀ h, Rep V h T m ch → Means V c md κ t ⟨h, ⟨gl⟩, V.d, V.t₀ + i, V.os⟩
def inComp (c : Code) (a b : Rest) : Rest := match c with
  | .call _ _ => b
  | .builtin _ _ => b
  | .body _ _ => b
  | .block _ _ => b
  | .handlers _ _ _ => b
  | .starHandlers _ _ _ _ _ => b
  | .func _ _ => b
  | .expr _ _ => b
  | .whileLoop _ _ _ _ => b
  | .forLoop _ _ _ _ _ => b
  | .asyncForLoop _ _ _ _ _ => b
  | .compStart _ _ _ _ _ => a
  | .compLoop _ _ _ _ _ => b
def freeStep (V : XV) (ih jh : SimTy) : SimTy := fun c md κ t => match t with
    | .pure fin => inComp c (simStep V ih c md κ (.pure fin)) (simStep V jh c md κ (.pure fin))
    | .raise e => simStep V jh c md κ (.raise e)
    | .unsupported u => simStep V jh c md κ (.unsupported u)
    | .finish e => simStep V jh c md κ (.finish e)
    | .rule tag k => simStep V jh c md κ (.rule tag k)
    | .«at» p k => simStep V jh c md κ (.«at» p k)
    | .load a p k => simStep V jh c md κ (.load a p k)
    | .update a p f k => simStep V jh c md κ (.update a p f k)
    | .alloc o k => simStep V jh c md κ (.alloc o k)
    | .loadIfAlive a k => simStep V jh c md κ (.loadIfAlive a k)
    | .point l k => simStep V jh c md κ (.point l k)
    | .register a k => simStep V jh c md κ (.register a k)
    | .fresh k => simStep V jh c md κ (.fresh k)
    | .ask k => simStep V jh c md κ (.ask k)
    | .choose s q k => simStep V jh c md κ (.choose s q k)
    | .os q l k => simStep V jh c md κ (.os q l k)
    | .call c' hd g l k => simStep V jh c md κ (.call c' hd g l k)
    | .handled o k => simStep V jh c md κ (.handled o k)
    | .newGen c' k => simStep V jh c md κ (.newGen c' k)
    | .genState g k => simStep V jh c md κ (.genState g k)
    | .resume g r l k => simStep V jh c md κ (.resume g r l k)
    | .yield v g l k => simStep V jh c md κ (.yield v g l k)
    | .stack k => simStep V jh c md κ (.stack k)
    | .fork c' k => simStep V jh c md κ (.fork c' k)
    | .thread k => simStep V jh c md κ (.thread k)
    | .await a t d l k => simStep V jh c md κ (.await a t d l k)
noncomputable def free (V : XV) (n : Nat) (ih : SimTy) : SimTy := Nat.rec (simStep V ih) (fun _ jh => freeStep V ih jh) n
noncomputable def step2 (V : XV) (ih : SimTy) : SimTy := fun c md κ t => match t with
  | .pure fin => simStep V ih c md κ (.pure fin)
  | .raise e => simStep V ih c md κ (.raise e)
  | .unsupported u => simStep V ih c md κ (.unsupported u)
  | .finish e => simStep V ih c md κ (.finish e)
  | .rule tag k => inComp c (simStep V (free V 60 ih) c md κ (.rule tag k)) (simStep V ih c md κ (.rule tag k))
  | .«at» p k => simStep V ih c md κ (.«at» p k)
  | .load a p k => simStep V ih c md κ (.load a p k)
  | .update a p f k => simStep V ih c md κ (.update a p f k)
  | .alloc o k => simStep V ih c md κ (.alloc o k)
  | .loadIfAlive a k => simStep V ih c md κ (.loadIfAlive a k)
  | .point l k => simStep V ih c md κ (.point l k)
  | .register a k => simStep V ih c md κ (.register a k)
  | .fresh k => simStep V ih c md κ (.fresh k)
  | .ask k => simStep V ih c md κ (.ask k)
  | .choose s q k => simStep V ih c md κ (.choose s q k)
  | .os q l k => simStep V ih c md κ (.os q l k)
  | .call c' hd g l k => simStep V ih c md κ (.call c' hd g l k)
  | .handled o k => simStep V ih c md κ (.handled o k)
  | .newGen c' k => simStep V ih c md κ (.newGen c' k)
  | .genState g k => simStep V ih c md κ (.genState g k)
  | .resume g r l k => simStep V ih c md κ (.resume g r l k)
  | .yield v g l k => simStep V ih c md κ (.yield v g l k)
  | .stack k => simStep V ih c md κ (.stack k)
  | .fork c' k => simStep V ih c md κ (.fork c' k)
  | .thread k => simStep V ih c md κ (.thread k)
  | .await a t d l k => simStep V ih c md κ (.await a t d l k)
noncomputable def simK (V : XV) (n : Nat) : SimTy := Nat.rec (cut V) (fun _ ih => step2 V ih) n
def Sound (V : XV) (ih : SimTy) : Prop := ∀ c md κ t T m i ch gl h, ih c md κ t T m i ch gl → Rep V h T m ch → Means V c md κ t ⟨h, ⟨gl⟩, V.d, V.t₀ + i, V.os⟩
theorem inComp_or {c : Code} {a b : Rest} {T : BT} {m i : Nat} {ch : Ch} {gl : List GenState} (H : inComp c a b T m i ch gl) : a T m i ch gl ∨ b T m i ch gl := by
  cases c <;> first | exact .inr H | exact .inl H
theorem free_sound {V : XV} (O : V.Ok) : ∀ (n : Nat) {ih : SimTy}, Sound V ih → Sound V (free V n ih)
  | 0, _, IH => step_sound O _ IH
  | n + 1, ih, IH => by
    have a := step_sound O ih IH
    have b := step_sound O (free V n ih) (free_sound O n IH)
    intro c md κ t T m i ch gl h H D
    cases t with
    | pure fin => exact (inComp_or H).elim (fun H => a _ _ _ _ _ _ _ _ _ _ H D) (fun H => b _ _ _ _ _ _ _ _ _ _ H D)
    | _ => exact b _ _ _ _ _ _ _ _ _ _ H D
theorem step2_sound {V : XV} (O : V.Ok) {ih : SimTy} (IH : Sound V ih) : Sound V (step2 V ih) := by
  have a := step_sound O ih IH
  have b := step_sound O (free V 60 ih) (free_sound O 60 IH)
  intro c md κ t T m i ch gl h H D
  cases t with
  | rule tag k => exact (inComp_or H).elim (fun H => b _ _ _ _ _ _ _ _ _ _ H D) (fun H => a _ _ _ _ _ _ _ _ _ _ H D)
  | _ => exact a _ _ _ _ _ _ _ _ _ _ H D
theorem simK_sound {V : XV} (O : V.Ok) : ∀ n, Sound V (simK V n)
  | 0 => fun _ _ _ _ _ _ _ _ _ h H D => H h D
  | n + 1 => step2_sound O (simK_sound O n)
def freeStepZ (V : XV) (ih jh : SimTy) : SimTy := fun c md κ t => match t with
    | .pure fin => inComp c (PySem.W.ZFast.zw5333898031498750240 V ih c md κ (.pure fin)) (PySem.W.ZFast.zw5333898031498750240 V jh c md κ (.pure fin))
    | .raise e => PySem.W.ZFast.zw5333898031498750240 V jh c md κ (.raise e)
    | .unsupported u => PySem.W.ZFast.zw5333898031498750240 V jh c md κ (.unsupported u)
    | .finish e => PySem.W.ZFast.zw5333898031498750240 V jh c md κ (.finish e)
    | .rule tag k => PySem.W.ZFast.zw5333898031498750240 V jh c md κ (.rule tag k)
    | .«at» p k => PySem.W.ZFast.zw5333898031498750240 V jh c md κ (.«at» p k)
    | .load a p k => PySem.W.ZFast.zw5333898031498750240 V jh c md κ (.load a p k)
    | .update a p f k => PySem.W.ZFast.zw5333898031498750240 V jh c md κ (.update a p f k)
    | .alloc o k => PySem.W.ZFast.zw5333898031498750240 V jh c md κ (.alloc o k)
    | .loadIfAlive a k => PySem.W.ZFast.zw5333898031498750240 V jh c md κ (.loadIfAlive a k)
    | .point l k => PySem.W.ZFast.zw5333898031498750240 V jh c md κ (.point l k)
    | .register a k => PySem.W.ZFast.zw5333898031498750240 V jh c md κ (.register a k)
    | .fresh k => PySem.W.ZFast.zw5333898031498750240 V jh c md κ (.fresh k)
    | .ask k => PySem.W.ZFast.zw5333898031498750240 V jh c md κ (.ask k)
    | .choose s q k => PySem.W.ZFast.zw5333898031498750240 V jh c md κ (.choose s q k)
    | .os q l k => PySem.W.ZFast.zw5333898031498750240 V jh c md κ (.os q l k)
    | .call c' hd g l k => PySem.W.ZFast.zw5333898031498750240 V jh c md κ (.call c' hd g l k)
    | .handled o k => PySem.W.ZFast.zw5333898031498750240 V jh c md κ (.handled o k)
    | .newGen c' k => PySem.W.ZFast.zw5333898031498750240 V jh c md κ (.newGen c' k)
    | .genState g k => PySem.W.ZFast.zw5333898031498750240 V jh c md κ (.genState g k)
    | .resume g r l k => PySem.W.ZFast.zw5333898031498750240 V jh c md κ (.resume g r l k)
    | .yield v g l k => PySem.W.ZFast.zw5333898031498750240 V jh c md κ (.yield v g l k)
    | .stack k => PySem.W.ZFast.zw5333898031498750240 V jh c md κ (.stack k)
    | .fork c' k => PySem.W.ZFast.zw5333898031498750240 V jh c md κ (.fork c' k)
    | .thread k => PySem.W.ZFast.zw5333898031498750240 V jh c md κ (.thread k)
    | .await a t d l k => PySem.W.ZFast.zw5333898031498750240 V jh c md κ (.await a t d l k)
noncomputable def freeZ (V : XV) (n : Nat) (ih : SimTy) : SimTy := Nat.rec (PySem.W.ZFast.zw5333898031498750240 V ih) (fun _ jh => freeStepZ V ih jh) n
noncomputable def step2Z (V : XV) (ih : SimTy) : SimTy := fun c md κ t => match t with
  | .pure fin => PySem.W.ZFast.zw5333898031498750240 V ih c md κ (.pure fin)
  | .raise e => PySem.W.ZFast.zw5333898031498750240 V ih c md κ (.raise e)
  | .unsupported u => PySem.W.ZFast.zw5333898031498750240 V ih c md κ (.unsupported u)
  | .finish e => PySem.W.ZFast.zw5333898031498750240 V ih c md κ (.finish e)
  | .rule tag k => inComp c (PySem.W.ZFast.zw5333898031498750240 V (freeZ V 60 ih) c md κ (.rule tag k)) (PySem.W.ZFast.zw5333898031498750240 V ih c md κ (.rule tag k))
  | .«at» p k => PySem.W.ZFast.zw5333898031498750240 V ih c md κ (.«at» p k)
  | .load a p k => PySem.W.ZFast.zw5333898031498750240 V ih c md κ (.load a p k)
  | .update a p f k => PySem.W.ZFast.zw5333898031498750240 V ih c md κ (.update a p f k)
  | .alloc o k => PySem.W.ZFast.zw5333898031498750240 V ih c md κ (.alloc o k)
  | .loadIfAlive a k => PySem.W.ZFast.zw5333898031498750240 V ih c md κ (.loadIfAlive a k)
  | .point l k => PySem.W.ZFast.zw5333898031498750240 V ih c md κ (.point l k)
  | .register a k => PySem.W.ZFast.zw5333898031498750240 V ih c md κ (.register a k)
  | .fresh k => PySem.W.ZFast.zw5333898031498750240 V ih c md κ (.fresh k)
  | .ask k => PySem.W.ZFast.zw5333898031498750240 V ih c md κ (.ask k)
  | .choose s q k => PySem.W.ZFast.zw5333898031498750240 V ih c md κ (.choose s q k)
  | .os q l k => PySem.W.ZFast.zw5333898031498750240 V ih c md κ (.os q l k)
  | .call c' hd g l k => PySem.W.ZFast.zw5333898031498750240 V ih c md κ (.call c' hd g l k)
  | .handled o k => PySem.W.ZFast.zw5333898031498750240 V ih c md κ (.handled o k)
  | .newGen c' k => PySem.W.ZFast.zw5333898031498750240 V ih c md κ (.newGen c' k)
  | .genState g k => PySem.W.ZFast.zw5333898031498750240 V ih c md κ (.genState g k)
  | .resume g r l k => PySem.W.ZFast.zw5333898031498750240 V ih c md κ (.resume g r l k)
  | .yield v g l k => PySem.W.ZFast.zw5333898031498750240 V ih c md κ (.yield v g l k)
  | .stack k => PySem.W.ZFast.zw5333898031498750240 V ih c md κ (.stack k)
  | .fork c' k => PySem.W.ZFast.zw5333898031498750240 V ih c md κ (.fork c' k)
  | .thread k => PySem.W.ZFast.zw5333898031498750240 V ih c md κ (.thread k)
  | .await a t d l k => PySem.W.ZFast.zw5333898031498750240 V ih c md κ (.await a t d l k)
noncomputable def simZ (V : XV) (n : Nat) : SimTy := Nat.rec (cut V) (fun _ ih => step2Z V ih) n
theorem freeStepZ_eq : freeStepZ = freeStep := by
  funext V ih jh
  unfold freeStepZ freeStep
  rw [← PySem.W.ZFast.ze5333898031498750240]
theorem freeZ_eq : freeZ = free := by
  funext V n ih
  unfold freeZ free
  rw [← PySem.W.ZFast.ze5333898031498750240, freeStepZ_eq]
theorem step2Z_eq : step2Z = step2 := by
  funext V ih
  unfold step2Z step2
  rw [← PySem.W.ZFast.ze5333898031498750240, freeZ_eq]
theorem simZ_eq : simZ = simK := by
  unfold simZ simK
  rw [step2Z_eq]
def Sub : BT → BT → Prop
  | .nil, _ => True
  | .node o l r, .node o' l' r' => o = o' ∧ Sub l l' ∧ Sub r r'
  | .node .., .nil => False
theorem Sub.get : ∀ {T' T : BT}, Sub T' T → ∀ {i : Nat} {o : Obj}, T'.get i = some o → T.get i = some o
  | .nil, _, _, _, _, e => by cases e
  | .node .., .nil, s, _, _, _ => s.elim
  | .node o l r, .node o' l' r', s, i, x, e => by
    obtain ⟨rfl, sl, sr⟩ := s
    rw [BT.get_node] at e ⊢
    by_cases h0 : i = 0
    · rw [if_pos h0] at e ⊢; exact e
    · rw [if_neg h0] at e ⊢
      by_cases p : i % 2 = 1
      · rw [if_pos p] at e ⊢; exact sl.get e
      · rw [if_neg p] at e ⊢; exact sr.get e
theorem sub_nil (T : BT) : Sub .nil T := trivial
theorem sub_node (o : Obj) (l r l' r' : BT) (a : Sub l l') (b : Sub r r') : Sub (.node o l r) (.node o l' r') := ⟨rfl, a, b⟩
theorem prune {V : XV} {h : Heap} {T T' : BT} {m : Nat} {ch : Ch} (D : Rep V h T m ch) (s : Sub T' T) : Rep V h T' m ch :=
  ⟨D.size, fun i o e => D.own i o (s.get e), D.keep, D.ch⟩
def deadOf (T : BT) (k : Nat) : Obj := (T.get k).getD default
theorem cut_prune (V : XV) (c : Code) (md : Option (List Frame)) (κ : Kont) (t : Sem Fin) (T T' : BT) (m i : Nat) (ch : Ch) (gl : List GenState)
    (s : Sub T' T) (H : cut V c md κ t T' m i ch gl) : cut V c md κ t T m i ch gl := fun h D => H h (prune D s)
inductive Mask where
  | nil
  | dead (l r : Mask)
  | live (l r : Mask)
def maskT (d : Nat → Obj) : Mask → BT → Nat → Nat → BT
  | .nil, _, _, _ => .nil
  | .dead l r, .node _ tl tr, s, b => .node (d b) (maskT d l tl (2 * s) (s + b)) (maskT d r tr (2 * s) (2 * s + b))
  | .dead _ _, .nil, _, _ => .nil
  | .live l r, .node o tl tr, s, b => .node o (maskT d l tl (2 * s) (s + b)) (maskT d r tr (2 * s) (2 * s + b))
  | .live _ _, .nil, _, _ => .nil
theorem sub_mask (T0 : BT) : ∀ (M : Mask) (T : BT) (s b : Nat), (∀ j o, T.get j = some o → T0.get (s * j + b) = some o) → Sub (maskT (deadOf T0) M T s b) T
  | .nil, _, _, _, _ => trivial
  | .dead _ _, .nil, _, _, _ => trivial
  | .live _ _, .nil, _, _, _ => trivial
  | .dead l r, .node o tl tr, s, b, H => by
    refine ⟨?_, sub_mask T0 l tl _ _ (left H), sub_mask T0 r tr _ _ (right H)⟩
    have h := H 0 o (by rw [BT.get_node, if_pos rfl])
    rw [Nat.mul_zero, Nat.zero_add] at h
    unfold deadOf
    rw [h]
    rfl
  | .live l r, .node o tl tr, s, b, H => ⟨rfl, sub_mask T0 l tl _ _ (left H), sub_mask T0 r tr _ _ (right H)⟩
where
  left {T0 : BT} {o : Obj} {tl tr : BT} {s b : Nat} (H : ∀ j x, (BT.node o tl tr).get j = some x → T0.get (s * j + b) = some x) : ∀ j x, tl.get j = some x → T0.get (2 * s * j + (s + b)) = some x := fun j x e => by
    have h := H (2 * j + 1) x (by rw [BT.get_node, if_neg (by omega), if_pos (by omega)]; have : (2 * j + 1) / 2 = j := by omega
                                  rw [this]; exact e)
    have q : s * (2 * j + 1) + b = 2 * s * j + (s + b) := by rw [Nat.mul_add, Nat.mul_one, ← Nat.mul_assoc, Nat.mul_comm s 2]; omega
    rw [q] at h; exact h
  right {T0 : BT} {o : Obj} {tl tr : BT} {s b : Nat} (H : ∀ j x, (BT.node o tl tr).get j = some x → T0.get (s * j + b) = some x) : ∀ j x, tr.get j = some x → T0.get (2 * s * j + (2 * s + b)) = some x := fun j x e => by
    have h := H (2 * j + 2) x (by rw [BT.get_node, if_neg (by omega), if_neg (by omega)]; have : (2 * j + 2) / 2 - 1 = j := by omega
                                  rw [this]; exact e)
    have q : s * (2 * j + 2) + b = 2 * s * j + (2 * s + b) := by rw [Nat.mul_add, ← Nat.mul_assoc, Nat.mul_comm s 2]; omega
    rw [q] at h; exact h
theorem cut_mask (V : XV) (c : Code) (md : Option (List Frame)) (κ : Kont) (t : Sem PySem.Fin) (T : BT) (M : Mask) (m i : Nat) (ch : Ch) (gl : List GenState)
    (H : ∀ d : Nat → Obj, cut V c md κ t (maskT d M T 1 0) m i ch gl) : cut V c md κ t T m i ch gl :=
  cut_prune V c md κ t T _ m i ch gl (sub_mask T M T 1 0 fun j o e => by rw [Nat.one_mul, Nat.add_zero]; exact e) (H (deadOf T))
def Imp (a b : Prop) : Prop := a → b
theorem cut_sim (V : XV) (O : V.Ok) (n : Nat) (c : Code) (md : Option (List Frame)) (κ : Kont) (t : Sem Fin) (T : BT) (m i : Nat) (ch : Ch) (gl : List GenState)
    (H : simZ V n c md κ t T m i ch gl) : cut V c md κ t T m i ch gl := fun h D => simK_sound O n c md κ t T m i ch gl h (simZ_eq ▸ H) D
theorem at_cut (V : XV) (c : Code) (md : Option (List Frame)) (κ : Kont) (t : Sem Fin) (T : BT) (m i : Nat) (ch : Ch) (gl : List GenState)
    (H : cut V c md κ t T m i ch gl) : simZ V (Z.oFuel.1 0) c md κ t T m i ch gl := by
  have e : Z.oFuel.1 0 = 0 := by rw [Z.oFuel.2]; rfl
  rw [e]; exact H
section
variable (prog : Program) (w : World) (h₀ : Heap) (n₁ : Nat) (kt kt' : KT) (tabs : Ch) (A₀ : Around) (R₀ : Result → Shared → Prop) (d : Drawn) (t₀ : Nat) (os : OsState)
theorem around_kt : ∀ (b : Bool) (κ : Kont), aroundOf ⟨prog, w, h₀, n₁, kt', tabs, A₀, R₀, d, t₀, os⟩ b κ = aroundOf ⟨prog, w, h₀, n₁, kt, tabs, A₀, R₀, d, t₀, os⟩ b κ
  | true, .base => rfl
  | true, .ret c hd k κ => by
    show ((aroundOf _ true κ).under c).mark hd = ((aroundOf _ true κ).under c).mark hd
    rw [around_kt true κ]
  | true, .gen .. => rfl
  | true, .genS .. => rfl
  | false, .gen _ c _ κ => by
    show (aroundOf _ true κ).under c = (aroundOf _ true κ).under c
    rw [around_kt true κ]
  | false, .genS _ c fs _ κ => by
    show (aroundOf _ false κ).over c fs = (aroundOf _ false κ).over c fs
    rw [around_kt false κ]
  | false, .base => rfl
  | false, .ret .. => rfl
theorem end_kt : ∀ κ : Kont, endOf ⟨prog, w, h₀, n₁, kt', tabs, A₀, R₀, d, t₀, os⟩ κ = endOf ⟨prog, w, h₀, n₁, kt, tabs, A₀, R₀, d, t₀, os⟩ κ
  | .base => rfl
  | .ret c hd k κ => by
    show postR prog w (aroundOf _ true κ) c (postC prog w (aroundOf _ true κ) (endOf _ κ)) (postE (endOf _ κ)) k = postR prog w (aroundOf _ true κ) c (postC prog w (aroundOf _ true κ) (endOf _ κ)) (postE (endOf _ κ)) k
    rw [around_kt prog w h₀ n₁ kt kt' tabs A₀ R₀ d t₀ os true κ, end_kt κ]
  | .gen .. => rfl
  | .genS .. => rfl
theorem wake_kt : ∀ κ : Kont, wakeOf ⟨prog, w, h₀, n₁, kt', tabs, A₀, R₀, d, t₀, os⟩ κ = wakeOf ⟨prog, w, h₀, n₁, kt, tabs, A₀, R₀, d, t₀, os⟩ κ
  | .base => rfl
  | .ret c hd k κ => rfl
  | .gen g c k κ => by
    show postG prog w (aroundOf _ true κ) c (postC prog w (aroundOf _ true κ) (endOf _ κ)) (postE (endOf _ κ)) k g = postG prog w (aroundOf _ true κ) c (postC prog w (aroundOf _ true κ) (endOf _ κ)) (postE (endOf _ κ)) k g
    rw [around_kt prog w h₀ n₁ kt kt' tabs A₀ R₀ d t₀ os true κ, end_kt prog w h₀ n₁ kt kt' tabs A₀ R₀ d t₀ os κ]
  | .genS g c fs k κ => by
    show postGS prog w (aroundOf _ false κ) c fs (wakeOf _ κ) k g = postGS prog w (aroundOf _ false κ) c fs (wakeOf _ κ) k g
    rw [around_kt prog w h₀ n₁ kt kt' tabs A₀ R₀ d t₀ os false κ, wake_kt κ]
theorem means_kt (c : Code) (md : Option (List Frame)) (κ : Kont) (t : Sem PySem.Fin) (s : Shared) :
    Means ⟨prog, w, h₀, n₁, kt', tabs, A₀, R₀, d, t₀, os⟩ c md κ t s = Means ⟨prog, w, h₀, n₁, kt, tabs, A₀, R₀, d, t₀, os⟩ c md κ t s := by
  cases md with
  | none =>
    show wpOwn (model prog w) (aroundOf _ true κ) c t (postC prog w (aroundOf _ true κ) (endOf _ κ)) (postE (endOf _ κ)) s = wpOwn (model prog w) (aroundOf _ true κ) c t (postC prog w (aroundOf _ true κ) (endOf _ κ)) (postE (endOf _ κ)) s
    rw [around_kt prog w h₀ n₁ kt kt' tabs A₀ R₀ d t₀ os true κ, end_kt prog w h₀ n₁ kt kt' tabs A₀ R₀ d t₀ os κ]
  | some fs =>
    show SegX (model prog w) (aroundOf _ false κ) c t fs s (wakeOf _ κ) = SegX (model prog w) (aroundOf _ false κ) c t fs s (wakeOf _ κ)
    rw [around_kt prog w h₀ n₁ kt kt' tabs A₀ R₀ d t₀ os false κ, wake_kt prog w h₀ n₁ kt kt' tabs A₀ R₀ d t₀ os κ]
theorem cut_kt (c : Code) (md : Option (List Frame)) (κ : Kont) (t : Sem PySem.Fin) (T : BT) (m i : Nat) (ch : Ch) (gl : List GenState)
    (H : cut ⟨prog, w, h₀, n₁, kt', tabs, A₀, R₀, d, t₀, os⟩ c md κ t T m i ch gl) : cut ⟨prog, w, h₀, n₁, kt, tabs, A₀, R₀, d, t₀, os⟩ c md κ t T m i ch gl := fun h D => by
  rw [← means_kt prog w h₀ n₁ kt kt' tabs A₀ R₀ d t₀ os]
  exact H h ⟨D.size, D.own, D.keep, D.ch⟩
end
theorem three {vs : List Value} {ns : List Int} (h : IntsAre vs ns) : vs = [] ∨ (∃ n u, vs = [Value.int n u]) ∨ (∃ n u m v r, vs = Value.int n u :: Value.int m v :: r) := by
  cases h with
  | nil => exact .inl rfl
  | cons n u h => cases h with
    | nil => exact .inr (.inl ⟨_, _, rfl⟩)
    | cons m v h => exact .inr (.inr ⟨_, _, _, _, _, rfl⟩)
end
section
open PySem PySem.Spec PySem.Calls PyProof.Rows PySem.W PySem.W.X
theorem same2 (b : Bool) (F : Bool → Prop) (h : F false = F true) (x : F true) : F b := by
  cases b with
  | true => exact x
  | false => rw [h]; exact x
set_option genSizeOfSpec false in
set_option genInjectivity false in
structure Box where
  w : World
  s0 : Shared
  s1 : Shared
  ns : List Int
  i : Nat → Int
  t : Nat → Nat
  l : Nat → List Nat
  v : Nat → Value
  y : Nat → Str
def pick {α : Type} (z : α) (l : List α) (k : Nat) : α := match l, k with
  | [], _ => z
  | a :: _, 0 => a
  | _ :: r, k + 1 => pick z r k
end
section
open PySem PySem.Spec PySem.Calls PyProof.Rows PySem.W PySem.W.X
open PySem.Builtin PySem.Builtin.Str
theorem in1_of_in {A : Around} {Γ : PySem.Ctx} (h : Γ.In A) : Γ.In A.in1 := ⟨h.1, h.2.1, h.2.2.1, h.2.2.2.1, Nat.le_succ_of_le h.2.2.2.2⟩
theorem means_any {V : XV} {c : Code} {κ : Kont} {t : Sem PySem.Fin} {s : Shared}
    (h : wpAny (model V.prog V.w) ((aroundOf V true κ).under c) t (postC V.prog V.w (aroundOf V true κ) (endOf V κ)) (postE (endOf V κ)) s) : Means V c none κ t s := wpOwn_of_wpAny h
theorem cut_text (V : XV) (c c₁ : Code) (hd : Option Value) (k : Result → Sem PySem.Fin) (κ₁ : Kont) (t t' : Sem PySem.Fin) (z : Str) (T : BT) (m i : Nat) (ch : Ch) (gl : List GenState)
    (ht : t = t') (hz : z.length ≤ sizeLine) (ht' : t' = retStr z)
    (H : cut V c₁ none κ₁ (k (.ok (.ret (.str z (V.t₀ + i))))) T m (i + 1) ch gl) : cut V c none (.ret c₁ hd k κ₁) t T m i ch gl := by
  intro h D
  subst ht ht'
  refine means_any ?_
  refine wpAny_bind (wpAny_mkStr (wpAny_pure ?_) hz)
  show endOf V (.ret c₁ hd k κ₁) (.ok (.ret (.str z (V.t₀ + i)))) _
  exact H h D
theorem denote_builtin {id : String} {a : Args} {b : Builtin} (e : entryFor table id = some b) : denote table (.builtin id a) = b a := by
  show (match entryFor table id with | some b => b a | none => _) = _
  rw [e]
theorem add_tree (x y : Str) (t u : Tok) (hx : (x.length == 0) = false) (hy : (y.length == 0) = false) : denote table (.builtin "str.__add__" ⟨[.str x t, .str y u], []⟩) = retStr (x ++ y) := by
  rw [denote_builtin PyProof.Rows.entry_str_add]
  show (if (true && x.length == 0) = true then (do rule "str.__add__.left-empty"; return ← ret (← strUnchanged (.str y u) y)) else
    if (true && y.length == 0) = true then (do rule "str.__add__.right-empty"; return ← ret (← strUnchanged (.str x t) x)) else retStr (x ++ y)) = _
  rw [Bool.true_and, Bool.true_and, hx, hy]
  rfl
theorem entry_mul : entryFor table "str.__mul__" = some Builtin.«str.__mul__» := entryFor_of_tree (by kernel_rfl)
theorem foldl_rep (c : Nat) : ∀ (n : Nat) (acc : List Nat), ((List.replicate n (#[c] : Array Nat)).foldl (· ++ ·) (Array.mk acc)).toList = acc ++ List.replicate n c
  | 0, acc => by simp
  | n + 1, acc => by
    rw [List.replicate_succ, List.foldl_cons]
    have e : (Array.mk acc ++ (#[c] : Array Nat)) = Array.mk (acc ++ [c]) := by simp
    rw [e, foldl_rep c n (acc ++ [c]), List.append_assoc]
    rfl
theorem mul_tree (c : Nat) (n : Nat) (t u : Tok) (hn : 1 < n) (hm : n < 10000) : denote table (.builtin "str.__mul__" ⟨[.str ⟨#[c]⟩ t, .int (Int.ofNat n) u], []⟩) = retStr ⟨⟨List.replicate n c⟩⟩ := by
  rw [denote_builtin entry_mul]
  show (if (decide ((Int.ofNat n) < -(2 ^ 63 : Int)) || decide ((Int.ofNat n) ≥ 2 ^ 63)) = true then _ else
          if (Int.ofNat n) < 1 then (do rule s!"str.__mul__.none"; retStr Str.empty) else
          if ((Int.ofNat n) == 1 || (⟨#[c]⟩ : Str).length == 0) = true then (do rule s!"str.__mul__.unchanged"; ret (.str ⟨#[c]⟩ t)) else
          if (((⟨#[c]⟩ : Str).length : Nat) : Int) > (2 ^ 63 - 1) / (Int.ofNat n) then _ else
          if tooLong ((⟨#[c]⟩ : Str).length * (Int.ofNat n).toNat) = true then unsupported "str.__mul__:memory" else
          retStr ⟨(List.replicate (Int.ofNat n).toNat (#[c] : Array Nat)).foldl (· ++ ·) #[]⟩) = _
  have h1 : (decide ((Int.ofNat n) < -(2 ^ 63 : Int)) || decide ((Int.ofNat n) ≥ 2 ^ 63)) = false := by
    rw [Bool.or_eq_false_iff, decide_eq_false_iff_not, decide_eq_false_iff_not, Int.ofNat_eq_natCast]; omega
  have h2 : ¬ (Int.ofNat n) < 1 := by rw [Int.ofNat_eq_natCast]; omega
  have h3 : ((Int.ofNat n) == 1 || (⟨#[c]⟩ : Str).length == 0) = false := by
    have : ((Int.ofNat n) == 1) = false := by
      rw [beq_eq_false_iff_ne, Int.ofNat_eq_natCast]; omega
    rw [this]; rfl
  have h4 : ¬ (((⟨#[c]⟩ : Str).length : Nat) : Int) > (2 ^ 63 - 1) / (Int.ofNat n) := by
    show ¬ ((1 : Nat) : Int) > (2 ^ 63 - 1) / (Int.ofNat n)
    rw [Int.ofNat_eq_natCast]
    have : (1 : Int) ≤ (2 ^ 63 - 1) / (n : Int) := by
      rw [Int.le_ediv_iff_mul_le (by omega)]; omega
    omega
  have h5 : tooLong ((⟨#[c]⟩ : Str).length * (Int.ofNat n).toNat) = false := by
    show decide (1 * n > sizeLine) = false
    rw [decide_eq_false_iff_not, sizeLine_eq]; omega
  rw [if_neg (by rw [h1]; decide), if_neg h2, if_neg (by rw [h3]; decide), if_neg h4, if_neg (by rw [h5]; decide)]
  have e : ((List.replicate (Int.ofNat n).toNat (#[c] : Array Nat)).foldl (· ++ ·) #[]) = ⟨List.replicate n c⟩ := by
    apply Array.ext'
    show ((List.replicate n (#[c] : Array Nat)).foldl (· ++ ·) (Array.mk [])).toList = _
    rw [foldl_rep]
    rfl
  rw [e]
abbrev txt (l : List Nat) : Str := ⟨⟨l⟩⟩
theorem cat_txt (a b : List Nat) : txt a ++ txt b = txt (a ++ b) := by
  show Str.mk (Array.mk a ++ Array.mk b) = _
  simp [txt]
theorem app_inj (c : Nat) : ∀ (x y a b : List Nat), c ∉ x → c ∉ y → x ++ c :: a = y ++ c :: b → x = y ∧ a = b
  | [], [], a, b, _, _, e => ⟨rfl, (List.cons.inj e).2⟩
  | [], q :: y, a, b, _, hy, e => by
    have := (List.cons.inj e).1
    exact absurd (this ▸ List.mem_cons_self) hy
  | p :: x, [], a, b, hx, _, e => by
    have := (List.cons.inj e).1
    exact absurd (this ▸ List.mem_cons_self) hx
  | p :: x, q :: y, a, b, hx, hy, e => by
    obtain ⟨e1, e2⟩ := List.cons.inj e
    obtain ⟨f1, f2⟩ := app_inj c x y a b (fun h => hx (List.mem_cons_of_mem _ h)) (fun h => hy (List.mem_cons_of_mem _ h)) e2
    exact ⟨by rw [e1, f1], f2⟩
theorem join_cons2 (c : Nat) (x y : Str) (r : List Str) : (Str.join ⟨#[c]⟩ (x :: y :: r)).cps.toList = x.cps.toList ++ c :: (Str.join ⟨#[c]⟩ (y :: r)).cps.toList := by
  show ((x.cps ++ #[c]) ++ (Str.join ⟨#[c]⟩ (y :: r)).cps).toList = _
  simp
theorem join_inj (c : Nat) : ∀ (P Q : List Str), P ≠ [] → Q ≠ [] → (∀ p ∈ P, c ∉ p.cps.toList) → (∀ p ∈ Q, c ∉ p.cps.toList) → Str.join ⟨#[c]⟩ P = Str.join ⟨#[c]⟩ Q → P = Q
  | [], _, h, _, _, _, _ => absurd rfl h
  | _, [], _, h, _, _, _ => absurd rfl h
  | [x], [y], _, _, _, _, e => by
    have e' : x = y := e
    rw [e']
  | [x], y :: z :: r, _, _, hP, _, e => by
    have e' : x = Str.join ⟨#[c]⟩ (y :: z :: r) := e
    refine absurd ?_ (hP x List.mem_cons_self)
    rw [e', join_cons2]
    exact List.mem_append_right _ List.mem_cons_self
  | x :: w :: s, [y], _, _, _, hQ, e => by
    have e' : Str.join ⟨#[c]⟩ (x :: w :: s) = y := e
    refine absurd ?_ (hQ y List.mem_cons_self)
    rw [← e', join_cons2]
    exact List.mem_append_right _ List.mem_cons_self
  | x :: w :: s, y :: z :: r, _, _, hP, hQ, e => by
    have e' := congrArg (fun q : Str => q.cps.toList) e
    simp only [join_cons2] at e'
    obtain ⟨f1, f2⟩ := app_inj c _ _ _ _ (hP x List.mem_cons_self) (hQ y List.mem_cons_self) e'
    have fx : x = y := Str.ext' (Array.ext' f1)
    have fr : Str.join ⟨#[c]⟩ (w :: s) = Str.join ⟨#[c]⟩ (z :: r) := Str.ext' (Array.ext' f2)
    rw [fx, join_inj c (w :: s) (z :: r) (by simp) (by simp) (fun p hp => hP p (List.mem_cons_of_mem _ hp)) (fun p hp => hQ p (List.mem_cons_of_mem _ hp)) fr]
theorem split_ne (x y : Str) : Txt.split x y ≠ [] := by
  unfold Txt.split
  split
  · simp
  · split
    · simp
    · rw [StrLaws.partsBetween_eq]
      obtain ⟨p, r, e⟩ := StrLaws.partsFrom_ne x y.length 0 (occurrences x y 0 x.length (x.length + 1))
      rw [e]; simp
theorem split_join (c : Nat) (rows : List Str) (hne : rows ≠ []) (hf : ∀ p ∈ rows, c ∉ p.cps.toList) : Txt.split (Str.join ⟨#[c]⟩ rows) ⟨#[c]⟩ = rows :=
  join_inj c _ _ (split_ne _ _) hne (StrLaws.split_free _ c) hf (StrLaws.join_split _ _)
theorem entry_join : entryFor table "str.join" = some Builtin.«str.join» := entryFor_of_tree (by kernel_rfl)
theorem entry_split : entryFor table "str.split" = some Builtin.«str.split» := entryFor_of_tree (by kernel_rfl)
theorem joinRest_eq (sep : Str) (l : List (Str × Tok)) (hl : tooLong ((l.map (·.1)).toArray.foldl (· + ·.length + sep.length) 0) = false) : joinRest sep (strValues l) = retStr (glued sep (l.map (·.1))) := by
  unfold joinRest
  rw [join_loop]
  show (if tooLong ((#[] ++ (l.map fun (p : Str × Tok) => p.1).toArray).foldl (fun (n : Nat) (s : Str) => n + s.length + sep.length) 0) = true then _ else retStr (glued sep (#[] ++ (l.map fun (p : Str × Tok) => p.1).toArray).toList)) = _
  rw [Array.empty_append, hl]
  rfl
theorem joinTail_eq (sep : Str) : ∀ (l : List (Str × Tok)), 2 ≤ l.length → tooLong ((l.map (·.1)).toArray.foldl (· + ·.length + sep.length) 0) = false → joinTail sep (strValues l) = retStr (glued sep (l.map (·.1)))
  | [], h, _ => absurd h (by simp)
  | [_], h, _ => absurd h (by simp)
  | p :: q :: r, _, hl => by
    have e : joinTail sep (strValues (p :: q :: r)) = joinRest sep (strValues (p :: q :: r)) := rfl
    rw [e]
    exact joinRest_eq sep _ hl
set_option maxRecDepth 100000 in
theorem cut_join (V : XV) (O : V.Ok) (c c₁ : Code) (hd : Option Value) (k : Result → Sem PySem.Fin) (κ₁ : Kont) (t : Sem PySem.Fin) (T : BT) (m i : Nat) (ch : Ch) (gl : List GenState)
    (sep : Str) (u : Tok) (rows : List (Str × Tok)) (a j : Nat) (o : Obj) (z : Str)
    (ht : t = denote table (.builtin "str.join" ⟨[.str sep u, .ref a], []⟩)) (ha : V.n₁ + j = a) (ho : T.get j = some o) (hc : o.cls = .type "list") (hdt : ∃ n, o.data = .seq (strValues rows).toArray n)
    (h2 : 2 ≤ rows.length) (hl : tooLong ((rows.map (·.1)).toArray.foldl (· + ·.length + sep.length) 0) = false) (hz : glued sep (rows.map (·.1)) = z)
    (H : cut V c₁ none κ₁ (k (.ok (.ret (.str z (V.t₀ + i))))) T m (i + 1) ch gl) : cut V c none (.ret c₁ hd k κ₁) t T m i ch gl := by
  intro h D
  subst ha
  have ho' := (D.own j o ho).2
  obtain ⟨n, hdt⟩ := hdt
  refine means_any ?_
  rw [ht, denote_builtin entry_join]
  obtain ⟨other, htree⟩ := join_tree sep u (V.n₁ + j)
  rw [htree]
  have hL : h.IsList (V.n₁ + j) (strValues rows).toArray := ⟨o, ho', hc, n, hdt⟩
  refine wpAny_bind (wpAny_typeOf hL.typeIs ?_)
  show wpAny _ _ (do
      match ← seqItems? (.ref (V.n₁ + j)) with
      | some xs => joinTail sep xs.toList
      | none => unsupported "internal:str.join") _ _ _
  unfold seqItems?
  refine wpAny_bind (wpAny_bind (wpAny_load ho' ?_))
  rw [hdt]
  refine wpAny_pure ?_
  show wpAny _ _ (joinTail sep (strValues rows).toArray.toList) _ _ _
  rw [List.toList_toArray]
  have hz' : z.length ≤ sizeLine := hz ▸ joinFit_length hl
  have e : joinTail sep (strValues rows) = retStr z := hz ▸ joinTail_eq sep rows h2 hl
  rw [e]
  refine wpAny_bind (wpAny_mkStr (wpAny_pure ?_) hz')
  show endOf V (.ret c₁ hd k κ₁) (.ok (.ret (.str z (V.t₀ + i)))) _
  exact H h D
def strsAt (t : Nat) : Nat → List Str → List Value
  | _, [] => []
  | i, x :: r => .str x (t + i) :: strsAt t (i + 1) r
theorem strsAt_eq (t : Nat) : ∀ (i : Nat) (l : List Str), strsFrom (t + i) l = strsAt t i l
  | _, [] => rfl
  | i, x :: r => by
    show Value.str x (t + i) :: strsFrom (t + i + 1) r = Value.str x (t + i) :: strsAt t (i + 1) r
    rw [Nat.add_assoc, strsAt_eq t (i + 1) r]
set_option maxRecDepth 100000 in
theorem cut_split (V : XV) (O : V.Ok) (c c₁ : Code) (hd : Option Value) (k : Result → Sem PySem.Fin) (κ₁ : Kont) (t : Sem PySem.Fin) (T : BT) (m i : Nat) (ch : Ch) (gl : List GenState)
    (x : Str) (q : Nat) (u v : Tok) (parts : List Str)
    (ht : t = denote table (.builtin "str.split" ⟨[.str x u, .str ⟨#[q]⟩ v], []⟩)) (hx : x.length ≤ sizeLine) (hp : Txt.split x ⟨#[q]⟩ = parts) (h2 : 2 ≤ parts.length) (hn : parts.length ≤ sizeLine)
    (hg : ((T.ins m { cls := .type "list", data := .seq (strsAt V.t₀ i parts).toArray }).get m).isSome = true)
    (H : cut V c₁ none κ₁ (k (.ok (.ret (.ref (V.n₁ + m))))) (T.ins m { cls := .type "list", data := .seq (strsAt V.t₀ i parts).toArray }) (m + 1) (i + parts.length) ch gl) :
    cut V c none (.ret c₁ hd k κ₁) t T m i ch gl := by
  intro h D
  refine means_any ?_
  rw [ht, denote_builtin entry_split]
  obtain ⟨raising, htree⟩ := split_sep_tree x ⟨#[q]⟩ u v
  rw [htree]
  have hp' := hp
  unfold Txt.split at hp'
  split at hp'
  · rw [← hp'] at h2; exact absurd h2 (by simp)
  · rename_i h1
    split at hp'
    · rw [← hp'] at h2; exact absurd h2 (by simp)
    · rename_i hf
      rw [if_neg h1]
      show wpAny _ _ (if (true && (occurrences x ⟨#[q]⟩ 0 x.length (x.length + 1)).isEmpty) = true then _ else
        (do ret (← newList (← (partsBetween x (occurrences x ⟨#[q]⟩ 0 x.length (x.length + 1)) (⟨#[q]⟩ : Str).length).mapM mkStr)))) _ _ _
      rw [Bool.true_and, if_neg hf, hp']
      refine wpAny_bind (wpAny_mapM_mkStr _ _ _ (fun p hq => ?_) (wpAny_bind (wpAny_newList (wpAny_pure ?_) (by rw [strsFrom_length]; exact hn))))
      · rw [← hp'] at hq
        simp only [partsBetween, List.mem_map] at hq
        obtain ⟨⟨a, b⟩, _, rfl⟩ := hq
        exact Nat.le_trans (strSub_length_le ..) hx
      · show endOf V (.ret c₁ hd k κ₁) (.ok (.ret (.ref h.objs.size))) _
        have D' := D.alloc O (o := { cls := .type "list", data := .seq (strsAt V.t₀ i parts).toArray }) rfl hg
        have z := H _ D'
        rw [D.size]
        rw [← Nat.add_assoc] at z
        rw [strsAt_eq]
        exact z
noncomputable abbrev treeZ (c : Code) : Sem PySem.Fin := PySem.W.ZFast.zw11892475500146522536 PySem.W.ZFast.tableZ c
theorem treeZ_eq (c : Code) : treeZ c = denote table c := by
  show PySem.W.ZFast.zw11892475500146522536 PySem.W.ZFast.tableZ c = denote table c
  rw [← PySem.W.ZFast.ze11892475500146522536, ← PySem.W.ZFast.tableZ_eq]
theorem far_add {V : XV} {c₁ : Code} {hd : Option Value} {k : Result → Sem PySem.Fin} {κ₁ : Kont} {T : BT} {m i : Nat} {ch : Ch} {gl : List GenState} {id : String} {a b : List Nat} {u v : Tok}
    (hid : id = "str.__add__") (r : List Nat) (ha : (txt a).length ≠ 0) (hb : (txt b).length ≠ 0) (hr : a ++ b = r) (hl : r.length ≤ sizeLine)
    (H : cut V c₁ none κ₁ (k (.ok (.ret (.str (txt r) (V.t₀ + i))))) T m (i + 1) ch gl) :
    cut V (.builtin id ⟨[.str (txt a) u, .str (txt b) v], []⟩) none (.ret c₁ hd k κ₁) (treeZ (.builtin id ⟨[.str (txt a) u, .str (txt b) v], []⟩)) T m i ch gl := by
  subst hid hr
  refine cut_text V _ c₁ hd k κ₁ _ _ (txt (a ++ b)) T m i ch gl (treeZ_eq _) (by exact hl) ?_ H
  rw [add_tree _ _ _ _ (by rw [beq_eq_false_iff_ne]; exact ha) (by rw [beq_eq_false_iff_ne]; exact hb), cat_txt]
theorem far_mul {V : XV} {c₁ : Code} {hd : Option Value} {k : Result → Sem PySem.Fin} {κ₁ : Kont} {T : BT} {m i : Nat} {ch : Ch} {gl : List GenState} {id : String} {q n : Nat} {u v : Tok}
    (hid : id = "str.__mul__") (hn : 1 < n) (hm : n < 10000) (r : List Nat) (hr : List.replicate n q = r)
    (H : cut V c₁ none κ₁ (k (.ok (.ret (.str (txt r) (V.t₀ + i))))) T m (i + 1) ch gl) :
    cut V (.builtin id ⟨[.str (txt [q]) u, .int (Int.ofNat n) v], []⟩) none (.ret c₁ hd k κ₁) (treeZ (.builtin id ⟨[.str (txt [q]) u, .int (Int.ofNat n) v], []⟩)) T m i ch gl := by
  subst hid hr
  refine cut_text V _ c₁ hd k κ₁ _ _ (txt (List.replicate n q)) T m i ch gl (treeZ_eq _) ?_ ?_ H
  · show (List.replicate n q).length ≤ sizeLine
    rw [List.length_replicate, sizeLine_eq]; omega
  · exact mul_tree q n u v hn hm
theorem join_fits (sep : Str) (rows : List (Str × Tok)) (h : (rows.map (fun p => p.1.length)).sum + rows.length * sep.length ≤ 100000) : tooLong ((rows.map (·.1)).toArray.foldl (· + ·.length + sep.length) 0) = false := by
  rw [StrLaws.joinTotal]
  show decide (_ > sizeLine) = false
  rw [decide_eq_false_iff_not, sizeLine_eq, List.map_map, List.length_map]
  have e : (rows.map ((fun x : Str => x.length) ∘ fun (x : Str × Tok) => x.1)).sum = (rows.map (fun p => p.1.length)).sum := rfl
  omega
set_option maxRecDepth 100000 in
theorem far_join {V : XV} (O : V.Ok) {c₁ : Code} {hd : Option Value} {k : Result → Sem PySem.Fin} {κ₁ : Kont} {T : BT} {m i : Nat} {ch : Ch} {gl : List GenState} {id : String} {q : Nat} {u : Tok} {a : Nat}
    (hid : id = "str.join") (j : Nat) (rows : List (Str × Tok)) (n : Nat) (o : Obj) (ha : V.n₁ + j = a) (ho : T.get j = some o) (hc : o.cls = .type "list") (hdt : o.data = .seq (strValues rows).toArray n)
    (h2 : 2 ≤ rows.length) (hl : (rows.map (fun p => p.1.length)).sum + rows.length * 1 ≤ 100000) (z : Str) (hz : Str.join (txt [q]) (rows.map (·.1)) = z)
    (H : cut V c₁ none κ₁ (k (.ok (.ret (.str z (V.t₀ + i))))) T m (i + 1) ch gl) :
    cut V (.builtin id ⟨[.str (txt [q]) u, .ref a], []⟩) none (.ret c₁ hd k κ₁) (treeZ (.builtin id ⟨[.str (txt [q]) u, .ref a], []⟩)) T m i ch gl := by
  subst hid
  exact cut_join V O _ c₁ hd k κ₁ _ T m i ch gl (txt [q]) u rows a j o z (treeZ_eq _) ha ho hc ⟨n, hdt⟩ h2 (join_fits _ _ hl) (by rw [StrLaws.glued_eq_join]; exact hz) H
set_option maxRecDepth 100000 in
theorem far_split {V : XV} (O : V.Ok) {c₁ : Code} {hd : Option Value} {k : Result → Sem PySem.Fin} {κ₁ : Kont} {T : BT} {m i : Nat} {ch : Ch} {gl : List GenState} {id : String} {x : Str} {q : Nat} {u v : Tok}
    (hid : id = "str.split") (parts : List Str) (hx : x.length ≤ sizeLine) (hj : Str.join (txt [q]) parts = x) (hf : ∀ p ∈ parts, q ∉ p.cps.toList) (h2 : 2 ≤ parts.length) (hn : parts.length ≤ sizeLine)
    (hg : ((T.ins m { cls := .type "list", data := .seq (strsAt V.t₀ i parts).toArray }).get m).isSome = true)
    (H : cut V c₁ none κ₁ (k (.ok (.ret (.ref (V.n₁ + m))))) (T.ins m { cls := .type "list", data := .seq (strsAt V.t₀ i parts).toArray }) (m + 1) (i + parts.length) ch gl) :
    cut V (.builtin id ⟨[.str x u, .str (txt [q]) v], []⟩) none (.ret c₁ hd k κ₁) (treeZ (.builtin id ⟨[.str x u, .str (txt [q]) v], []⟩)) T m i ch gl := by
  subst hid
  refine cut_split V O _ c₁ hd k κ₁ _ T m i ch gl x q u v parts (treeZ_eq _) hx ?_ h2 hn hg H
  rw [← hj]
  exact split_join q parts (by intro e; rw [e] at h2; exact absurd h2 (by simp)) hf
end
section
open PySem PySem.Spec PySem.Calls PyProof.Rows PySem.W PySem.W.X
abbrev g0 : Str := txt [117, 110, 105, 116, 32, 34, 102, 34]
abbrev g1 : Str := txt [112, 97, 114, 97, 109, 115, 32, 34, 97, 34]
abbrev g4 : Str := txt [114, 111, 111, 109, 32, 49, 32, 48]
abbrev g6 : Str := txt [99, 111, 110, 115, 116, 32, 55]
def Four (x : Nat) (R S : List Nat) (ia : Int) (y4 y6 : Str) : Prop :=
  (ia = 4 ∧ (y4 = txt (114 :: 111 :: 111 :: 109 :: 32 :: 49 :: 32 :: 49 :: 48 :: R) ∨ y4 = txt (114 :: 111 :: 111 :: 109 :: 32 :: 49 :: 48 :: S)) ∧ y6 = g6) ∨
  (y4 = g4 ∧ ia = 6 ∧ (y6 = txt [99, 111, 110, 115, 116, 32, 34, x, 34] ∨ y6 = txt (99 :: 111 :: 110 :: 115 :: 116 :: 32 :: 49 :: 48 :: R)))
def Five (x : Nat) (R S : List Nat) (ia : Int) (y1 y4 y6 : Str) : Prop :=
  (ia = 1 ∧ y1 = txt [112, 97, 114, 97, 109, 115, 32, 34, x, 34, 32, 34, 98, 34] ∧ y4 = g4 ∧ y6 = g6) ∨ (y1 = g1 ∧ Four x R S ia y4 y6)
def Six (x : Nat) (R S : List Nat) (ia : Int) (y0 y1 y4 y6 : Str) : Prop :=
  (ia = 0 ∧ y0 = txt [117, 110, 105, 116, 32, 34, 102, x, 34] ∧ y1 = g1 ∧ y4 = g4 ∧ y6 = g6) ∨ (y0 = g0 ∧ Five x R S ia y1 y4 y6)
def Sign (x : Nat) : Prop := x = 127 ∨ x = 233 ∨ x = 128512 ∨ x = 9 ∨ x = 13
def Fine (y : Str) : Prop := y.length ≤ 5000 ∧ 10 ∉ y.cps.toList
theorem six_fine {x : Nat} {R S : List Nat} {ia : Int} {y0 y1 y4 y6 : Str} (hx : Sign x) (hR : R = List.replicate 4299 48) (hS : S = R ++ [32, 48]) (h : Six x R S ia y0 y1 y4 y6) : Fine y0 ∧ Fine y1 ∧ Fine y4 ∧ Fine y6 := by
  have x10 : (10 : Nat) ≠ x := by
    rcases hx with h | h | h | h | h <;> rw [h] <;> decide
  have fR : 10 ∉ R := by rw [hR]; intro q; exact absurd (List.eq_of_mem_replicate q) (by decide)
  have lR : R.length = 4299 := by rw [hR, List.length_replicate]
  have lS : S.length = 4301 := by rw [hS, List.length_append, lR]; rfl
  have fS : 10 ∉ S := by
    rw [hS]; intro q
    rcases List.mem_append.mp q with q | q
    · exact fR q
    · exact absurd q (by decide)
  have e0 : Fine g0 := ⟨by decide, by decide⟩
  have e1 : Fine g1 := ⟨by decide, by decide⟩
  have e4 : Fine g4 := ⟨by decide, by decide⟩
  have e6 : Fine g6 := ⟨by decide, by decide⟩
  have far : ∀ (l m : List Nat), l.length ≤ 100 → m.length ≤ 4400 → 10 ∉ l → 10 ∉ m → Fine (txt (l ++ m)) := fun l m a b c d =>
    ⟨by show (l ++ m).length ≤ 5000; rw [List.length_append]; omega, fun q => (List.mem_append.mp q).elim c d⟩
  have sx : ∀ (l m : List Nat), l.length ≤ 100 → m.length ≤ 100 → 10 ∉ l → 10 ∉ m → Fine (txt (l ++ x :: m)) := fun l m a b c d =>
    ⟨by show (l ++ x :: m).length ≤ 5000; rw [List.length_append, List.length_cons]; omega, fun q => (List.mem_append.mp q).elim c fun q => (List.mem_cons.mp q).elim x10 d⟩
  rcases h with ⟨_, rfl, rfl, rfl, rfl⟩ | ⟨rfl, h⟩
  · exact ⟨sx [117, 110, 105, 116, 32, 34, 102] [34] (by decide) (by decide) (by decide) (by decide), e1, e4, e6⟩
  · rcases h with ⟨_, rfl, rfl, rfl⟩ | ⟨rfl, h⟩
    · exact ⟨e0, sx [112, 97, 114, 97, 109, 115, 32, 34] [34, 32, 34, 98, 34] (by decide) (by decide) (by decide) (by decide), e4, e6⟩
    · rcases h with ⟨_, rfl | rfl, rfl⟩ | ⟨rfl, _, rfl | rfl⟩
      · exact ⟨e0, e1, far [114, 111, 111, 109, 32, 49, 32, 49, 48] R (by decide) (by omega) (by decide) fR, e6⟩
      · exact ⟨e0, e1, far [114, 111, 111, 109, 32, 49, 48] S (by decide) (by omega) (by decide) fS, e6⟩
      · exact ⟨e0, e1, e4, sx [99, 111, 110, 115, 116, 32, 34] [34] (by decide) (by decide) (by decide) (by decide)⟩
      · exact ⟨e0, e1, e4, far [99, 111, 110, 115, 116, 32, 49, 48] R (by decide) (by omega) (by decide) fR⟩
end
section
open PySem PySem.Spec PySem.Calls PyProof.Rows PySem.W PySem.W.X
theorem withS {P : Prop} (R : List Nat) (h : ∀ S : List Nat, S = R ++ [32, 48] → P) : P := h _ rfl
theorem withFar {P : Prop} (h : ∀ R : List Nat, R = List.replicate 4299 48 → R.length = 4299 → List.replicate 4300 48 = 48 :: R → P) : P :=
  h _ rfl List.length_replicate List.replicate_succ
end
section
open PySem PySem.Spec PySem.Calls PyProof.Rows PySem.W PySem.W.X
set_option maxRecDepth 100000 in
theorem far_joinZ {V : XV} (O : V.Ok) {c₁ : Code} {hd : Option Value} {k : Result → Sem PySem.Fin} {κ₁ : Kont} {T : BT} {m i : Nat} {ch : Ch} {gl : List GenState} {id : String} {q : Nat} {u : Tok} {a : Nat}
    (hid : id = "str.join") (j : Nat) (rows : List (Str × Tok)) (n : Nat) (o : Obj) (ha : V.n₁ + j = a) (ho : T.get j = some o) (hc : o.cls = .type "list") (hdt : o.data = .seq (strValues rows).toArray n)
    (h2 : 2 ≤ rows.length) (h3 : rows.length ≤ 15) (hF : ∀ p ∈ rows.map (·.1), Fine p)
    (H : ∀ z : Str, z.length ≤ sizeLine → Str.join (txt [q]) (rows.map (·.1)) = z → cut V c₁ none κ₁ (k (.ok (.ret (.str z (V.t₀ + i))))) T m (i + 1) ch gl) :
    cut V (.builtin id ⟨[.str (txt [q]) u, .ref a], []⟩) none (.ret c₁ hd k κ₁) (treeZ (.builtin id ⟨[.str (txt [q]) u, .ref a], []⟩)) T m i ch gl := by
  have hl : (rows.map (fun p => p.1.length)).sum + rows.length * 1 ≤ 100000 := by
    have e : (rows.map (fun p => p.1.length)) = ((rows.map (·.1)).map (·.length)) := by rw [List.map_map]; rfl
    have h := StrLaws.sumLen_le (rows.map (·.1)) (fun y hy => (hF y hy).1)
    rw [e]
    rw [List.length_map] at h
    have h4 : rows.length * 5000 ≤ 15 * 5000 := Nat.mul_le_mul_right _ h3
    omega
  refine far_join O hid j rows n o ha ho hc hdt h2 hl _ rfl (H _ ?_ rfl)
  have h : (PySem.Builtin.Str.glued (txt [q]) (rows.map (·.1))).length ≤ sizeLine := joinFit_length (join_fits (txt [q]) rows hl)
  rw [StrLaws.glued_eq_join] at h
  exact h
def rowsOf (y0 y1 y4 y6 : Str) : List Str := [y0, y1, txt [112, 108, 97, 99, 101, 115, 32, 108, 111, 99, 97, 108, 48], txt [111, 119, 110, 32, 110, 111, 110, 101, 32, 110, 111, 110, 101], y4,
  txt [99, 97, 112, 116, 117, 114, 101, 115], y6, txt [48, 32, 48, 32, 85, 78, 68, 69, 70], txt [49, 32, 48, 32, 82, 69, 84], txt [101, 110, 100]]
theorem fine_cons {a : Str} {l : List Str} (h : Fine a) (t : ∀ p ∈ l, Fine p) : ∀ p ∈ a :: l, Fine p := fun p hp => (List.mem_cons.mp hp).elim (fun e => e ▸ h) (t p)
theorem fine_rows {x : Nat} {R S : List Nat} {ia : Int} {y0 y1 y4 y6 : Str} (hx : Sign x) (hR : R = List.replicate 4299 48) (hS : S = R ++ [32, 48]) (H : Six x R S ia y0 y1 y4 y6) : ∀ p ∈ rowsOf y0 y1 y4 y6, Fine p := by
  obtain ⟨f0, f1, f4, f6⟩ := six_fine hx hR hS H
  exact fine_cons f0 (fine_cons f1 (fine_cons ⟨by decide, by decide⟩ (fine_cons ⟨by decide, by decide⟩ (fine_cons f4 (fine_cons ⟨by decide, by decide⟩ (fine_cons f6 (fine_cons ⟨by decide, by decide⟩ (fine_cons ⟨by decide, by decide⟩ (fine_cons ⟨by decide, by decide⟩ (fun _ h => nomatch h))))))))))
theorem withRows {P : Prop} {x : Nat} {R S : List Nat} {ia : Int} {y0 y1 y4 y6 : Str} (hx : Sign x) (hR : R = List.replicate 4299 48) (hS : S = R ++ [32, 48]) (H : Six x R S ia y0 y1 y4 y6)
    (h : (∀ p ∈ rowsOf y0 y1 y4 y6, Fine p) → P) : P := h (fine_rows hx hR hS H)
theorem six_cases {P : Int → Str → Str → Str → Str → Prop} {x : Nat} {R S : List Nat} {ia : Int} {y0 y1 y4 y6 : Str} (H : Six x R S ia y0 y1 y4 y6)
    (a : P (Int.ofNat 0) (txt [117, 110, 105, 116, 32, 34, 102, x, 34]) g1 g4 g6) (b : ∀ (ia : Int) (y1 y4 y6 : Str), Five x R S ia y1 y4 y6 → P ia g0 y1 y4 y6) : P ia y0 y1 y4 y6 := by
  rcases H with ⟨rfl, rfl, rfl, rfl, rfl⟩ | ⟨rfl, H⟩
  · exact a
  · exact b _ _ _ _ H
theorem five_cases {P : Int → Str → Str → Str → Prop} {x : Nat} {R S : List Nat} {ia : Int} {y1 y4 y6 : Str} (H : Five x R S ia y1 y4 y6)
    (a : P (Int.ofNat 1) (txt [112, 97, 114, 97, 109, 115, 32, 34, x, 34, 32, 34, 98, 34]) g4 g6) (b : ∀ (ia : Int) (y4 y6 : Str), Four x R S ia y4 y6 → P ia g1 y4 y6) : P ia y1 y4 y6 := by
  rcases H with ⟨rfl, rfl, rfl, rfl⟩ | ⟨rfl, H⟩
  · exact a
  · exact b _ _ _ H
def Two (x : Nat) (R : List Nat) (y6 : Str) : Prop := y6 = txt [99, 111, 110, 115, 116, 32, 34, x, 34] ∨ y6 = txt (99 :: 111 :: 110 :: 115 :: 116 :: 32 :: 49 :: 48 :: R)
theorem four_cases {P : Int → Str → Str → Prop} {x : Nat} {R S : List Nat} {ia : Int} {y4 y6 : Str} (H : Four x R S ia y4 y6)
    (a : P (Int.ofNat 4) (txt (114 :: 111 :: 111 :: 109 :: 32 :: 49 :: 32 :: 49 :: 48 :: R)) g6) (b : P (Int.ofNat 4) (txt (114 :: 111 :: 111 :: 109 :: 32 :: 49 :: 48 :: S)) g6)
    (c : ∀ y6 : Str, Two x R y6 → P (Int.ofNat 6) g4 y6) : P ia y4 y6 := by
  rcases H with ⟨rfl, rfl | rfl, rfl⟩ | ⟨rfl, rfl, H⟩
  · exact a
  · exact b
  · exact c _ H
theorem two_cases {P : Str → Prop} {x : Nat} {R : List Nat} {y6 : Str} (H : Two x R y6)
    (a : P (txt [99, 111, 110, 115, 116, 32, 34, x, 34])) (b : P (txt (99 :: 111 :: 110 :: 115 :: 116 :: 32 :: 49 :: 48 :: R))) : P y6 := by
  rcases H with rfl | rfl
  · exact a
  · exact b
theorem s92 (x : Nat) (hx : Sign x) (P : Prop) (h : x = 92) : P := by rcases hx with rfl | rfl | rfl | rfl | rfl <;> cases h
theorem s34 (x : Nat) (hx : Sign x) (P : Prop) (h : x = 34) : P := by rcases hx with rfl | rfl | rfl | rfl | rfl <;> cases h
theorem smid (x : Nat) (hx : Sign x) (P : Prop) (h1 : (32 : Int) < (x : Int)) (h2 : (x : Int) < 127) : P := by
  have h3 : 32 < x := by omega
  have h4 : x < 127 := by omega
  rcases hx with rfl | rfl | rfl | rfl | rfl
  · exact absurd h4 (by decide)
  · exact absurd h4 (by decide)
  · exact absurd h4 (by decide)
  · exact absurd h3 (by decide)
  · exact absurd h3 (by decide)
theorem s63 (R : List Nat) (hlen : R.length = 4299) (P : Prop) (h : (2 ^ 63 : Int) ≤ ((txt (49 :: 48 :: R)).length : Int)) : P := by
  have e : (txt (49 :: 48 :: R)).length = 4301 := by show (49 :: 48 :: R).length = 4301; rw [List.length_cons, List.length_cons, hlen]
  rw [e] at h
  exact absurd h (by decide)
theorem s4300 (R : List Nat) (hlen : R.length = 4299) (P : Prop) (h : ¬ (4300 : Int) < ((txt (49 :: 48 :: R)).length : Int)) : P := by
  have e : (txt (49 :: 48 :: R)).length = 4301 := by show (49 :: 48 :: R).length = 4301; rw [List.length_cons, List.length_cons, hlen]
  rw [e] at h
  exact absurd (by decide) h
theorem le15 {n : Nat} (h : Nat.ble n 15 = true) : n ≤ sizeLine := Nat.le_trans (Nat.le_of_ble_eq_true h) (by rw [sizeLine_eq]; decide)
theorem fineAt {l : List Str} (F : ∀ p ∈ l, Fine p) : ∀ p ∈ l, 10 ∉ p.cps.toList := fun p hp => (F p hp).2
section
variable {x : Nat} {R S : List Nat}
theorem hf0 (hx : Sign x) : ∀ p ∈ [txt [117, 110, 105, 116], txt [34, 102, x, 34]], 32 ∉ p.cps.toList := by rcases hx with rfl | rfl | rfl | rfl | rfl <;> decide
theorem hf1 (hx : Sign x) : ∀ p ∈ [txt [112, 97, 114, 97, 109, 115], txt [34, x, 34], txt [34, 98, 34]], 32 ∉ p.cps.toList := by rcases hx with rfl | rfl | rfl | rfl | rfl <;> decide
theorem hf6 (hx : Sign x) : ∀ p ∈ [txt [99, 111, 110, 115, 116], txt [34, x, 34]], 32 ∉ p.cps.toList := by rcases hx with rfl | rfl | rfl | rfl | rfl <;> decide
theorem no32 (hR : R = List.replicate 4299 48) : 32 ∉ 49 :: 48 :: R := by
  rw [hR]; intro q
  rcases List.mem_cons.mp q with q | q
  · exact absurd q (by decide)
  · rcases List.mem_cons.mp q with q | q
    · exact absurd q (by decide)
    · exact absurd (List.eq_of_mem_replicate q) (by decide)
theorem hf_cons {c : Nat} {a : Str} {l : List Str} (h : c ∉ a.cps.toList) (t : ∀ p ∈ l, c ∉ p.cps.toList) : ∀ p ∈ a :: l, c ∉ p.cps.toList := fun p hp => (List.mem_cons.mp hp).elim (fun e => e ▸ h) (t p)
theorem hf4 (hR : R = List.replicate 4299 48) : ∀ p ∈ [txt [114, 111, 111, 109], txt [49], txt (49 :: 48 :: R)], 32 ∉ p.cps.toList :=
  hf_cons (by decide) (hf_cons (by decide) (hf_cons (no32 hR) (fun _ h => nomatch h)))
theorem hf4b (hR : R = List.replicate 4299 48) : ∀ p ∈ [txt [114, 111, 111, 109], txt (49 :: 48 :: R), txt [48]], 32 ∉ p.cps.toList :=
  hf_cons (by decide) (hf_cons (no32 hR) (hf_cons (by decide) (fun _ h => nomatch h)))
theorem hf6b (hR : R = List.replicate 4299 48) : ∀ p ∈ [txt [99, 111, 110, 115, 116], txt (49 :: 48 :: R)], 32 ∉ p.cps.toList :=
  hf_cons (by decide) (hf_cons (no32 hR) (fun _ h => nomatch h))
theorem hj4b (hS : S = R ++ [32, 48]) : Str.join (txt [32]) [txt [114, 111, 111, 109], txt (49 :: 48 :: R), txt [48]] = txt (114 :: 111 :: 111 :: 109 :: 32 :: 49 :: 48 :: S) := by
  apply Str.ext'
  apply Array.ext'
  rw [show txt [32] = ⟨#[32]⟩ from rfl, join_cons2, join_cons2, hS]
  simp [Str.join, txt]
theorem hj4 (R : List Nat) : Str.join (txt [32]) [txt [114, 111, 111, 109], txt [49], txt (49 :: 48 :: R)] = txt (114 :: 111 :: 111 :: 109 :: 32 :: 49 :: 32 :: 49 :: 48 :: R) := by
  apply Str.ext'
  apply Array.ext'
  rw [show txt [32] = ⟨#[32]⟩ from rfl, join_cons2, join_cons2]
  simp [Str.join, txt]
theorem hj6b (R : List Nat) : Str.join (txt [32]) [txt [99, 111, 110, 115, 116], txt (49 :: 48 :: R)] = txt (99 :: 111 :: 110 :: 115 :: 116 :: 32 :: 49 :: 48 :: R) := by
  apply Str.ext'
  apply Array.ext'
  rw [show txt [32] = ⟨#[32]⟩ from rfl, join_cons2]
  simp [Str.join, txt]
theorem withLen {P : Prop} (hR : R = List.replicate 4299 48) (h : R.length = 4299 → P) : P := h (by rw [hR, List.length_replicate])
theorem leFar {l : List Nat} {n : Nat} (hlen : R.length = 4299) (h : Nat.ble n 20 = true) (e : l.length = R.length + n := by rfl) : (txt l).length ≤ sizeLine := by
  show l.length ≤ sizeLine
  rw [e, hlen, sizeLine_eq]
  have := Nat.le_of_ble_eq_true h
  omega
theorem leFarS (hlen : R.length = 4299) (hS : S = R ++ [32, 48]) : (txt (114 :: 111 :: 111 :: 109 :: 32 :: 49 :: 48 :: S)).length ≤ sizeLine := by
  show (114 :: 111 :: 111 :: 109 :: 32 :: 49 :: 48 :: S).length ≤ sizeLine
  rw [hS, sizeLine_eq]
  simp only [List.length_cons, List.length_append, hlen, List.length_nil]
  decide
end
end
def fixN {α β : Type} (n : Nat) (d : α → β) (f : (α → β) → α → β) (a : α) : β := match n with
  | 0 => d a
  | n + 1 => f (fun b => fixN n d f b) a
open PySem PySem.W PySem.W.X PyProof.Rows
open Lean Meta Elab Tactic
open PySem.W.XRun PySem.W.ZRun
set_option maxRecDepth 100000 in
set_option maxHeartbeats 0 in
theorem main : PySem.Challenge.rw_rg0178_01.Holds := by
  set_option hygiene false in
  set_option tactic.hygienic false in
  run_tac do
    let isTe : (n : Name) → Bool := fun n => match n with
      | .str p s => p == `PySem.W.Fast && s.startsWith "te" && !(s.drop 2).isEmpty && (s.drop 2).all Char.isDigit
      | _ => false
    let compact : (t : TacticM Unit) → TacticM Unit := fun t => do
      let env0 ← getEnv
      let g0 ← getMainGoal
      t
      let env1 ← getEnv
      let old : NameSet := env0.constants.map₂.toList.foldl (fun s (n, _) => s.insert n) {}
      let mut news : NameMap ConstantInfo := {}
      for (n, c) in env1.constants.map₂.toList do
        unless old.contains n do news := news.insert n c
      let mut roots : Array Name := (← instantiateMVars (mkMVar g0)).getUsedConstants
      for (_, e) in (← getMCtx).eAssignment.toList do roots := roots ++ e.getUsedConstants
      for g in ← getGoals do roots := roots ++ (← instantiateMVars (← g.getType)).getUsedConstants
      for z in ← PySem.W.ZRun.zTop.get do roots := roots ++ #[z.K, z.T, z.eq, z.keys] ++ (z.objs.map (·.2)).toArray
      let mut done : NameSet := {}
      let mut order : Array ConstantInfo := #[]
      let mut stack : List (Name × Bool) := roots.toList.map fun n => (n, false)
      for _ in [0:1000000] do
        match stack with
        | [] => break
        | (n, ready) :: r =>
          stack := r
          if done.contains n then continue
          let some c := news.find? n | continue
          if ready then
            done := done.insert n
            order := order.push c
          else
            let us := (c.type.getUsedConstants ++ (if isTe n then #[] else match c.value? (allowOpaque := true) with | some v => v.getUsedConstants | none => #[])).toList
            stack := (us.filter fun u => news.contains u && !done.contains u).map (fun u => (u, false)) ++ ((n, true) :: stack)
      setEnv env0
      for c in order do
        match c with
        | .defnInfo d => withOptions (Elab.async.set · false) (addDecl (.defnDecl d))
        | .thmInfo d =>
          let short := match d.type.eq? with | some (ty, _, r) => if isTe d.name then some (mkApp2 (mkConst ``Eq.refl d.type.getAppFn.constLevels!) ty r) else none | none => none
          withOptions (Elab.async.set · false) (addDecl (.thmDecl { d with value := short.getD d.value }))
        | _ => throwError "compact: {c.name}"
    let semRecOf : (c : Name) → MetaM (Option (Array Lean.Expr)) := fun c => do
      let some (.defnInfo d) := (← getEnv).find? c | return none
      let mut e := d.value
      for _ in [0:8] do
        match e with
        | .lam _ _ b _ => e := b
        | _ => pure ()
      if e.getAppFn.isConstOf ``Sem.rec then return some e.getAppArgs else return none
    let kVal : (env : Environment) → (e : Lean.Expr) → Lean.Expr := fun env e => match e with
      | .const n _ => if (`Mine.K).isPrefixOf n then (match env.find? n with | some (.defnInfo d) => d.value | _ => e) else e
      | _ => e
    let unEta : (e : Lean.Expr) → Lean.Expr := fun e => match e with
      | .lam _ _ (.app f' (.bvar 0)) _ => if f'.hasLooseBVar 0 then e else f'.lowerLooseBVars 1 1
      | _ => e
    let refoldAt : (P : Environment × Array Lean.Expr × Array Lean.Expr) → (y : Lean.Expr) → Option (Lean.Expr × Array Lean.Expr) := fun P y => Id.run do
      let k := y.getAppNumArgs
      unless k == 29 || k == 34 do return none
      let a := y.getAppArgs
      let F := Lean.Expr.const `zNoF []
      if k == 34 then
        if let .lam _ _ b _ := a[2]! then
          let b := (b.headBeta).headBeta
          if b.isAppOfArity ``PySem.W.ZFast.zw5333898031498750240 6 then
            let z := b.getAppArgs
            if (List.range 5).all (fun j => !z[j]!.hasLooseBVar 0) then
              return some (mkConst ``step2Z, ((List.range 5).toArray.map fun j => z[j]!.lowerLooseBVars 1 1) ++ #[a[28]!] ++ a.extract 29 34)
        return none
      let .lam _ _ mb _ := kVal P.1 a[1]! | return none
      unless mb.isAppOfArity ``Sem 1 && !mb.hasLooseBVar 0 do return none
      let α := a[0]!
      let β := mb.appArg!.lowerLooseBVars 1 1
      let x := a[28]!
      let min (j : Nat) : Lean.Expr := kVal P.1 a[j + 2]!
      let as (p : Array Lean.Expr) (vs : Array Lean.Expr) (j : Nat) : Bool := p[j + 2]!.instantiateRev vs == min j
      let others := (List.range 24).map (· + 2)
      let plain := others.all (as P.2.1 #[α, β, x, F])
      let raises := as P.2.1 #[α, β, x, F] 1
      if raises && plain then return some (mkConst ``PySem.W.R.bindR, #[α, β, x, unEta (min 0)])
      unless α == β do return none
      if plain then
        if let .lam nm ty b bi := min 1 then
          if b.isAppOfArity ``PySem.W.R.bindR 4 then return some (mkConst ``PySem.W.R.onRaiseR, #[α, x, unEta (.lam nm ty b.getAppArgs[2]! bi)])
      let pures := as P.2.2 #[α, x, F] 0
      if pures && others.all (as P.2.2 #[α, x, F]) then return some (mkConst ``PySem.W.R.catchR, #[α, x, unEta (min 1)])
      if pures && raises then
        if let .lam _ _ (.lam _ _ (.lam _ _ b _) _) _ := min 10 then
          if b.isAppOfArity ``Sem.point 3 then
            let l := b.getAppArgs[1]!
            if l.isAppOfArity ``HAppend.hAppend 6 then
              let vs := l.getAppArgs[4]!
              unless (List.range 3).any (fun j => vs.hasLooseBVar j) do return some (mkConst ``PySem.W.R.keepR, #[α, vs.lowerLooseBVars 3 3, x])
      return none
    let refoldM : (Environment × Array Lean.Expr × Array Lean.Expr) → Lean.Expr → StateM (Std.HashMap Lean.Expr Lean.Expr) Lean.Expr := fun P e =>
      fixN 100000 (fun e => pure e) (fun (self : Lean.Expr → StateM (Std.HashMap Lean.Expr Lean.Expr) Lean.Expr) e => do
        match e with
        | .bvar .. | .fvar .. | .mvar .. | .sort .. | .const .. | .lit .. => return e
        | _ =>
          if let some r := (← get).get? e then return r
          let r ← (match e with
            | .app .. => do
              let f := e.getAppFn
              let hit := if f.isConstOf ``Sem.rec then refoldAt P e else none
              match hit with
              | some (c, as) => return mkAppN c (← as.mapM self)
              | none => return mkAppN (← self f) (← e.getAppArgs.mapM self)
            | .lam _ d b _ => return e.updateLambdaE! (← self d) (← self b)
            | .forallE _ d b _ => return e.updateForallE! (← self d) (← self b)
            | .letE _ t v b _ => return e.updateLetE! (← self t) (← self v) (← self b)
            | .mdata _ b => return e.updateMData! (← self b)
            | .proj _ _ b => return e.updateProj! (← self b)
            | e => return e : StateM (Std.HashMap Lean.Expr Lean.Expr) Lean.Expr)
          modify (·.insert e r)
          return r) e
    let refold : (e : Lean.Expr) → MetaM Lean.Expr := fun e => do
      let some bR ← semRecOf ``PySem.W.R.bindR | return e
      let some cR ← semRecOf ``PySem.W.R.catchR | return e
      return ((refoldM (← getEnv, bR, cR) e).run {}).1
    let bigger : (cap : Nat) → (e : Lean.Expr) → Bool := fun cap e => Id.run do
      let mut seen : Std.HashSet Lean.Expr := {}
      let mut todo := [e]
      for _ in [0:20 * cap] do
        match todo with
        | [] => return false
        | x :: r =>
          todo := r
          if seen.contains x then continue
          seen := seen.insert x
          if seen.size ≥ cap then return true
          match x with
          | .app f a => todo := f :: a :: todo
          | .lam _ t b _ => todo := t :: b :: todo
          | .forallE _ t b _ => todo := t :: b :: todo
          | .letE _ t v b _ => todo := t :: v :: b :: todo
          | .mdata _ b => todo := b :: todo
          | .proj _ _ b => todo := b :: todo
          | _ => pure ()
      return true
    let foldHeads : List Name := [``BT.node, ``PySem.Obj.mk, ``PySem.Env.mk, ``Kont.ret, ``Code.call, ``Code.func, ``Code.builtin, ``Code.body, ``Code.block, ``Code.expr, ``Code.forLoop, ``Code.whileLoop, ``Code.compLoop, ``Code.compStart, ``Code.handlers,
      ``PySem.Data.dict, ``PySem.Data.seq, ``List.cons, ``Array.mk, ``PySem.W.R.bindR, ``PySem.W.R.onRaiseR, ``PySem.W.R.keepR, ``PySem.W.R.catchR, ``PySem.W.R.mapR, ``Bind.bind, ``XV.mk, ``PySem.DictEntry.mk, ``Prod.mk, ``PySem.Args.mk, ``condFn, ``HAppend.hAppend, ``PySem.Value.str, ``Option.some]
    let rankOf : (C : NameSet × Option FVarId × Nat) → (x : FVarId) → MetaM (Option Nat) := fun C x => do
      let dT ← instantiateMVars (← x.getDecl).type
      if dT.hasFVar || dT.hasExprMVar then return none
      if dT.isConstOf ``Box then return some 0
      if some x == C.2.1 then return some 1
      if dT.isArrow then return some 2
      if (← isProp dT) then return none
      return some 5
    let foldOne : (C : NameSet × Option FVarId × Nat) → (e : Lean.Expr) → MetaM (Option Lean.Expr) := fun C e => do
      let (_, s) ← (e.collectFVars).run {}
      let mut xs : Array (Nat × Nat × FVarId) := #[]
      for x in s.fvarIds do
        let some r ← rankOf C x | return none
        xs := xs.push (r, (← x.getDecl).index, x)
      let ys := (xs.qsort fun a b => a.1 > b.1 || (a.1 == b.1 && a.2.1 < b.2.1)).map fun a => Lean.Expr.fvar a.2.2
      let ty ← inferType e
      if ty.hasFVar || ty.hasExprMVar then return none
      let mut v := e.abstract ys
      let mut t := ty
      for y in ys.reverse do
        let dT ← instantiateMVars (← y.fvarId!.getDecl).type
        v := .lam `a dT v .default
        t := .forallE `a dT t .default
      let nm := (`Mine.K).str ("l" ++ toString v.hash)
      match (← getEnv).find? nm with
      | some (.defnInfo d) => if d.value == v then return some (mkAppN (mkConst nm) ys) else return none
      | some _ => return none
      | none =>
        addDecl (.defnDecl { name := nm, levelParams := [], type := t, value := v, hints := .abbrev, safety := .safe })
        PySem.W.ZFast.primed.modify (·.insert nm none)
        return some (mkAppN (mkConst nm) ys)
    let foldLM : (NameSet × Option FVarId × Nat) → Lean.Expr → StateT (Std.HashMap Lean.Expr Lean.Expr) MetaM Lean.Expr := fun C e =>
      fixN 100000 (fun e => pure e) (fun (self : Lean.Expr → StateT (Std.HashMap Lean.Expr Lean.Expr) MetaM Lean.Expr) e => do
        unless e.hasFVar do return e
        match e with
        | .bvar .. | .fvar .. | .mvar .. | .sort .. | .const .. | .lit .. => return e
        | _ =>
          if let some r := (← get).get? e then return r
          let r ← (do
            if !e.hasLooseBVars && e.isApp then
              if let .const h _ := e.getAppFn then
                if C.1.contains h && bigger C.2.2 e then
                  if let some r ← foldOne C e then return r
            match e with
            | .app .. => return mkAppN (← self e.getAppFn) (← e.getAppArgs.mapM self)
            | .lam _ d b _ => return e.updateLambdaE! (← self d) (← self b)
            | .forallE _ d b _ => return e.updateForallE! (← self d) (← self b)
            | .letE _ t v b _ => return e.updateLetE! (← self t) (← self v) (← self b)
            | .mdata _ b => return e.updateMData! (← self b)
            | .proj _ _ b => return e.updateProj! (← self b)
            | e => return e : StateT (Std.HashMap Lean.Expr Lean.Expr) MetaM Lean.Expr)
          modify (·.insert e r)
          return r) e
    let foldL : (cap : Nat) → (V : Lean.Expr) → (e : Lean.Expr) → MetaM Lean.Expr := fun cap V e => do
      let s1 := match V.getAppArgs[9]? with
        | some t => (t.find? (·.isFVar)).map (·.fvarId!)
        | none => none
      -- what stands within much else comes first
      let C : NameSet × Option FVarId × Nat := ([``XV.mk, ``PySem.Env.mk, ``PySem.newFunctionEnv.match_3].foldl (fun s n => s.insert n) {}, s1, if cap > 10000 then cap else 20)
      let e ← (foldLM C e).run' {}
      let C : NameSet × Option FVarId × Nat := (foldHeads.foldl (fun s n => s.insert n) {}, s1, cap)
      (foldLM C e).run' {}
    let foldD : (NameSet × Option FVarId × Nat) → Lean.Expr → StateT (Std.HashMap Lean.Expr Lean.Expr) MetaM Lean.Expr := fun C e =>
      fixN 100000 (fun e => pure e) (fun (self : Lean.Expr → StateT (Std.HashMap Lean.Expr Lean.Expr) MetaM Lean.Expr) e => do
        match e with
        | .bvar .. | .fvar .. | .mvar .. | .sort .. | .const .. | .lit .. => return e
        | _ =>
          if let some r := (← get).get? e then return r
          let r ← (do
            if e.hasFVar && e.isApp then
              if let .const h _ := e.getAppFn then
                if C.1.contains h && bigger C.2.2 e then
                  if let some r ← foldOne C e then return r
            match e with
            | .app .. => return mkAppN (← self e.getAppFn) (← e.getAppArgs.mapM self)
            | .lam n t b bi =>
              let t ← self t
              withLocalDecl n bi t fun x => do mkLambdaFVars #[x] (← self (b.instantiate1 x))
            | .forallE n t b bi =>
              let t ← self t
              withLocalDecl n bi t fun x => do mkForallFVars #[x] (← self (b.instantiate1 x))
            | .letE n t v b _ =>
              let t ← self t
              let v ← self v
              withLetDecl n t v fun x => do mkLetFVars #[x] (← self (b.instantiate1 x))
            | .mdata _ b => return e.updateMData! (← self b)
            | .proj _ _ b => return e.updateProj! (← self b)
            | e => return e : StateT (Std.HashMap Lean.Expr Lean.Expr) MetaM Lean.Expr)
          modify (·.insert e r)
          return r) e
    let tidy : Lean.Expr → MetaM Lean.Expr := fun e => do
      let e ← (foldD ([``XV.mk, ``PySem.Env.mk, ``PySem.newFunctionEnv.match_3].foldl (fun s n => s.insert n) {}, none, 20) e).run' {}
      (foldD (foldHeads.foldl (fun s n => s.insert n) {}, none, 40) e).run' {}
    let slotsOf : (V : Lean.Expr) → MetaM (Array (FVarId × Nat × Nat)) := fun V => do
      let s1 := match V.getAppArgs[9]? with
        | some t => (t.find? (·.isFVar)).map (·.fvarId!)
        | none => none
      let ws := (V.getAppArgs[1]!.find? (·.isFVar)).map (·.fvarId!)
      let mut out := #[]
      let mut cnt : Array Nat := #[0, 0, 0, 0, 0, 0, 0, 0, 0]
      for d in ← getLCtx do
        if d.isImplementationDetail || d.isLet then continue
        let x := d.fvarId
        let ty ← instantiateMVars d.type
        let k? : Option Nat :=
          if ty.isConstOf ``World then (if some x == ws then some 0 else none)
          else if ty.isConstOf ``PySem.Shared then (if some x == s1 then some 2 else some 1)
          else if ty.isConstOf ``Int then some 4
          else if ty.isConstOf ``Nat || ty.isConstOf ``PySem.Tok then some 5
          else if ty.isConstOf ``PySem.Value then some 7
          else if ty.isConstOf ``PySem.Str then some 8
          else if ty.isAppOfArity ``List 1 && ty.appArg!.isConstOf ``Int then some 3
          else if ty.isAppOfArity ``List 1 && ty.appArg!.isConstOf ``Nat then some 6
          else none
        if let some k := k? then
          if k < 4 && cnt[k]! > 0 then continue
          out := out.push (x, k, cnt[k]!)
          cnt := cnt.set! k (cnt[k]! + 1)
      return out
    let slotE : (p : Lean.Expr) → (k : Nat) → (j : Nat) → Lean.Expr := fun p k j => if k < 4 then .proj ``Box k p else .app (.proj ``Box k p) (mkRawNatLit j)
    let boxE : (slots : Array (FVarId × Nat × Nat)) → MetaM (Option Lean.Expr) := fun slots => do
      let at_ (k : Nat) : Option Lean.Expr := (slots.find? (·.2.1 == k)).map fun a => .fvar a.1
      let list (k : Nat) (ty z : Lean.Expr) : Lean.Expr :=
        let l := (slots.filter (·.2.1 == k)).foldr (fun a r => mkApp3 (mkConst ``List.cons [0]) ty (.fvar a.1) r) (mkApp (mkConst ``List.nil [0]) ty)
        mkApp3 (mkConst ``pick) ty z l
      let nat := mkConst ``Nat
      let lnat := mkApp (mkConst ``List [0]) nat
      let some w := at_ 0 | return none
      let some s1 := at_ 2 | return none
      let s0 := (at_ 1).getD s1
      let ns := (at_ 3).getD (mkApp (mkConst ``List.nil [0]) (mkConst ``Int))
      return some (mkAppN (mkConst ``Box.mk) #[w, s0, s1, ns, list 4 (mkConst ``Int) (mkApp (mkConst ``Int.ofNat) (mkRawNatLit 0)), list 5 nat (mkRawNatLit 0),
        list 6 lnat (mkApp (mkConst ``List.nil [0]) nat), list 7 (mkConst ``PySem.Value) (mkConst ``PySem.Value.none),
        list 8 (mkConst ``PySem.Str) (mkApp (mkConst ``PySem.Str.mk) (mkApp2 (mkConst ``Array.mk [0]) nat (mkApp (mkConst ``List.nil [0]) nat)))])
    let squeeze : Nat → Lean.Expr → MetaM Lean.Expr := fun fuel e =>
      fixN fuel (fun e => pure e) (fun (self : Lean.Expr → MetaM Lean.Expr) e => do
        match e with
        | .lam _ t _ _ =>
          if t.isConstOf ``PySem.Pos then
            -- fun p below l => ..
            lambdaBoundedTelescope e 3 fun xs body => do
              if xs.size < 3 then return e
              let dep (y : Lean.Expr) : Bool := (y.find? fun z => z.isFVar && xs.contains z).isSome
              -- take the steps that speak of the stack
              let mut parts : Array (Lean.Expr × Array Lean.Expr) := #[]
              let mut cur := body
              for _ in [0:12] do
                if !dep cur then break
                let f := cur.getAppFn
                unless f.isConstOf ``Z.g_bool || f.isConstOf ``Z.g_num do break
                let a := cur.getAppArgs
                parts := parts.push (f, a.pop)
                cur := a.back!
              if dep cur || parts.isEmpty then return e
              let (f, a) := parts.back!
              -- the goal that is left: F y
              let (F, y) := if f.isConstOf ``Z.g_bool then (a[3]!, a[1]!) else (a[4]!, a[2]!)
              let Q := mkApp F y
              if dep Q then return e
              let rest ← self cur
              let inner ← withLocalDeclD `r Q fun r => do
                let mut v := r
                for (f, a) in parts.reverse do v := mkAppN f (a.push v)
                mkLambdaFVars #[r] (← mkLambdaFVars xs v)
              return mkApp inner rest
          else return e
        | _ =>
          let f := e.getAppFn
          if f.isConstOf ``PySem.W.ZRun.g_same && e.getAppNumArgs == 6 then
            let a := e.getAppArgs
            let Ft := mkApp a[1]! (mkConst ``Bool.true)
            let h := mkApp2 (mkConst ``Eq.refl [1]) (mkSort .zero) Ft
            return mkApp4 (mkConst ``same2) a[0]! a[1]! h (← self a[5]!)
          if f.isConstOf ``Z.g_bool || f.isConstOf ``Z.g_num || f.isConstOf ``Z.g_true || f.isConstOf ``Z.g_false then
            let a := e.getAppArgs
            return mkAppN f (a.pop.push (← self a.back!))
          return e) e
    let note : String → IO Unit := fun _ => pure ()
    let upTo : (r : Nat) → (x : Lean.Expr) → Lean.Expr := fun r x => (List.range r).foldl (fun x _ => mkApp (mkConst ``Nat.succ) x) x
    let fuelE : (k : Nat) → Lean.Expr := fun k => mkApp (.proj ``Subtype 0 (mkConst ``Z.oFuel)) (mkRawNatLit k)
    let isFuel : (y : Lean.Expr) → Bool := fun y => match y with
      | .app (.proj _ _ (.const n _)) (.lit _) => n == ``Z.oFuel
      | _ => false
    let auxOver : (ty : Lean.Expr) → (val : Lean.Expr) → MetaM Lean.Expr := fun ty val => do
      let (_, s) ← (ty.collectFVars).run {}
      let (_, s) ← (val.collectFVars).run s
      let s ← s.addDependencies
      let ids ← sortFVarIds s.fvarIds
      let xs := ids.map Lean.Expr.fvar
      let nm ← withOptions (Elab.async.set · false) (do mkAuxLemma [] (← mkForallFVars xs ty) (← mkLambdaFVars xs val) (cache := false))
      return mkAppN (mkConst nm) xs
    let setup : TacticM Unit := withMainContext do
      let g ← getMainGoal
      let T := (← instantiateMVars (← g.getType)).consumeMData
      unless T.isAppOfArity ``PySem.wpAny 7 do throwError "setup: another goal"
      let a := T.getAppArgs
      let M ← whnfCore a[1]!
      unless M.isAppOfArity ``PySem.model 2 do throwError "setup: the model"
      let (prog, w) := (M.getAppArgs[0]!, M.getAppArgs[1]!)
      let (al, A, Q, E, S) := (a[0]!, a[2]!, a[4]!, a[5]!, a[6]!)
      let S' ← whnfCore S
      let parts ← if S'.isAppOfArity ``Shared.mk 5 then pure S'.getAppArgs else [``Shared.heap, ``Shared.gens, ``Shared.drawn, ``Shared.toks, ``Shared.os].toArray.mapM fun n => mkAppM n #[S]
      let h0 := parts[0]!
      let mut ZH? := none
      let mut hs? := none
      let mut hg? := none
      for d in ← getLCtx do
        if d.isImplementationDetail then continue
        let t ← instantiateMVars d.type
        if t.isAppOfArity ``KT.Holds 4 then ZH? := some d.toExpr
        if let some (_, l, r) := t.eq? then
          if l.isAppOfArity ``Array.size 2 && l.appArg!.isAppOfArity ``Heap.objs 1 && l.appArg!.appArg! == h0 then hs? := some (d.toExpr, r)
          if l == parts[1]! then hg? := some (d.toExpr, r)
      let (some ZH, some (hs, sz), some (hg, gE)) := (ZH?, hs?, hg?) | throwError "setup: the heap's facts"
      let .lit (.natVal n1) ← kw sz | throwError "setup: the heap's size"
      let ZT ← instantiateMVars (← inferType ZH)
      let kt0 := ZT.appArg!
      let some z := (← zTop.get).find? fun z => kt0.getAppFn.isConstOf z.T | throwError "setup: no head"
      let pw := mkApp (mkConst ``World.params) w
      let oTy := mkConst ``Obj
      let someO (o : Lean.Expr) := mkApp2 (mkConst ``Option.some [0]) oTy o
      let mut kt := kt0
      let mut H := ZH
      let (ktA, HA) := (kt0, ZH)
      for (x, o, e) in ← oldsOf h0 do
        let .lit (.natVal _) ← kw x | continue
        let o' ← nObj o
        H := mkAppN (mkConst ``KT.Holds.put) #[h0, o', mkRawNatLit 40, kt, mkRawNatLit 1, mkRawNatLit 0, x, H, ← mkExpectedTypeHint e (← mkEq (mkApp2 (mkConst ``Heap.get?) h0 (← mkAppM ``HAdd.hAdd #[← mkAppM ``HMul.hMul #[mkRawNatLit 1, x], mkRawNatLit 0])) (someO o'))]
        kt := mkAppN (mkConst ``KT.put) #[mkRawNatLit 40, kt, x, o']
      let vT := mkConst ``Value
      let aT := mkApp (mkConst ``Array [0]) vT
      let pT := mkApp2 (mkConst ``Prod [0, 0]) (mkConst ``Nat) aT
      let mut tabs := mkApp (mkConst ``List.nil [0]) pT
      let mut TO := mkConst ``True.intro
      let mut rows := #[]
      for (Q', c) in z.tabs do
        let some (_, oc) := z.objs.find? (·.1 == c) | continue
        let some (_, oQ) := z.objs.find? (·.1 == Q') | continue
        let (ocE, oQE) := (mkApp (mkConst oc) pw, mkApp (mkConst oQ) pw)
        let (dc, dQ) := (← kw (mkApp (mkConst ``Obj.data) ocE), ← kw (mkApp (mkConst ``Obj.data) oQE))
        unless dc.isAppOfArity ``Data.fields 1 && dQ.isAppOfArity ``Data.fields 1 do continue
        let (vs, ps) := (dc.appArg!, dQ.appArg!)
        let hv := rflAt (mkApp (mkConst ``Option [0]) vT) (mkApp2 (mkConst ``Option.some [0]) vT (mkApp (mkConst ``Value.ref) (mkRawNatLit Q')))
        let oOT := mkApp (mkConst ``Option [0]) oTy
        let pf := mkAppN (mkConst ``table_kt) #[h0, ktA, HA, mkRawNatLit c, mkRawNatLit Q', ocE, vs, ps, rflAt oOT (someO ocE), rflAt oTy ocE, hv, rflAt oOT (someO (mkApp (mkConst ``tableObj) ps))]
        rows := rows.push (mkRawNatLit Q', ps, pf)
      for (q, ps, pf) in rows.toList.reverse do
        let row := mkApp4 (mkConst ``Prod.mk [0, 0]) (mkConst ``Nat) aT q ps
        let ex ← inferType pf
        TO := mkApp4 (mkConst ``And.intro) ex (mkApp2 (mkConst ``TabsOk) h0 tabs) pf TO
        tabs := mkApp3 (mkConst ``List.cons [0]) pT row tabs
      let chT ← mkAppM ``List #[pT]
      tabs ← mkAuxDefinition (← mkAuxDeclName `tabs) chT tabs (compile := false)
      let t ← kw a[3]!
      unless t.isAppOfArity ``Sem.call 6 do throwError "setup: no call"
      let ta := t.getAppArgs
      let c ← kw ta[1]!
      let hd ← kw ta[2]!
      let kk := ta[5]!
      let A' := mkApp2 (mkConst ``PySem.Around.mark) A hd
      let R := mkAppN (mkConst ``postA) #[al, prog, w, A, Q, E, kk]
      let VE (kt : Lean.Expr) := mkAppN (mkConst ``XV.mk) #[prog, w, h0, mkRawNatLit n1, kt, tabs, A', R, parts[2]!, parts[3]!, parts[4]!]
      let OE (kt H : Lean.Expr) : MetaM Lean.Expr := mkExpectedTypeHint (mkAppN (mkConst ``XV.Ok.mk) #[VE kt, hs, H, mkAppN (mkConst ``tabs_ok) #[h0, tabs, TO]]) (mkApp (mkConst ``XV.Ok) (VE kt))
      let V := VE kt0
      let O ← auxOver (mkApp (mkConst ``XV.Ok) V) (← OE kt0 ZH)
      let OS ← auxOver (mkApp (mkConst ``XV.Ok) (VE kt)) (← OE kt H)
      let noneF := mkApp (mkConst ``Option.none [0]) (mkApp (mkConst ``List [0]) (mkConst ``Frame))
      let nilB := mkConst ``BT.nil
      let nilC := mkApp (mkConst ``List.nil [0]) pT
      let nilG := mkApp (mkConst ``List.nil [0]) (mkConst ``GenState)
      let tree := mkApp2 (mkConst ``denote) (mkConst ``table) c
      let cfg := #[c, noneF, mkConst ``Kont.base, tree, nilB, mkRawNatLit 0, mkRawNatLit 0, nilC, nilG]
      let m ← mkFreshExprSyntheticOpaqueMVar (mkAppN (mkConst ``cut) (#[V] ++ cfg))
      let D0 := mkAppN (mkConst ``Rep.start) #[V, O]
      let X := mkApp2 m h0 D0
      let fin := mkConst ``PySem.Fin
      let Q2 := mkApp4 (mkConst ``postC) prog w A' R
      let E2 := mkApp (mkConst ``postE) R
      let X2 := mkAppN (mkConst ``y_gens) #[fin, prog, w, A', c, Q2, E2, h0, parts[1]!, gE, parts[2]!, parts[3]!, parts[4]!, tree, hg, X]
      let nb := mkApp2 (mkConst ``Option.some [0]) (mkConst ``Value) (mkConst ``byPass)
      let ne ← mkFreshExprSyntheticOpaqueMVar (← mkAppM ``Ne #[hd, nb])
      let gs ← Tactic.run ne.mvarId! (do evalTactic (← `(tactic| first | (intro h; cases h) | simp [byPass] | decide)))
      unless gs.isEmpty do throwError "setup: the call's mark"
      g.assign (mkAppN (mkConst ``y_start) #[al, prog, w, A, Q, E, S, c, hd, ta[3]!, ta[4]!, kk, ne, mkAppN (mkConst ``y_code) #[prog, w, A', R, S, c, X2]])
      -- the trees by their quick twins
      let (cfg', back) ← (do
        match ← ZFast.quick tree with
        | some (e, h) => pure (cfg.set! 3 e, some h)
        | none => pure (cfg, none) : TacticM (Array Lean.Expr × Option Lean.Expr))
      let gT := mkAppN (mkConst ``cut) (#[V] ++ cfg')
      let m2 ← mkFreshExprSyntheticOpaqueMVar gT
      match back with
      | some h =>
        let lam ← withLocalDeclD `x (← inferType tree) fun x => mkLambdaFVars #[x] (mkAppN (mkConst ``cut) (#[V] ++ cfg.set! 3 x))
        m.mvarId!.assign (← mkAppM ``Eq.mpr #[← mkCongrArg lam h, m2])
      | none => m.mvarId!.assign m2
      let g2 ← m2.mvarId!.assert `hO (mkApp (mkConst ``XV.Ok) V) O
      let (_, g2) ← g2.intro1P
      let g2 ← g2.withContext do g2.assert `hS (mkApp (mkConst ``XV.Ok) (VE kt)) OS
      let (_, g2) ← g2.intro1P
      replaceMainGoal [g2]
    let nodesOf : Lean.Expr → Nat → Nat → Array (Nat × Lean.Expr) → Array (Nat × Lean.Expr) := fun e s b acc =>
      fixN 200 (fun a => a.2.2.2) (fun (self : Lean.Expr × Nat × Nat × Array (Nat × Lean.Expr) → Array (Nat × Lean.Expr)) a => match a with
        | (.app (.app (.app (.const _ _) o) l) r, s, b, acc) => self (r, 2 * s, 2 * s + b, self (l, 2 * s, s + b, acc.push (b, o)))
        | (_, _, _, acc) => acc) (e, s, b, acc)
    let litsIn : Nat → Nat → Lean.Expr → StateM (Std.HashSet Lean.Expr × Std.HashSet Nat) Unit := fun lo hi e =>
      fixN 100000 (fun _ => pure ()) (fun (self : Lean.Expr → StateM (Std.HashSet Lean.Expr × Std.HashSet Nat) Unit) e => do
        match e with
        | .lit (.natVal n) => if lo ≤ n && n < hi then modify fun (a, b) => (a, b.insert (n - lo))
        | .app f x =>
          if (← get).1.contains e then return
          modify fun (a, b) => (a.insert e, b)
          self f; self x
        | .lam _ t x _ =>
          if (← get).1.contains e then return
          modify fun (a, b) => (a.insert e, b)
          self t; self x
        | .forallE _ t x _ => self t; self x
        | .letE _ t v x _ => self t; self v; self x
        | .mdata _ x => self x
        | .proj _ _ x => self x
        | _ => return) e
    let pathTo : (i : Nat) → List Nat := fun i => Id.run do
      let mut (j, s, b) := (i, 1, 0)
      let mut out := []
      for _ in [0:40] do
        out := b :: out
        if j == 0 then break
        if j % 2 == 1 then
          b := b + s; s := 2 * s; j := j / 2
        else
          b := b + 2 * s; s := 2 * s; j := j / 2 - 1
      return out
    let keepT : Std.HashSet Nat → Std.HashSet Nat → Lean.Expr → Lean.Expr → Nat → Nat → Lean.Expr := fun keep live dead e s b =>
      fixN 200 (fun _ => mkConst ``BT.nil) (fun (self : Lean.Expr × Nat × Nat → Lean.Expr) a => match a with
        | (.app (.app (.app (.const n us) o) l) r, s, b) =>
          if keep.contains b then .app (.app (.app (.const n us) (if live.contains b then o else mkApp dead (mkRawNatLit b))) (self (l, 2 * s, s + b))) (self (r, 2 * s, 2 * s + b))
          else mkConst ``BT.nil
        | _ => mkConst ``BT.nil) (e, s, b)
    let keepMask : Std.HashSet Nat → Std.HashSet Nat → Lean.Expr → Nat → Nat → Lean.Expr := fun keep live e s b =>
      fixN 200 (fun _ => mkConst ``Mask.nil) (fun (self : Lean.Expr × Nat × Nat → Lean.Expr) a => match a with
        | (.app (.app (.app (.const _ _) _) l) r, s, b) =>
          if keep.contains b then mkApp2 (mkConst (if live.contains b then ``Mask.live else ``Mask.dead)) (self (l, 2 * s, s + b)) (self (r, 2 * s, 2 * s + b))
          else mkConst ``Mask.nil
        | _ => mkConst ``Mask.nil) (e, s, b)
    let natLitO : (e : Lean.Expr) → Option Nat := fun e => match e with | .lit (.natVal n) => some n | _ => none
    let textE : (s : Lean.Expr) → MetaM (Option Lean.Expr) := fun s => do
      let s' ← kw s
      unless s'.isAppOfArity ``PySem.Str.mk 1 do return none
      let a ← kw s'.appArg!
      unless a.isAppOfArity ``Array.mk 2 do return none
      let mut l := a.appArg!
      let mut out : Array Lean.Expr := #[]
      let mut tail := mkApp (mkConst ``List.nil [0]) (mkConst ``Nat)
      for _ in [0:3000] do
        l ← kw l
        if l.isAppOfArity ``List.cons 3 then
          out := out.push (← kw l.getAppArgs[1]!)
          l := l.getAppArgs[2]!
        else
          unless l.isAppOfArity ``List.nil 1 do
            unless l.isFVar do return none
            tail := l
          break
      let nat := mkConst ``Nat
      let l' := out.foldr (fun n r => mkApp3 (mkConst ``List.cons [0]) nat n r) tail
      return some (mkApp (mkConst ``PySem.Str.mk) (mkApp2 (mkConst ``Array.mk [0]) nat l'))
    let textDone : (s : Lean.Expr) → Bool := fun s => match s with
      | .app (.const n _) (.app (.app (.const m _) _) l) => n == ``PySem.Str.mk && m == ``Array.mk && ((l.find? fun y => !(y.isApp || y.isLit || y.isConstOf ``List.cons || y.isConstOf ``List.nil || y.isConstOf ``Nat)).isNone)
      | _ => false
    let intE : (s : Lean.Expr) → MetaM (Option Lean.Expr) := fun s => do
      let v ← kw s
      if v.isAppOfArity ``Int.ofNat 1 || v.isAppOfArity ``Int.negSucc 1 then
        let n ← kw v.appArg!
        if n.isRawNatLit then return some (mkApp v.appFn! n)
      return none
    let clean : (e : Lean.Expr) → MetaM Lean.Expr := fun e => do
      Core.transform e (pre := fun y => do
        match y with
        | .app (.const n _) x =>
          if x.isAppOfArity ``XV.mk 11 then
            if let some i := [``XV.prog, ``XV.w, ``XV.h₀, ``XV.n₁, ``XV.kt, ``XV.tabs, ``XV.A₀, ``XV.R₀, ``XV.d, ``XV.t₀, ``XV.os].idxOf? n then
              return .visit x.getAppArgs[i]!
          if n == ``Around.handled && !y.hasLooseBVars then
            let v ← kw y
            if v.isAppOf ``Option.none || v.isAppOf ``Option.some then return .visit v
          return .continue
        | _ =>
          if y.isAppOfArity ``Value.str 2 && !y.hasLooseBVars && !textDone y.appFn!.appArg! then
            if let some s ← textE y.appFn!.appArg! then
              unless s == y.appFn!.appArg! do return .visit (mkApp2 y.appFn!.appFn! s y.appArg!)
          if y.isAppOfArity ``Value.int 2 && !y.hasLooseBVars then
            let x := y.appFn!.appArg!
            unless (x.isAppOfArity ``Int.ofNat 1 || x.isAppOfArity ``Int.negSucc 1) && x.appArg!.isRawNatLit do
              if let some s ← intE x then
                return .visit (mkApp2 y.appFn!.appFn! s y.appArg!)
          if y.isAppOfArity ``GetElem.getElem 8 && y.getAppArgs[2]!.isConstOf ``Value && !y.hasLooseBVars then
            let v ← kw y
            if v.isFVar || ((v.getAppFn.constName?.map fun n => (`PySem.Value).isPrefixOf n).getD false) then return .visit v
          if y.isAppOf ``X.condFn && y.getAppNumArgs ≥ 4 && !(y.getAppArgs[1]!).hasLooseBVars then
            let ya := y.getAppArgs
            let b ← kw ya[1]!
            if b.isConstOf ``Bool.true then return .visit (mkAppN ya[2]! (ya.extract 4 ya.size)).headBeta
            if b.isConstOf ``Bool.false then return .visit (mkAppN ya[3]! (ya.extract 4 ya.size)).headBeta
          return .continue) (post := fun y => do
          if y.isAppOfArity ``HAdd.hAdd 6 && y.getAppArgs[0]!.isConstOf ``Nat && !y.hasLooseBVars && !y.hasFVar then
            match ← kw y with
            | .lit (.natVal n) => return .done (mkRawNatLit n)
            | _ => return .done y
          return .done y)
    let foldK : (lo : Nat) → (hi : Nat) → (e : Lean.Expr) → MetaM Lean.Expr := fun lo hi e => do
      Core.transform e (pre := fun y => do
        unless y.isApp || y.isLambda do return .continue
        if y.isAppOfArity ``BT.node 3 then return .continue
        if y.hasLooseBVars || y.hasFVar || y.hasExprMVar || y.hasLevelMVar || y.hasLevelParam then return .continue
        if y.approxDepth < 7 then return .done y
        if (y.find? fun z => match z with | .lit (.natVal n) => lo ≤ n && n < hi | _ => false).isSome then return .continue
        let nm := (`Mine.K).str ("h" ++ toString y.hash)
        match (← getEnv).find? nm with
        | some (.defnInfo d) => if d.value == y then return .done (mkConst nm) else return .done y
        | some _ => return .done y
        | none =>
          let ty ← inferType y
          if (← whnfR ty).isSort || (← isProp ty) || ty.hasExprMVar || ty.hasFVar then return .done y
          addDecl (.defnDecl { name := nm, levelParams := [], type := ty, value := y, hints := .abbrev, safety := .safe })
          -- no quick twin of it
          PySem.W.ZFast.primed.modify (·.insert nm none)
          return .done (mkConst nm))
    let sizes : (a : Array Lean.Expr) → MetaM (Nat × Nat) := fun a => do
      let some n := natLitO (← kw a[0]!.getAppArgs[3]!) | throwError "seg: n1"
      let some m := natLitO (← kw a[6]!) | throwError "seg: m"
      return (n, m)
    let pruned : (V : Lean.Expr) → (cf : Array Lean.Expr) → (ahead_ : Nat) → MetaM (Lean.Expr × (Lean.Expr → Lean.Expr)) := fun V cf ahead_ => do
      let a := #[V] ++ cf
      let (n1, m0) ← sizes a
      let T0 := a[5]!
      let nodes := nodesOf T0 1 0 #[]
      let objs : Std.HashMap Nat Lean.Expr := nodes.foldl (fun m (b, o) => m.insert b o) {}
      let mut st : Std.HashSet Lean.Expr × Std.HashSet Nat := ({}, {})
      for x in [a[1]!, a[3]!, a[4]!] do
        st := ((litsIn n1 (n1 + m0) x).run st).2
      let mut live : Std.HashSet Nat := {}
      let mut todo := st.2.toList
      for _ in [0:100000] do
        match todo with
        | [] => break
        | i :: r =>
          todo := r
          if live.contains i then continue
          live := live.insert i
          if let some o := objs.get? i then
            st := (st.1, {})
            st := ((litsIn n1 (n1 + m0) o).run st).2
            todo := st.2.toList ++ todo
      let mut keep : Std.HashSet Nat := {}
      if ahead_ == 0 then for (b, _) in nodes do keep := keep.insert b
      else
        for i in live.toList do for b in pathTo i do keep := keep.insert b
        for i in [m0 : m0 + ahead_] do for b in pathTo i do if b < m0 then keep := keep.insert b
      let mask := keepMask keep live T0 1 0
      let dTy ← mkArrow (mkConst ``Nat) (mkConst ``Obj)
      let g1T ← withLocalDeclD `dead dTy fun d => mkForallFVars #[d] (mkAppN (mkConst ``cut) (a.set! 5 (keepT keep live d T0 1 0)))
      note s!"gc: live {live.size}, kept {keep.size}, of {m0}"
      return (g1T, fun x => mkAppN (mkConst ``cut_mask) #[V, a[1]!, a[2]!, a[3]!, a[4]!, T0, mask, a[6]!, a[7]!, a[8]!, a[9]!, x])
    let run1 : (K : Nat) → (ahead_ : Nat) → (fold : Bool) → (trust : Bool) → (amid : Bool) → (cap : Nat) → TacticM Unit := fun K ahead_ fold trust amid cap => do
      let gA ← getMainGoal
      let others := (← getGoals).tail!
      let tyA := (← instantiateMVars (← gA.getType)).consumeMData
      let lctxA := (← gA.getDecl).lctx
      -- the run's own copy of the goal
      let gB ← gA.withContext do
        let l ← instantiateLCtxMVars (← getLCtx)
        withLCtx l (← getLocalInstances) do mkFreshExprSyntheticOpaqueMVar tyA
      let g1 ← if tyA.isForall then do pure (← gB.mvarId!.intro1P).2 else pure gB.mvarId!
      g1.withContext do
        let ty ← instantiateMVars (← g1.getType)
        unless ty.isAppOfArity ``cut 10 do throwError "run: another goal"
        let V := ty.getAppArgs[0]!
        let Va := V.getAppArgs
        let mut O? := none
        let mut tok := none
        for d in ← getLCtx do
          if d.isImplementationDetail then continue
          let t ← instantiateMVars d.type
          if t.isAppOfArity ``XV.Ok 1 && t.appArg! == V then O? := some d.toExpr
          if t.isAppOfArity ``LE.le 4 && t.getAppArgs[3]! == Va[9]! then
            if let .lit (.natVal k) ← kw t.getAppArgs[2]! then tok := some (k, d.toExpr)
        let some O := O? | throwError "run: no Ok"
        let t0 ← IO.monoMsNow
        let ty ← instantiateMVars (← g1.getType)
        let a := ty.getAppArgs
        let cfg := a.extract 1 10
        let v0 := upTo K (fuelE 0)
        let f := .lam `x (mkConst ``Nat) (upTo K (.bvar 0)) .default
        let nE := mkRawNatLit K
        let simT (n : Lean.Expr) := mkAppN (mkConst ``simZ) (#[V, n] ++ cfg)
        let lamF ← withLocalDeclD `d (mkConst ``Nat) fun d => mkLambdaFVars #[d] (simT d)
        let ms ← mkFreshExprSyntheticOpaqueMVar (simT nE)
        let g2 ← newGoal ms.mvarId! ``Z.g_num #[mkConst ``Nat, nE, v0, mkAppN (mkConst ``Z.fuel_in) #[f, nE, mkRawNatLit 0, rflAt (mkConst ``Nat) nE], lamF] (simT v0)
        xlog.set (0, "")
        decided.set {}
        lastSplit.set none
        rowTrust.set trust
        unless trust do rowOne.set {}
        insts.set {}
        laidOut.set {}
        wanted.set #[]
        parted.set {}
        ahead.set (← getLCtx)
        let b : ZB := { O, V, t := Va[9]!, low := tok }
        let mut left ← withEnableInfoTree false (again b g2 13)
        -- the last chunk
        let mut cuts : Array MVarId := #[]
        for _ in [0:1000] do
          match left with
          | [] => break
          | l :: rest =>
            left := rest
            unless l.why == "fuel" do
              note s!"LEFT {l.why}"
              l.goal.withContext do
                let v ← zev (← instantiateMVars (← l.goal.getType))
                if v.isAppOf ``X.Stop then note s!"  {← ppExpr (← kw v.getAppArgs[0]!)} {← ppExpr (← kw v.getAppArgs[1]!)}"
              throwError "seg: {l.why}\n{l.goal}"
            let (ls, c?) ← l.goal.withContext do
              evMap.set {}
              let v ← material (← zev (← instantiateMVars (← l.goal.getType))).headBeta
              let some s := v.find? isFuel | throwError "seg: no fuel"
              let some k := natLitO s.appArg! | throwError "seg: fuel"
              if k == 0 then
                let va := v.getAppArgs
                unless v.isAppOfArity ``Nat.rec 13 do throwError "seg: no state"
                let mut cf := va.extract 4 13
                cf := cf.set! 0 (← kw cf[0]!)
                cf := cf.set! 2 (← kw cf[2]!)
                let inB := cf[3]!.getAppFn.isConstOf ``PySem.W.ZFast.zw11892475500146522536 && cf[0]!.isAppOfArity ``Code.builtin 2
                if inB then
                  let ar ← kw cf[0]!.getAppArgs[1]!
                  let pos ← nList ar.getAppArgs[0]! kw
                  let kws ← nList ar.getAppArgs[1]! pure
                  let cN := mkApp2 (mkConst ``Code.builtin) cf[0]!.getAppArgs[0]! (mkApp2 (mkConst ``Args.mk) pos kws)
                  cf := (cf.set! 0 cN).set! 3 (mkApp2 (mkConst ``PySem.W.ZFast.zw11892475500146522536) (mkConst ``PySem.W.ZFast.tableZ) cN)
                else
                  let t1 ← kw cf[3]!
                  if ← isCtor t1 then cf := cf.set! 3 t1
                for j in [2, 3] do cf := cf.set! j (← refold cf[j]!)
                for j in [0, 2, 3, 4, 6, 7] do cf := cf.set! j (← clean cf[j]!)
                let (n1, m1) ← sizes (#[V] ++ cf)
                if fold then for j in (if inB then [2, 4, 7] else [0, 2, 3, 4, 7]) do cf := cf.set! j (← foldK n1 (n1 + m1) cf[j]!)
                let (gT, kp) ← pruned V cf ahead_
                let m ← mkFreshExprSyntheticOpaqueMVar gT
                l.goal.assign (mkAppN (mkConst ``at_cut) (#[V] ++ cf ++ #[kp m]))
                return ([], some m.mvarId!)
              else
                let v' := upTo k (fuelE 0)
                let f := .lam `x (mkConst ``Nat) (upTo k (.bvar 0)) .default
                let lam := Lean.Expr.lam `d (mkConst ``Nat) (v.replace fun y => if y == s then some (.bvar 0) else none) .default
                let h := mkAppN (mkConst ``Z.fuel_cut) #[f, mkRawNatLit k, mkRawNatLit 0, rflAt (mkConst ``Nat) (mkRawNatLit k)]
                let g' ← newGoal l.goal ``Z.g_num #[mkConst ``Nat, s, v', h, lam] (lam.bindingBody!.instantiate1 v')
                return (← withEnableInfoTree false (again b g' 13), none)
            left := ls ++ left
            if let some c := c? then cuts := cuts.push c
        -- close the segment as a lemma over its cuts
        let lctx0 := lctxA
        let mut hs : Array (FVarId × Lean.Expr × Array Lean.Expr) := #[]
        for c in cuts do
          let cT ← instantiateMVars (← c.getType)
          let (xs, N) ← c.withContext do
            let (_, s) ← (cT.collectFVars).run {}
            let mut kept : Std.HashSet FVarId := {}
            let s ← s.addDependencies
            for f in s.fvarIds do kept := kept.insert f
            let mut xs := #[]
            for d in ← getLCtx do
              if d.isImplementationDetail || lctx0.contains d.fvarId then continue
              if kept.contains d.fvarId then xs := xs.push d.toExpr
              else if ← isProp d.type then
                let t ← instantiateMVars d.type
                if let some (ty, _, _) := t.eq? then if ty.isConstOf ``Bool then continue
                let (_, s) ← (t.collectFVars).run {}
                if s.fvarIds.all fun f => kept.contains f || lctx0.contains f then xs := xs.push d.toExpr
            return (xs, ← mkForallFVars xs cT)
          unless amid do for x in xs do if (← c.withContext (inferType x)).isConstOf ``PySem.Pos then throwError "amid a look"
          match hs.find? (·.2.1 == N) with
          | some (id, _, _) => c.assign (mkAppN (.fvar id) xs)
          | none =>
            let id ← mkFreshFVarId
            c.assign (mkAppN (.fvar id) xs)
            hs := hs.push (id, N, xs)
        let val ← instantiateMVars ms
        if val.hasExprMVar then throwError "seg: a hole"
        let val ← squeeze 5000 (← refold val)
        let val := mkAppN (mkConst ``cut_sim) (#[V, O, nE] ++ cfg ++ #[val])
        let lctxB ← getLCtx
        let dead? : Option Lean.Expr := if tyA.isForall then (lctxB.lastDecl.map fun d => d.toExpr) else none
        let hv := hs.map fun (id, _, _) => Lean.Expr.fvar id
        let t3 ← IO.monoMsNow
        -- the letters: those of the box, and the rest
        let mut sF := (← ((val.abstract hv).collectFVars).run {}).2
        sF := (← (ty.collectFVars).run sF).2
        for (_, N, _) in hs do sF := (← (N.collectFVars).run sF).2
        sF ← sF.addDependencies
        let ids ← sortFVarIds sF.fvarIds
        let slots ← slotsOf V
        let some box ← boxE slots | throwError "run: no box"
        let bs := slots.map fun (x, _, _) => Lean.Expr.fvar x
        let cs := (ids.filter fun x => !(slots.any fun a => a.1 == x)).map Lean.Expr.fvar
        let tele ← mkForallFVars (bs ++ cs) (mkConst ``True)
        let pj (p : Lean.Expr) : Array Lean.Expr := slots.map fun (_, k, j) => slotE p k j
        let lem ← withLocalDeclD `p (mkConst ``Box) fun p => do
          let tele' ← instantiateForall tele (pj p)
          forallBoundedTelescope tele' (some cs.size) fun cs' _ => do
            let sub (e : Lean.Expr) : Lean.Expr := e.replaceFVars (bs ++ cs) (pj p ++ cs')
            let val' ← foldL cap V (sub (val.replaceFVars hv hv))
            let ty' ← foldL cap V (sub ty)
            let ns' ← hs.mapM fun (_, N, _) => forallTelescope (sub N) fun ys b => do
              let a := b.getAppArgs
              let mut a' := a
              for q in [0:a.size] do a' := a'.set! q (← foldL cap V a[q]!)
              mkForallFVars ys (mkAppN b.getAppFn a')
            let mut body := val'.abstract hv
            let mut stT := ty'
            for j in [0 : hs.size] do
              let N := ns'[hs.size - 1 - j]!
              body := .lam `hN N body .default
              stT := mkApp2 (mkConst ``Imp) N stT
            let nm ← withOptions (Elab.async.set · false) (do mkAuxLemma [] (← mkForallFVars (#[p] ++ cs') stT) (← mkLambdaFVars (#[p] ++ cs') body) (cache := false))
            return mkConst nm
        let t1 ← IO.monoMsNow
        note s!"lemma {t1 - t3}"
        let lem0 := mkAppN lem (#[box] ++ cs)
        let t2 ← IO.monoMsNow
        let mut news := #[]
        for (_, N, ys) in hs do
          let m ← gA.withContext do mkFreshExprSyntheticOpaqueMVar N
          let (_, g) ← m.mvarId!.introNP ys.size
          news := news.push (m, g)
        let pf := mkAppN lem0 (news.map (·.1))
        let pf ← match dead? with
          | some d => mkLambdaFVars #[d] pf
          | none => pure pf
        gA.assign pf
        note s!"run {K}: {cuts.size} ways, {news.size} cuts, {(← xlog.get).1} looks, run {t1 - t0} ms, kernel {t2 - t1} ms"
        setGoals (news.toList.map (·.2) ++ others)
    let run : (K : Nat) → (ahead_ : Nat) → (fold : Bool) → (amid : Bool) → TacticM Unit := fun K ahead_ fold amid => do
      let mut err := none
      for (trust, cap) in [(true, 60), (true, 1000000000), (false, 60), (false, 1000000000)] do
        let s ← saveState
        try
          run1 K ahead_ fold trust amid cap
          return
        catch ex =>
          if (← ex.toMessageData.toString) == "amid a look" then throw ex
          s.restore
          note s!"once more {trust} {cap}: {((← ex.toMessageData.toString).take 80)}"
          err := some ex
      if let some ex := err then throw ex
    let go : (at_ : Nat) → (stops : List Nat) → (most : Nat) → (fold : Bool) → TacticM Unit := fun at_ stops most fold => do
      let mut p := at_
      for s in stops do
        for _ in [0:10000] do
          if p ≥ s then break
          let left := s - p
          let K := if left ≤ most then left else if left < 2 * most then left / 2 else most
          let mut K := K
          for _ in [0:12] do
            let st ← saveState
            let ok ← (do
              try
                run K 0 fold false
                return true
              catch ex =>
                if (← ex.toMessageData.toString) == "amid a look" then return false else throw ex : TacticM Bool)
            if ok then break
            st.restore
            K := K - 4
          p := p + K
          note s!"   at {p}"
    let withKt : (h : Name) → TacticM Unit := fun h => withMainContext do
      let g ← getMainGoal
      let ty := (← instantiateMVars (← g.getType)).consumeMData
      let d ← getLocalDeclFromUserName h
      let V' := (← instantiateMVars d.type).appArg!
      let a := ty.getAppArgs
      let V := a[0]!
      let (v, v') := (V.getAppArgs, V'.getAppArgs)
      let m ← mkFreshExprSyntheticOpaqueMVar (mkAppN ty.getAppFn (a.set! 0 V'))
      g.assign (mkAppN (mkConst ``cut_kt) (#[v[0]!, v[1]!, v[2]!, v[3]!, v[4]!, v'[4]!, v[5]!, v[6]!, v[7]!, v[8]!, v[9]!, v[10]!] ++ a.extract 1 10 ++ #[m]))
      replaceMainGoal [m.mvarId!]
    let joinWays : TacticM MVarId := do
      let gs ← getGoals
      let some gl := gs.getLast? | throwError "joinWays: no goal"
      let g0 := gs.head!
      let outer ← g0.withContext getLCtx
      let (keyT, xs) ← gl.withContext do
        let ty ← instantiateMVars (← gl.getType)
        let (_, s) ← (ty.collectFVars).run {}
        let s ← s.addDependencies
        let ids ← sortFVarIds s.fvarIds
        let mut xs := #[]
        for i in ids do unless outer.contains i do xs := xs.push (Lean.Expr.fvar i)
        return (← mkForallFVars xs ty, xs)
      -- the letters that all ways share stand in the least of the contexts
      let key ← g0.withContext do mkFreshExprSyntheticOpaqueMVar keyT
      for g in gs do
        g.withContext do
          if g == gl then g.assign (mkAppN key xs)
          else
            let ty ← instantiateMVars (← g.getType)
            let (ms, _, bd) ← forallMetaBoundedTelescope keyT xs.size
            unless ← withReducible (isDefEq bd ty) do
              note "joinWays: by unfolding"
              unless ← isDefEq bd ty do throwError "joinWays: the ways part"
            g.assign (mkAppN key (← ms.mapM instantiateMVars))
      let (_, g) ← key.mvarId!.introNP xs.size
      setGoals [g]
      return key.mvarId!
    let settle : (key : MVarId) → TacticM Unit := fun key => key.withContext do
      let lc ← instantiateLCtxMVars (← getLCtx)
      withLCtx lc (← getLocalInstances) do
      let v ← instantiateMVars (mkMVar key)
      if v.hasExprMVar then throwError "settle: a hole"
      let t ← instantiateMVars (← key.getType)
      let v ← tidy v
      let l ← auxOver t v
      key.assign l
    let sharedMVar : (g0 : MVarId) → (outer : Std.HashSet FVarId) → (T : Lean.Expr) → MetaM Lean.Expr := fun g0 outer T => g0.withContext do
      let mut l ← getLCtx
      let insts := (← getLocalInstances).filter fun i => outer.contains i.fvar.fvarId!
      for d in (← getLCtx).decls.toList.filterMap id |>.reverse do
        unless outer.contains d.fvarId do l := l.erase d.fvarId
      withLCtx l insts do mkFreshExprSyntheticOpaqueMVar T
    let joinSigns : TacticM MVarId := do
      let gs ← getGoals
      let codes := [127, 233, 128512, 9, 13]
      unless gs.length == 5 do throwError "joinSigns: {gs.length} goals"
      let nat := mkConst ``Nat
      let signE (x : Lean.Expr) : Lean.Expr := mkApp (mkConst ``PySem.Str.mk) (mkApp2 (mkConst ``Array.mk [0]) nat (mkApp3 (mkConst ``List.cons [0]) nat x (mkApp (mkConst ``List.nil [0]) nat)))
      let isSign (y : Lean.Expr) : Bool := y.isAppOfArity ``Value.str 2 && codes.any fun c => y.appFn!.appArg! == signE (mkRawNatLit c)
      let g0 := gs.head!
      -- the letters that all ways share
      let outer ← (do
        let mut o : Std.HashSet FVarId := {}
        let mut first := true
        for g in gs do
          let mut s : Std.HashSet FVarId := {}
          for d in (← g.getDecl).lctx do s := s.insert d.fvarId
          if first then o := s else o := o.toList.foldl (fun t f => if s.contains f then t.insert f else t) {}
          first := false
        return o : TacticM (Std.HashSet FVarId))
      let (keyT, k) ← g0.withContext do
        let ty ← instantiateMVars (← g0.getType)
        let (_, s) ← (ty.collectFVars).run {}
        let s ← s.addDependencies
        let ids ← sortFVarIds s.fvarIds
        let xs := (ids.filter fun i => !outer.contains i).map Lean.Expr.fvar
        let T ← withLocalDeclD `x nat fun x => do
          withLocalDeclD `ux nat fun u => do
            withLocalDeclD `hx (mkApp (mkConst ``Sign) x) fun hx => do
              mkForallFVars #[x, u, hx] (← mkForallFVars xs (ty.replace fun y => if isSign y then some (mkApp2 y.appFn!.appFn! (signE x) u) else none))
        return (T, xs.size)
      let key ← sharedMVar g0 outer keyT
      let mut sides := #[]
      for g in gs do
        let side ← g.withContext do
          let ty ← instantiateMVars (← g.getType)
          let some y := ty.find? isSign | throwError "joinSigns: a way without a sign"
          let some c := codes.find? (fun c => y.appFn!.appArg! == signE (mkRawNatLit c)) | throwError "joinSigns: no code"
          let h ← mkFreshExprSyntheticOpaqueMVar (mkApp (mkConst ``Sign) (mkRawNatLit c)) `hx
          let (ms, _, bd) ← forallMetaBoundedTelescope keyT (k + 3)
          ms[0]!.mvarId!.assign (mkRawNatLit c)
          ms[1]!.mvarId!.assign y.appArg!
          ms[2]!.mvarId!.assign h
          let bd ← instantiateMVars bd
          unless bd == ty do
            unless ← withReducible (isDefEq bd ty) do throwError "joinSigns: the ways part"
          g.assign (mkAppN key (← ms.mapM instantiateMVars))
          return h.mvarId!
        sides := sides.push side
      let (_, g) ← key.mvarId!.introN (k + 3) [`x, `ux, `hx]
      setGoals (g :: sides.toList)
      return key.mvarId!
    let setNode : Nat → Lean.Expr → Lean.Expr → Nat → Nat → Lean.Expr := fun idx o' e s b =>
      fixN 200 (fun a => a.1) (fun (self : Lean.Expr × Nat × Nat → Lean.Expr) a => match a with
        | (.app (.app (.app (.const n us) o) l) r, s, b) => .app (.app (.app (.const n us) (if b == idx then o' else o)) (self (l, 2 * s, s + b))) (self (r, 2 * s, 2 * s + b))
        | (e, _, _) => e) (e, s, b)
    let listEls : (e : Lean.Expr) → MetaM (Array Lean.Expr) := fun e => do
      let mut l := e
      let mut out := #[]
      for _ in [0:1000] do
        l ← kw l
        if l.isAppOfArity ``List.cons 3 then
          out := out.push l.getAppArgs[1]!
          l := l.getAppArgs[2]!
        else break
      return out
    let mkListE : (ty : Lean.Expr) → (xs : Array Lean.Expr) → Lean.Expr := fun ty xs => xs.foldr (fun x r => mkApp3 (mkConst ``List.cons [0]) ty x r) (mkApp (mkConst ``List.nil [0]) ty)
    let itemsAt : (T : Lean.Expr) → (j : Nat) → MetaM (Lean.Expr × Array Lean.Expr) := fun T j => do
      let nodes := nodesOf T 1 0 #[]
      let some (_, o) := nodes.find? (·.1 == j) | throwError "itemsAt: no node {j}"
      let o ← kw o
      let d ← kw o.getAppArgs[2]!
      let arr ← kw d.getAppArgs[0]!
      let els ← listEls arr.appArg!
      return (o, els)
    let withItems : (o : Lean.Expr) → (els : Array Lean.Expr) → MetaM Lean.Expr := fun o els => do
      let d ← kw o.getAppArgs[2]!
      let arr ← kw d.getAppArgs[0]!
      let ty := arr.getAppArgs[0]!
      let d' := mkAppN d.getAppFn (d.getAppArgs.set! 0 (mkApp2 (mkConst ``Array.mk [0]) ty (mkListE ty els)))
      return mkAppN o.getAppFn (o.getAppArgs.set! 2 d')
    let trunk : (xE : Lean.Expr) → (RE : Lean.Expr) → (SE : Lean.Expr) → TacticM MVarId := fun xE RE SE => do
      let gs ← getGoals
      unless gs.length == 6 do throwError "trunk: {gs.length} goals"
      let vT := mkConst ``Value
      let read (T : Lean.Expr) : MetaM (Lean.Expr × Array Lean.Expr × Lean.Expr × Array Lean.Expr) := do
        let (o0, e0) ← itemsAt T 0
        let (o1, e1) ← itemsAt T 10
        return (o0, ← e0.mapM kw, o1, ← e1.mapM kw)
      let g0 := gs.head!
      let outer ← (do
        let mut o : Std.HashSet FVarId := {}
        let mut first := true
        for g in gs do
          let mut s : Std.HashSet FVarId := {}
          for d in (← g.getDecl).lctx do s := s.insert d.fvarId
          if first then o := s else o := o.toList.foldl (fun t f => if s.contains f then t.insert f else t) {}
          first := false
        return o : TacticM (Std.HashSet FVarId))
      let sIdx := [0, 1, 4, 6]
      let (keyT, k) ← g0.withContext do
        let ty ← instantiateMVars (← g0.getType)
        let a := ty.getAppArgs
        let (o0, e0, o1, e1) ← read a[5]!
        unless e0.size == 8 && e1.size == 10 do throwError "trunk: {e0.size} names, {e1.size} rows"
        let decls : Array (Name × Lean.Expr) := ((List.range 8).toArray.map fun j => ((`v).appendIndexAfter j, vT)) ++ #[(`ia, mkConst ``Int), (`ua, mkConst ``Nat)] ++ (sIdx.toArray.map fun j => ((`y).appendIndexAfter j, mkConst ``PySem.Str)) ++ (sIdx.toArray.map fun j => ((`u).appendIndexAfter j, mkConst ``Nat))
        withLocalDeclsDND decls fun zs => do
          let val (j : Nat) : Lean.Expr := if j == 6 then mkApp2 (mkConst ``Value.int) zs[8]! zs[9]! else zs[j]!
          let e0' := (List.range 8).toArray.map fun j => let x := e0[j]!; mkAppN x.getAppFn (x.getAppArgs.set! (x.getAppNumArgs - 1) (val j))
          let mut e1' := e1
          for (j, q) in sIdx.zipIdx do e1' := e1'.set! j (mkApp2 (mkConst ``Value.str) zs[10 + q]! zs[14 + q]!)
          let T' := setNode 10 (← withItems o1 e1') (setNode 0 (← withItems o0 e0') a[5]! 1 0) 1 0
          let ty' := mkAppN ty.getAppFn (a.set! 5 T')
          let six := mkAppN (mkConst ``Six) #[xE, RE, SE, zs[8]!, zs[10]!, zs[11]!, zs[12]!, zs[13]!]
          withLocalDeclD `H six fun H => do
            let (_, s) ← (ty'.collectFVars).run {}
            let s ← s.addDependencies
            let ids ← sortFVarIds s.fvarIds
            let xs := (ids.filter fun i => !outer.contains i && !(zs.any fun z => z.fvarId! == i)).map Lean.Expr.fvar
            return (← mkForallFVars zs (← mkForallFVars #[H] (← mkForallFVars xs ty')), xs.size)
      let key ← sharedMVar g0 outer keyT
      let mut sides := #[]
      for g in gs do
        let side ← g.withContext do
          let ty ← instantiateMVars (← g.getType)
          let a := ty.getAppArgs
          let (_, e0, _, e1) ← read a[5]!
          let mut vals : Array Lean.Expr := #[]
          let v0 ← e0.mapM fun x => kw x.appArg!
          for j in [0:8] do vals := vals.push v0[j]!
          vals := vals ++ #[v0[6]!.getAppArgs[0]!, v0[6]!.getAppArgs[1]!]
          for j in sIdx do vals := vals.push e1[j]!.getAppArgs[0]!
          for j in sIdx do vals := vals.push e1[j]!.getAppArgs[1]!
          let (ms, _, bd) ← forallMetaBoundedTelescope keyT (18 + 1 + k)
          for (m, v) in ms.toList.zip vals.toList do m.mvarId!.assign v
          let hT ← instantiateMVars (← inferType ms[18]!)
          let h ← mkFreshExprSyntheticOpaqueMVar hT `H
          ms[18]!.mvarId!.assign h
          let bd ← instantiateMVars bd
          unless bd == ty do
            unless ← withReducible (isDefEq bd ty) do throwError "trunk: the ways part"
          g.assign (mkAppN key (← ms.mapM instantiateMVars))
          return h.mvarId!
        sides := sides.push side
      let (_, g) ← key.mvarId!.introN (18 + 1 + k) ([`v0, `v1, `v2, `v3, `v4, `v5, `v6, `v7, `ia, `ua, `y0, `y1, `y4, `y6, `u0, `u1, `u4, `u6, `H] ++ List.replicate k `dead)
      setGoals (g :: sides.toList)
      return key.mvarId!
    let untxt : (e : Lean.Expr) → Lean.Expr := fun e => e.replace fun y =>
      if y.isAppOfArity ``txt 1 then some (mkApp (mkConst ``PySem.Str.mk) (mkApp2 (mkConst ``Array.mk [0]) (mkConst ``Nat) y.appArg!)) else none
    let codesOf : (s : Lean.Expr) → MetaM Lean.Expr := fun s => do
      let s ← kw s
      let a ← kw s.appArg!
      return a.appArg!
    let farBy : (lem : Name) → (given : Array Lean.Expr → MetaM (List (Name × Lean.Expr))) → TacticM Unit := fun lem given => withMainContext do
      let g ← getMainGoal
      let others := (← getGoals).tail!
      let ty := (← instantiateMVars (← g.getType)).consumeMData
      unless ty.isAppOfArity ``cut 10 do throwError "farBy: another goal"
      let a := ty.getAppArgs
      let κ := a[3]!.getAppArgs
      let c := a[1]!.getAppArgs
      let pos : Array Lean.Expr ← (← listEls c[1]!.getAppArgs[0]!).mapM fun x => (kw x : MetaM Lean.Expr)
      let lt ← inferType (mkConst lem)
      let names ← forallTelescope lt fun xs _ => xs.mapM fun x => do return (← x.fvarId!.getDecl).userName
      let (ms, _, _) ← forallMetaTelescope lt
      let vals : List (Name × Lean.Expr) := [(`V, a[0]!), (`c₁, κ[0]!), (`hd, κ[1]!), (`k, κ[2]!), (`κ₁, κ[3]!), (`T, a[5]!), (`m, a[6]!), (`i, a[7]!), (`ch, a[8]!), (`gl, a[9]!), (`id, c[0]!)] ++ (← given pos)
      for (n, m) in names.toList.zip ms.toList do
        if let some (_, v) := vals.find? (·.1 == n) then m.mvarId!.assign v
      g.assign (mkAppN (mkConst lem) ms)
      let mut hH := #[]
      let mut rest := #[]
      for (n, m) in names.toList.zip ms.toList do
        if ← m.mvarId!.isAssigned then continue
        let t := (← instantiateMVars (← m.mvarId!.getType)).headBeta
        let t := if n == `H then untxt t else t
        let m' ← mkFreshExprSyntheticOpaqueMVar t n
        m.mvarId!.assign m'
        if n == `H then hH := hH.push m'.mvarId! else rest := rest.push m'.mvarId!
      setGoals (hH.toList ++ others ++ rest.toList)
    let farMul : (r : Lean.Expr) → TacticM Unit := fun r => farBy ``far_mul fun pos => do
      let s := pos[0]!.getAppArgs
      let n := pos[1]!.getAppArgs
      let l ← kw (← codesOf s[0]!)
      let i ← kw n[0]!
      return [(`q, ← kw l.getAppArgs[1]!), (`u, s[1]!), (`n, ← kw i.appArg!), (`v, n[1]!), (`r, r)]
    let farAdd : (r : Lean.Expr) → TacticM Unit := fun r => farBy ``far_add fun pos => do
      let s := pos[0]!.getAppArgs
      let n := pos[1]!.getAppArgs
      return [(`a, ← codesOf s[0]!), (`u, s[1]!), (`b, ← codesOf n[0]!), (`v, n[1]!), (`r, r)]
    let consE : (l : List Nat) → (r : Lean.Expr) → Lean.Expr := fun l r => l.foldr (fun n r => mkApp3 (mkConst ``List.cons [0]) (mkConst ``Nat) (mkRawNatLit n) r) r
    let onTag : (tag : Name) → (t : TacticM Unit) → TacticM Unit := fun tag t => do
      let mut out := #[]
      for g in ← getGoals do
        if (← g.getTag) == tag then
          setGoals [g]
          t
          out := out ++ (← getGoals).toArray
        else out := out.push g
      setGoals out.toList
    let tac : (n : Name) → (s : TacticM (TSyntax `tactic)) → TacticM Unit := fun n s => onTag n (do evalTactic (← s))
    let fvarOf : (n : Name) → TacticM Lean.Expr := fun n => withMainContext do return (← getLocalDeclFromUserName n).toExpr
    let killR : (lem : Name) → (nm : Name) → (j : Nat) → TacticM Unit := fun lem nm j => do
      let gs ← getGoals
      let g := gs[j]!
      g.withContext do
        let mut h := none
        for d in ← getLCtx do if d.userName.eraseMacroScopes == nm then h := some d.toExpr
        let some hh := h | throwError "killR"
        let R := (← getLocalDeclFromUserName `R).toExpr
        let hlen := (← getLocalDeclFromUserName `hlen).toExpr
        g.assign (mkAppN (mkConst lem) #[R, hlen, ← g.getType, hh])
      setGoals (gs.eraseIdx j)
    let kill : (lem : Name) → (n : Nat) → TacticM Unit := fun lem n => withMainContext do
      let g ← getMainGoal
      let mut hs := #[]
      for d in ← getLCtx do if d.userName.eraseMacroScopes == `hp then hs := hs.push d.toExpr
      let x ← fvarOf `x
      let hx ← fvarOf `hx
      g.assign (mkAppN (mkConst lem) (#[x, hx, ← g.getType] ++ hs.extract (hs.size - n) hs.size))
      setGoals (← getGoals).tail!
    let cleanCut : (t : Lean.Expr) → MetaM Lean.Expr := fun t => forallTelescope t fun xs b => do
      let b := b.headBeta
      unless b.isAppOfArity ``cut 10 do return t
      let mut a := b.getAppArgs
      for j in [1, 3, 4, 5, 7, 8] do a := a.set! j (← clean (untxt a[j]!))
      mkForallFVars xs (mkAppN b.getAppFn a)
    let branch : (lem : Name) → (letters : List Name) → (hyp : Name) → TacticM Unit := fun lem letters hyp => withMainContext do
      let g ← getMainGoal
      let others := (← getGoals).tail!
      let ty := (← instantiateMVars (← g.getType)).consumeMData
      let zs := (← letters.mapM fun n => do return (← getLocalDeclFromUserName n).toExpr).toArray
      let H := (← getLocalDeclFromUserName hyp).toExpr
      let P ← mkLambdaFVars zs ty
      let (ms, bis, _) ← forallMetaTelescope (← inferType (mkConst lem))
      ms[0]!.mvarId!.assign P
      let mut news := #[]
      for (m, b) in ms.toList.zip bis.toList do
        if ← m.mvarId!.isAssigned then continue
        let t ← instantiateMVars (← inferType m)
        if b == .default then
          if news.isEmpty && (← withReducible (isDefEq t (← inferType H))) then
            m.mvarId!.assign H
          else
            let t ← cleanCut (← instantiateMVars t)
            let m' ← mkFreshExprSyntheticOpaqueMVar t
            m.mvarId!.assign m'
            news := news.push m'.mvarId!
      let pf ← instantiateMVars (mkAppN (mkConst lem) ms)
      g.assign pf
      setGoals (news.toList ++ others)
    let insE : Lean.Expr → Nat → Lean.Expr → Nat → Lean.Expr := fun T i o fuel =>
      fixN fuel (fun a => a.1) (fun (self : Lean.Expr × Nat → Lean.Expr) a => match a with
        | (.app (.app (.app c v) l) r, i) =>
          if i == 0 then .app (.app (.app c o) l) r
          else if i % 2 == 1 then .app (.app (.app c v) (self (l, i / 2))) r
          else .app (.app (.app c v) l) (self (r, i / 2 - 1))
        | _ => mkApp3 (mkConst ``BT.node) o (mkConst ``BT.nil) (mkConst ``BT.nil)) (T, i)
    let tokE : (t0 : Lean.Expr) → (n : Nat) → Lean.Expr := fun t0 n => mkApp6 (mkConst ``HAdd.hAdd [0, 0, 0]) (mkConst ``Nat) (mkConst ``Nat) (mkConst ``Nat) (mkApp2 (mkConst ``instHAdd [0]) (mkConst ``Nat) (mkConst ``instAddNat)) t0 (mkRawNatLit n)
    let okE : (V : Lean.Expr) → MetaM Lean.Expr := fun V => do
      for d in ← getLCtx do
        if d.isImplementationDetail then continue
        let t ← instantiateMVars d.type
        if t.isAppOfArity ``XV.Ok 1 && t.appArg! == V then return d.toExpr
      throwError "okE: none"
    let goalArgs : TacticM (Array Lean.Expr) := withMainContext do
      return ((← instantiateMVars (← (← getMainGoal).getType)).consumeMData).getAppArgs
    let farJoinZ : (j : Nat) → TacticM Unit := fun j => withMainContext do
      let a ← goalArgs
      let O ← okE a[0]!
      let (o, els) ← itemsAt a[5]! j
      let els : Array Lean.Expr ← els.mapM fun x => (kw x : MetaM Lean.Expr)
      let sT := mkConst ``PySem.Str
      let pT := mkApp2 (mkConst ``Prod [0, 0]) sT (mkConst ``Nat)
      let rows := mkListE pT (els.map fun x => mkApp4 (mkConst ``Prod.mk [0, 0]) sT (mkConst ``Nat) x.getAppArgs[0]! x.getAppArgs[1]!)
      let d ← kw o.getAppArgs[2]!
      let n := d.getAppArgs[1]!
      farBy ``far_joinZ fun pos => do
        let s := pos[0]!.getAppArgs
        let l ← kw (← codesOf s[0]!)
        return [(`O, O), (`j, mkRawNatLit j), (`rows, rows), (`n, n), (`o, o), (`q, ← kw l.getAppArgs[1]!), (`u, s[1]!), (`a, ← kw pos[1]!.appArg!)]
    let give : (tag : Name) → (f : TacticM Lean.Expr) → TacticM Unit := fun tag f => onTag tag (withMainContext do (← getMainGoal).assign (← f); setGoals [])
    let finish : (K : Nat) → TacticM Unit := fun K => do
      let n0 := (← getGoals).length
      let mut p := 0
      for _ in [0:40] do
        run K 0 true true
        p := p + K
        let n := (← getGoals).length
        note s!"   finish: {p}, goals {n} of {n0}"
        if n < n0 then return
        if n > n0 then throwError "finish: ways"
      throwError "finish: no end"
    let nilE : Lean.Expr := mkApp (mkConst ``List.nil [0]) (mkConst ``Nat)
    let consF : (x : Lean.Expr) → (r : Lean.Expr) → Lean.Expr := fun x r => mkApp3 (mkConst ``List.cons [0]) (mkConst ``Nat) x r
    let txE : (l : Lean.Expr) → Lean.Expr := fun l => mkApp (mkConst ``PySem.Str.mk) (mkApp2 (mkConst ``Array.mk [0]) (mkConst ``Nat) l)
    let rowTexts : TacticM (Array Lean.Expr) := withMainContext do
      let ys ← [`y0, `y1, `y4, `y6].toArray.mapM fun n => fvarOf n
      let l := mkAppN (mkConst ``rowsOf) ys
      (← listEls l).mapM fun x => (do if x.isFVar then return x else return (← textE x).getD x : MetaM Lean.Expr)
    let farSplit : (parts : Array Lean.Expr) → TacticM Unit := fun parts => withMainContext do
      let a ← goalArgs
      let O ← okE a[0]!
      let (_, m) ← sizes a
      let some i := natLitO (← kw a[7]!) | throwError "farSplit: i"
      let t0 := a[0]!.getAppArgs[9]!
      let sT := mkConst ``PySem.Str
      let vT := mkConst ``Value
      let els := mkListE vT (parts.mapIdx fun j p => mkApp2 (mkConst ``Value.str) p (tokE t0 (i + j)))
      farBy ``far_split fun pos => do
        let s := pos[0]!.getAppArgs
        let l ← kw (← codesOf pos[1]!.getAppArgs[0]!)
        return [(`O, O), (`parts, mkListE sT parts), (`x, s[0]!), (`q, ← kw l.getAppArgs[1]!), (`u, s[1]!), (`v, pos[1]!.getAppArgs[1]!)]
      let g ← getMainGoal
      let ty ← instantiateMVars (← g.getType)
      let b := ty.getAppArgs
      let x := b[5]!
      unless x.isAppOfArity ``BT.ins 3 do throwError "farSplit: the tree"
      let o := x.getAppArgs[2]!.replace fun y => if y.isAppOfArity ``strsAt 3 then some els else none
      let b := ((b.set! 5 (insE x.getAppArgs[0]! m o 60)).set! 6 (mkRawNatLit (m + 1))).set! 7 (mkRawNatLit (i + parts.size))
      let m' ← mkFreshExprSyntheticOpaqueMVar (← cleanCut (mkAppN ty.getAppFn b)) (← g.getTag)
      g.assign m'
      setGoals (m'.mvarId! :: (← getGoals).tail!)
    let ev : TacticM (TSyntax `tactic) → TacticM Unit := fun s => do evalTactic (← s)
    let introD : TacticM Unit := do
      let g ← getMainGoal
      let (_, g) ← g.intro `dead
      replaceMainGoal [g]
    let allG : TacticM Unit → TacticM Unit := fun t => do
      let mut out := #[]
      for g in ← getGoals do
        setGoals [g]
        t
        out := out ++ (← getGoals).toArray
      setGoals out.toList
    let gTop ← getMainGoal
    compact (ev `(tactic| (w_on; o_law; z_head)))
    ev `(tactic| case hw => w_witness2)
    ev `(tactic| k_fill)
    ev `(tactic| intro w s₀ s₁ mg mb G y fa o pm cd doc dV kV ho hd hcd hD hmg hg args vals as L hpre hlay hrd hwl hlo)
    ev `(tactic| z_open y L KX ZH ZN ZT)
    ev `(tactic| refine Ground.open G ?_)
    ev `(tactic| intro T B D TE TW)
    ev `(tactic| wrow_args hpre hlay hrd hwl hlo)
    ev `(tactic| obtain ⟨hat, hsz⟩ := script_at L)
    ev `(tactic| have htk := script_toks L ZT)
    ev `(tactic| rw [ZN] at hat hsz)
    ev `(tactic| subst hat)
    ev `(tactic| x_fa T KX hmg)
    ev `(tactic| all_lens)
    ev `(tactic| z_lists L)
    ev `(tactic| z_lens)
    setup
    note "setup done"
    ev `(tactic| obtain e | ⟨n, u, e⟩ | ⟨n, u, m, v, r, e⟩ := Mine.three (by assumption))
    allG do
      ev `(tactic| rw [e] at hS)
      withKt `hS
      run 170 0 false false
      introD
      withKt `hO
    let kW ← joinWays
    go 170 [1566, 2957, 3242, 3582, 5201, 5575, 6207, 7033, 7895, 8608, 9454, 9936, 10627, 19273, 19753, 20867, 21157, 21590, 23080] 450 true
    introD
    ev `(tactic| refine Mine.withFar (fun R hR hlen hfar => ?_))
    run 64 0 true false
    allG introD
    allG do farMul (consE [48] (← fvarOf `R))
    tac `hid `(tactic| kernel_rfl)
    tac `hr `(tactic| exact hfar)
    tac `hn `(tactic| decide)
    tac `hm `(tactic| decide)
    allG (run 4 0 true false)
    allG introD
    let sidesAdd : TacticM Unit := do
      tac `hid `(tactic| kernel_rfl)
      tac `hr `(tactic| rfl)
      tac `hl `(tactic| (simp only [List.length_cons, hlen]; decide +kernel))
      tac `ha `(tactic| decide)
      tac `hb `(tactic| simp [PySem.Str.length])
    allG do farAdd (consE [49, 48] (← fvarOf `R))
    sidesAdd
    allG (run 60 0 true false)
    allG introD
    let kS ← joinSigns
    tac `hx `(tactic| (unfold Mine.Sign; decide))
    run 67 0 true false
    introD
    ev `(tactic| refine Mine.withS R (fun S hS => ?_))
    farAdd (consE [114, 111, 111, 109, 32, 49, 32, 49, 48] (← fvarOf `R))
    sidesAdd
    run 10 0 true false
    introD
    farAdd (consE [99, 111, 110, 115, 116, 32, 49, 48] (← fvarOf `R))
    sidesAdd
    run 10 0 true false
    introD
    farAdd (consE [114, 111, 111, 109, 32, 49, 48] (← fvarOf `R))
    sidesAdd
    run 5 0 true false
    introD
    farAdd (consE [114, 111, 111, 109, 32, 49, 48] (← fvarOf `S))
    tac `hid `(tactic| kernel_rfl)
    tac `hr `(tactic| (rw [hS]; rfl))
    tac `hl `(tactic| (rw [hS]; simp only [List.length_cons, List.length_append, hlen]; decide +kernel))
    tac `ha `(tactic| simp [PySem.Str.length])
    tac `hb `(tactic| decide)
    run 40 0 true false
    allG introD
    allG (run 88 0 true false)
    allG introD
    let kT ← trunk (← fvarOf `x) (← fvarOf `R) (← fvarOf `S)
    tac `H `(tactic| first | exact .inl ⟨rfl, rfl, rfl, rfl, rfl⟩ | exact .inr ⟨rfl, .inl ⟨rfl, rfl, rfl, rfl⟩⟩ | exact .inr ⟨rfl, .inr ⟨rfl, .inl ⟨rfl, .inl rfl, rfl⟩⟩⟩ | exact .inr ⟨rfl, .inr ⟨rfl, .inl ⟨rfl, .inr rfl, rfl⟩⟩⟩ | exact .inr ⟨rfl, .inr ⟨rfl, .inr ⟨rfl, rfl, .inl rfl⟩⟩⟩ | exact .inr ⟨rfl, .inr ⟨rfl, .inr ⟨rfl, rfl, .inr rfl⟩⟩⟩)
    ev `(tactic| refine Mine.withRows hx hR hS H (fun F => ?_))
    farJoinZ 10
    tac `hid `(tactic| kernel_rfl)
    tac `ha `(tactic| kernel_rfl)
    tac `ho `(tactic| kernel_rfl)
    tac `hc `(tactic| kernel_rfl)
    tac `hdt `(tactic| kernel_rfl)
    tac `h2 `(tactic| exact Nat.le_of_ble_eq_true rfl)
    tac `h3 `(tactic| exact Nat.le_of_ble_eq_true rfl)
    tac `hF `(tactic| exact F)
    ev `(tactic| intro z hz hjz)
    run 89 0 true false
    introD
    farSplit (← rowTexts)
    tac `hid `(tactic| kernel_rfl)
    tac `hx `(tactic| exact hz)
    give `hj (fvarOf `hjz)
    give `hf (do mkAppM ``Mine.fineAt #[← fvarOf `F])
    tac `h2 `(tactic| exact Nat.le_of_ble_eq_true rfl)
    tac `hn `(tactic| exact Mine.le15 rfl)
    tac `hg `(tactic| kernel_rfl)
    run 160 0 true false
    run 163 0 true false
    introD
    let sidesSplit : TacticM Unit → TacticM Unit → TacticM Unit := fun hj hf => do
      tac `hid `(tactic| kernel_rfl)
      tac `hx `(tactic| first | exact Mine.le15 rfl | exact Mine.leFar (n := 9) hlen rfl | exact Mine.leFar (n := 8) hlen rfl | exact Mine.leFarS hlen hS)
      hj
      hf
      tac `h2 `(tactic| exact Nat.le_of_ble_eq_true rfl)
      tac `hn `(tactic| exact Mine.le15 rfl)
      tac `hg `(tactic| kernel_rfl)
    let hjK : TacticM Unit := tac `hj `(tactic| kernel_rfl)
    branch ``Mine.six_cases [`ia, `y0, `y1, `y4, `y6] `H
    -- row 0
    farSplit #[txE (consE [117, 110, 105, 116] nilE), txE (consE [34, 102] (consF (← fvarOf `x) (consE [34] nilE)))]
    sidesSplit hjK (give `hf (do mkAppM ``Mine.hf0 #[← fvarOf `hx]))
    run 180 0 true false
    run 180 0 true false
    run 180 0 true false
    introD
    run 100 0 true false
    kill ``Mine.s92 1
    introD
    run 20 0 true false
    kill ``Mine.s34 1
    introD
    run 20 0 true false
    kill ``Mine.smid 2
    run 99 0 true false
    introD
    run 60 0 true false
    introD
    finish 100
    finish 100
    -- on
    ev `(tactic| intro ia y1 y4 y6 H)
    go 23868 [24705] 450 true
    introD
    branch ``Mine.five_cases [`ia, `y1, `y4, `y6] `H
    -- row 1
    farSplit #[txE (consE [112, 97, 114, 97, 109, 115] nilE), txE (consE [34] (consF (← fvarOf `x) (consE [34] nilE))), txE (consE [34, 98, 34] nilE)]
    sidesSplit hjK (give `hf (do mkAppM ``Mine.hf1 #[← fvarOf `hx]))
    run 110 0 true false
    run 260 0 true false
    run 20 0 true false
    kill ``Mine.s92 1
    introD
    run 20 0 true false
    kill ``Mine.s34 1
    introD
    run 20 0 true false
    kill ``Mine.smid 2
    finish 150
    finish 150
    -- on
    ev `(tactic| intro ia y4 y6 H)
    go 24705 [24831, 26222, 26507, 26847, 28144] 450 true
    introD
    branch ``Mine.four_cases [`ia, `y4, `y6] `H
    -- row 4, a far room of cells
    farSplit #[txE (consE [114, 111, 111, 109] nilE), txE (consE [49] nilE), txE (consE [49, 48] (← fvarOf `R))]
    sidesSplit (give `hj (do mkAppM ``Mine.hj4 #[← fvarOf `R])) (give `hf (do mkAppM ``Mine.hf4 #[← fvarOf `hR]))
    run 150 0 true false
    run 150 0 true false
    run 150 0 true false
    run 160 0 true false
    introD
    run 20 0 true false
    killR ``Mine.s63 `hp 0
    introD
    run 20 0 true false
    killR ``Mine.s4300 `hn 1
    finish 100
    -- row 4, a far room of locals
    farSplit #[txE (consE [114, 111, 111, 109] nilE), txE (consE [49, 48] (← fvarOf `R)), txE (consE [48] nilE)]
    sidesSplit (give `hj (do mkAppM ``Mine.hj4b #[← fvarOf `hS])) (give `hf (do mkAppM ``Mine.hf4b #[← fvarOf `hR]))
    run 150 0 true false
    introD
    run 126 0 true false
    killR ``Mine.s63 `hp 0
    introD
    run 10 0 true false
    killR ``Mine.s4300 `hn 1
    finish 100
    -- on
    ev `(tactic| intro y6 H)
    go 28144 [28466, 28840, 29472, 29679] 450 true
    introD
    branch ``Mine.two_cases [`y6] `H
    -- row 6, a sign
    let split6 : TacticM Unit := do
      farSplit #[txE (consE [99, 111, 110, 115, 116] nilE), txE (consE [34] (consF (← fvarOf `x) (consE [34] nilE)))]
      sidesSplit hjK (give `hf (do mkAppM ``Mine.hf6 #[← fvarOf `hx]))
    split6
    run 255 0 true false
    introD
    split6
    run 280 0 true false
    run 200 0 true false
    kill ``Mine.s92 1
    introD
    run 26 0 true false
    kill ``Mine.s34 1
    introD
    run 20 0 true false
    kill ``Mine.smid 2
    finish 150
    finish 150
    -- row 6, a far number
    let split6b : TacticM Unit := do
      farSplit #[txE (consE [99, 111, 110, 115, 116] nilE), txE (consE [49, 48] (← fvarOf `R))]
      sidesSplit (give `hj (do mkAppM ``Mine.hj6b #[← fvarOf `R])) (give `hf (do mkAppM ``Mine.hf6b #[← fvarOf `hR]))
    split6b
    run 255 0 true false
    introD
    split6b
    run 160 0 true false
    run 156 0 true false
    killR ``Mine.s63 `hp 0
    introD
    run 20 0 true false
    killR ``Mine.s4300 `hn 1
    finish 100
    note "tidy"
    settle kT
    note "kT"
    settle kS
    note "kS"
    settle kW
    note "kW"
    gTop.withContext do
      let v ← instantiateMVars (mkMVar gTop)
      let v ← tidy v
      gTop.assign v
    note "tidied"
end Mine
theorem PySem.Challenge.cw_rg0178_01_holds : PySem.Challenge.rw_rg0178_01.Holds := by
  exact Mine.main
