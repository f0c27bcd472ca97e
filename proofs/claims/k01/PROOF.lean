import PyProof.Rows.All
import Wide.All
import OpenK.AllK
import Wide.FinOn
import HandS.ForMost
import HandS.IsInst
import HandS.Wide
import HandS.WideBits
import HandS.TupAny
import HandS.TupLe
import HandS.Evl
import PySem.Challenge.RW_phasemill_k01_operations
set_option Elab.async false
set_option linter.all false
set_option maxRecDepth 100000
set_option maxHeartbeats 2000000
/-! Pm: programs by their data alone. -/
namespace Pm
open PySem PySem.Spec PyProof.Rows L2 Evl

abbrev D := PyData
abbrev W := List (Addr × List D)

/-! ### heaps in two halves: f what is told as data for good, h what stands -/
structure HH where
  f : Hp
  h : Hp
  ok : Ex f h

section
variable {K : PySem.W.Frag} {H H' : Hp}
mutual
theorem Dp.mono (e : Ex H H') : ∀ {v : V} {d : D}, Dp K H v d → Dp K H' v d
  | _, _, .non => .non
  | _, _, .bl b => .bl b
  | _, _, .int i => .int i
  | _, _, .str x => .str x
  | _, _, .lst h r => .lst (ex_l e h) (DpAll.mono e r)
  | _, _, .tup h r => .tup (ex_t e h) (DpAll.mono e r)
theorem DpAll.mono (e : Ex H H') : ∀ {v : List V} {d : List D}, DpAll K H v d → DpAll K H' v d
  | _, _, .nil => .nil
  | _, _, .cons h r => .cons (Dp.mono e h) (DpAll.mono e r)
end
end

/-- what is known of a slot -/
inductive Slot where
  | none
  | dat (d : D)
  | own (a : Addr)

def SlotOk (K : PySem.W.Frag) (f : Hp) (s : Option V) : Slot → Prop
  | .none => True
  | .dat d => ∃ v, s = some v ∧ Dp K f v d
  | .own a => s = some (.ref a)
abbrev Sig (K : PySem.W.Frag) (f : Hp) (σ : L2.St) (ρ : List Slot) : Prop := Paired (SlotOk K f) σ ρ

theorem SlotOk.mono {K : PySem.W.Frag} {f f' : Hp} {s : Option V} {r : Slot} (e : Ex f f') (h : SlotOk K f s r) : SlotOk K f' s r := by
  cases r with
  | none => exact trivial
  | dat d => obtain ⟨v, e1, h1⟩ := h; exact ⟨v, e1, Dp.mono e h1⟩
  | own a => exact h
theorem Paired.imp {α β : Type} {R R' : α → β → Prop} (k : ∀ a b, R a b → R' a b) : ∀ {xs : List α} {ys : List β}, Paired R xs ys → Paired R' xs ys
  | _, _, .nil => .nil
  | _, _, .cons r t => .cons (k _ _ r) (Paired.imp k t)
theorem Paired.get {α β : Type} {R : α → β → Prop} : ∀ {xs : List α} {ys : List β} {i : Nat} {y : β}, Paired R xs ys → ys[i]? = some y → ∃ x, xs[i]? = some x ∧ R x y
  | _, _, _, _, .nil, e => by simp at e
  | _, _, 0, _, .cons r _, e => by simp at e; subst e; exact ⟨_, rfl, r⟩
  | _, _, i + 1, y, .cons _ t, e => by
    obtain ⟨u, h1, h2⟩ := Paired.get (i := i) (y := y) t (by simpa using e)
    exact ⟨u, by simpa using h1, h2⟩
theorem Paired.set {α β : Type} {R : α → β → Prop} {x : α} {y : β} (r : R x y) : ∀ {xs : List α} {ys : List β} (i : Nat), Paired R xs ys → Paired R (xs.set i x) (ys.set i y)
  | _, _, _, .nil => .nil
  | _, _, 0, .cons _ t => .cons r t
  | _, _, i + 1, .cons q t => .cons q (Paired.set r i t)
theorem Sig.mono {K : PySem.W.Frag} {f f' : Hp} {σ : L2.St} {ρ : List Slot} (e : Ex f f') (h : Sig K f σ ρ) : Sig K f' σ ρ := Paired.imp (fun _ _ => SlotOk.mono e) h
theorem Sig.none {K : PySem.W.Frag} {f : Hp} {σ : L2.St} {ρ : List Slot} (i : Nat) (v : Option V) (h : Sig K f σ ρ) : Sig K f (σ.set i v) (ρ.set i .none) := Paired.set (show SlotOk K f v .none from trivial) i h
def wipeS (ρ : List Slot) : List Nat → List Slot
  | [] => ρ
  | v :: vs => (wipeS ρ vs).set v .none
theorem Sig.wipe {K : PySem.W.Frag} {f : Hp} {σ : L2.St} {ρ : List Slot} (h : Sig K f σ ρ) : ∀ vs : List Nat, Sig K f (wipe σ vs) (wipeS ρ vs)
  | [] => h
  | v :: vs => Sig.none v _ (Sig.wipe h vs)

/-! ### the owned lists -/
def dom (w : W) : List Addr := w.map (·.1)
structure Own (K : PySem.W.Frag) (w : W) (B : HH) : Prop where
  nd : (dom w).Nodup
  has : ∀ q ∈ w, (∃ vs, B.h q.1 = some (.lst vs) ∧ DpAll K B.f vs q.2) ∧ B.f q.1 = none
theorem own_nil {K : PySem.W.Frag} {B : HH} : Own K [] B := ⟨List.nodup_nil, fun q h => by simp at h⟩

/-- a step that may change the lists at S alone -/
structure Le (S : List Addr) (B C : HH) : Prop where
  f : Ex B.f C.f
  h : ∀ a o, a ∉ S → B.h a = some o → C.h a = some o
  new : ∀ a, C.f a ≠ none → B.f a ≠ none ∨ B.h a = none ∨ a ∈ S
  st : ∀ a, B.h a ≠ none → C.h a ≠ none
theorem Le.refl (S : List Addr) (B : HH) : Le S B B := ⟨Ex.refl _, fun _ _ _ e => e, fun _ h => .inl h, fun _ h => h⟩
theorem Own.at {K : PySem.W.Frag} {w : W} {B : HH} (o : Own K w B) {a : Addr} (m : a ∈ dom w) : (∃ vs, B.h a = some (.lst vs)) ∧ B.f a = none := by
  obtain ⟨q, hq, e⟩ := List.mem_map.mp m
  subst e
  obtain ⟨⟨vs, z, _⟩, n⟩ := o.has q hq
  exact ⟨⟨vs, z⟩, n⟩
theorem Le.trans {B C E : HH} {S : List Addr} (a : Le S B C) (b : Le S C E) : Le S B E := by
  refine ⟨a.f.trans b.f, fun x u n e => b.h x u n (a.h x u n e), fun x n => ?_, fun x n => b.st x (a.st x n)⟩
  rcases b.new x n with h | h | h
  · exact a.new x h
  · by_cases m : x ∈ S
    · exact .inr (.inr m)
    · refine .inr (.inl ?_)
      cases q : B.h x with
      | none => rfl
      | some u => rw [a.h x u m q] at h; cases h
  · exact .inr (.inr h)
theorem Own.step {K : PySem.W.Frag} {w : W} {B C : HH} {S : List Addr} (o : Own K w B) (l : Le S B C) (d : ∀ a ∈ dom w, a ∉ S) : Own K w C := by
  refine ⟨o.nd, fun q hq => ?_⟩
  obtain ⟨⟨vs, z, y⟩, n⟩ := o.has q hq
  have hd : q.1 ∉ S := d _ (List.mem_map.mpr ⟨q, hq, rfl⟩)
  refine ⟨⟨vs, l.h _ _ hd z, DpAll.mono l.f y⟩, ?_⟩
  cases e : C.f q.1 with
  | none => rfl
  | some u =>
    rcases l.new q.1 (by rw [e]; simp) with k | k | k
    · exact absurd n k
    · rw [z] at k; cases k
    · exact absurd k hd
theorem Le.widen {S T : List Addr} {B C : HH} (l : Le S B C) (h : ∀ a ∈ S, a ∈ T) : Le T B C := ⟨l.f, fun a o n e => l.h a o (fun m => n (h a m)) e, fun a n => (l.new a n).imp id (Or.imp id (h a)), l.st⟩
theorem Le.nil {S : List Addr} {B C : HH} (l : Le [] B C) : Le S B C := l.widen fun a m => by simp at m

/-! ### the weakest readings -/
def wE (X : Cx) (e : Expr) : TE := fun σ H Q => ∀ pins s, Inv X pins σ H s → wpAny (model X.prog X.w) X.A (eval e X.env) (EP X pins σ Q) X.xe s
def wT (X : Cx) (e : Expr) : TT := fun σ H Q => ∀ pins s, Inv X pins σ H s → wpAny (model X.prog X.w) X.A (isTrue e X.env (eval e X.env)) (TP X pins σ Q) X.xe s
def wW (X : Cx) (e : Expr) : TT := fun σ H Q => ∀ whole pins s, Inv X pins σ H s → wpAny (model X.prog X.w) X.A (isTrue e X.env whole) (TP X pins σ Q) X.xe s
def wA (X : Cx) (es : List Expr) : TA := fun σ H Q => ∀ (pos : Pos) pins s, Inv X pins σ H s → wpAny (model X.prog X.w) X.A (spliced (backTo pos (starEach es X.env))) (AP X pins σ Q) X.xe s
def wS (X : Cx) (st : Stmt) : TS := fun D σ H => ∀ pins s, Inv X pins σ H s → wpAny (model X.prog X.w) X.A (exec st X.env) (SP X pins D) X.xe s
def wSs (X : Cx) (st : List Stmt) : TS := fun D σ H => ∀ pins s, Inv X pins σ H s → wpAny (model X.prog X.w) X.A (execs st X.env) (SP X pins D) X.xe s
section
variable {X : Cx} {e : Expr} {es : List Expr} {st : Stmt} {sts : List Stmt}
theorem pe_w : PE X e (wE X e) := ⟨fun pins s _ _ _ I h => h pins s I⟩
theorem pt_w : PT X e (wT X e) := ⟨fun pins s _ _ _ I h => h pins s I⟩
theorem pw_w : PW X e (wW X e) := ⟨fun wh pins s _ _ _ I h => h wh pins s I⟩
theorem pa_w : PA X es (wA X es) := ⟨fun pos pins s _ _ _ I h => h pos pins s I⟩
theorem ps_w : PS X st (wS X st) := ⟨fun pins s _ _ _ I h => h pins s I⟩
theorem pss_w : PSs X sts (wSs X sts) := ⟨fun pins s _ _ _ I h => h pins s I⟩
theorem w_e {t : TE} {σ : L2.St} {H : Hp} {Q : VK} (p : PE X e t) (h : t σ H Q) : wE X e σ H Q := fun pins s I => p.run pins s σ H Q I h
theorem w_t {t : TT} {σ : L2.St} {H : Hp} {Q : Bool → Hp → Prop} (p : PT X e t) (h : t σ H Q) : wT X e σ H Q := fun pins s I => p.run pins s σ H Q I h
theorem w_w {t : TT} {σ : L2.St} {H : Hp} {Q : Bool → Hp → Prop} (p : PW X e t) (h : t σ H Q) : wW X e σ H Q := fun wh pins s I => p.run wh pins s σ H Q I h
theorem w_a {t : TA} {σ : L2.St} {H : Hp} {Q : List V → Hp → Prop} (p : PA X es t) (h : t σ H Q) : wA X es σ H Q := fun pos pins s I => p.run pos pins s σ H Q I h
theorem w_s {t : TS} {σ : L2.St} {H : Hp} {D : Ends} (p : PS X st t) (h : t D σ H) : wS X st D σ H := fun pins s I => p.run pins s σ H D I h
theorem w_ss {t : TS} {σ : L2.St} {H : Hp} {D : Ends} (p : PSs X sts t) (h : t D σ H) : wSs X sts D σ H := fun pins s I => p.run pins s σ H D I h
end

/-! ### data judgements -/
structure Ev (X : Cx) (e : Expr) (ρ : List Slot) (w w' : W) (d : D) : Prop where
  dm : dom w' = dom w
  run : ∀ σ B, Sig X.K B.f σ ρ → Own X.K w B → ∀ Q : VK, (∀ v C, Le (dom w) B C → Own X.K w' C → Dp X.K C.f v d → Q v C.h) → wE X e σ B.h Q
structure EvT (X : Cx) (e : Expr) (ρ : List Slot) (w w' : W) (b : Bool) : Prop where
  dm : dom w' = dom w
  run : ∀ σ B, Sig X.K B.f σ ρ → Own X.K w B → ∀ Q : Bool → Hp → Prop, (∀ C, Le (dom w) B C → Own X.K w' C → Q b C.h) → wT X e σ B.h Q
structure EvW (X : Cx) (e : Expr) (ρ : List Slot) (w w' : W) (b : Bool) : Prop where
  dm : dom w' = dom w
  run : ∀ σ B, Sig X.K B.f σ ρ → Own X.K w B → ∀ Q : Bool → Hp → Prop, (∀ C, Le (dom w) B C → Own X.K w' C → Q b C.h) → wW X e σ B.h Q
/-- arguments: data, or an owned list's name -/
inductive Ag where
  | dat (d : D)
  | own (a : Addr)
def AgOk (K : PySem.W.Frag) (f : Hp) (v : V) : Ag → Prop
  | .dat d => Dp K f v d
  | .own a => v = .ref a
theorem AgOk.mono {K : PySem.W.Frag} {f f' : Hp} {v : V} {r : Ag} (e : Ex f f') (h : AgOk K f v r) : AgOk K f' v r := by
  cases r with
  | dat d => exact Dp.mono e h
  | own a => exact h
structure EvA (X : Cx) (es : List Expr) (ρ : List Slot) (w w' : W) (as : List Ag) : Prop where
  dm : dom w' = dom w
  run : ∀ σ B, Sig X.K B.f σ ρ → Own X.K w B → ∀ Q : List V → Hp → Prop, (∀ vs C, Le (dom w) B C → Own X.K w' C → Paired (AgOk X.K C.f) vs as → Q vs C.h) → wA X es σ B.h Q

section
variable {X : Cx} {e a b : Expr} {es rest : List Expr} {ρ : List Slot} {w w1 w2 w3 : W} {d d1 d2 : D} {pos : Pos}

theorem Ev.var (i : Nat) {x : Str} (hi : ρ[i]? = some (.dat d)) (hN : X.N[i]? = some x := by rfl) (hv : Vis X.env.scope x := by first | exact Or.inl rfl | exact Or.inr (Or.inl rfl) | exact Or.inr (Or.inr rfl)) (hd : (x == ("__debug__" : Str)) = false := by decide)
    (hcd : (x == ("__classdict__" : Str)) = false := by decide) : Ev X (.Name x pos) ρ w w d := by
  refine ⟨rfl, fun σ B hs ho Q q => w_e (pe_var hN hv hd hcd) ?_⟩
  obtain ⟨s, e1, v, e2, h⟩ := Paired.get hs hi
  exact ⟨v, by rw [e1, e2], q v B (Le.refl _ _) ho h⟩
theorem Ev.int {i : Int} {j : Nat} : Ev X (.Constant (.int i) j pos) ρ w w (.int i) := ⟨rfl, fun σ B hs ho Q q => w_e pe_int (q _ B (Le.refl _ _) ho (.int i))⟩
theorem Ev.bl {i : Bool} {j : Nat} : Ev X (.Constant (.bool i) j pos) ρ w w (.bool i) := ⟨rfl, fun σ B hs ho Q q => w_e pe_bl (q _ B (Le.refl _ _) ho (.bl i))⟩
theorem Ev.non {j : Nat} : Ev X (.Constant .none j pos) ρ w w .none := ⟨rfl, fun σ B hs ho Q q => w_e pe_non (q _ B (Le.refl _ _) ho .non)⟩
theorem Ev.str {i : Str} {j : Nat} : Ev X (.Constant (.str i) j pos) ρ w w (.str i) := ⟨rfl, fun σ B hs ho Q q => w_e pe_str (q _ B (Le.refl _ _) ho (.str i))⟩
/-- a module's constant, told in the written part -/
theorem Ev.glob {x : Str} {v : V} {u : Value} (hm : X.mg x = some u) (hr : RelV v u) (hd : ∀ f : Hp, Dp X.K f v d) (hg : Gl X x := by rfl) (hdb : (x == ("__debug__" : Str)) = false := by decide) : Ev X (.Name x pos) ρ w w d :=
  ⟨rfl, fun σ B hs ho Q q => w_e (pe_glob hg hm hr hdb) (q _ B (Le.refl _ _) ho (hd _))⟩
theorem Ev.to (h : Ev X e ρ w w1 d) (k : d = d1) : Ev X e ρ w w1 d1 := k ▸ h

/-- sequence: first a, then b where a has led -/
theorem lift2 {S : W} {B C E : HH} {K : PySem.W.Frag} (h1 : dom w1 = dom w) (l1 : Le (dom w) B C) (o1 : Own K w1 C) (l2 : Le (dom w1) C E) : Le (dom w) B E := by
  rw [h1] at l2
  exact Le.trans l1 l2

/-! ### operators -/
def rW (X : Cx) (f : Value → Value → Sem Value) : R2 := fun x y H Q => ∀ pins s σ v u, Inv X pins σ H s → RelV x v → RelV y u → wpAny (model X.prog X.w) X.A (f v u) (EP X pins σ Q) X.xe s
theorem op_w {f : Value → Value → Sem Value} : OpR X f (rW X f) := fun pins s σ H x y v u Q I rx ry h => h pins s σ v u I rx ry
theorem r_w {f : Value → Value → Sem Value} {r : R2} {x y : V} {H : Hp} {Q : VK} (o : OpR X f r) (h : r x y H Q) : rW X f x y H Q := fun pins s σ v u I rx ry => o pins s σ H x y v u Q I rx ry h
/-- an operator on data: it makes at most new things -/
def OpD (X : Cx) (f : Value → Value → Sem Value) (d1 d2 d : D) : Prop := ∀ (B : HH) (x y : V), Dp X.K B.f x d1 → Dp X.K B.f y d2 → ∀ Q : VK, (∀ v C, Le [] B C → Dp X.K C.f v d → Q v C.h) → rW X f x y B.h Q
structure OpB (X : Cx) (op : Operator) (d1 d2 d : D) : Prop where
  run : OpD X (binaryOp op) d1 d2 d
structure OpC (X : Cx) (op : CmpOp) (d1 d2 d : D) : Prop where
  run : OpD X (compareOp op) d1 d2 d
theorem OpD.to {f : Value → Value → Sem Value} (h : OpD X f d1 d2 d) {d' : D} (e : d = d') : OpD X f d1 d2 d' := e ▸ h
theorem Ev.op2 {T : Expr} {f : Value → Value → Sem Value} (hT : ∀ {ta tb : TE} {r : R2}, OpR X f r → PE X a ta → PE X b tb → PE X T (tOp r ta tb)) (ha : Ev X a ρ w w1 d1) (hb : Ev X b ρ w1 w2 d2) (ho : OpD X f d1 d2 d) : Ev X T ρ w w2 d := by
  refine ⟨hb.dm.trans ha.dm, fun σ B hs hw Q q => w_e (hT op_w pe_w pe_w) ?_⟩
  refine ha.run σ B hs hw _ fun x C1 l1 o1 x1 => ?_
  refine hb.run σ C1 (Sig.mono l1.f hs) o1 _ fun y C2 l2 o2 y1 => ?_
  refine ho C2 x y (Dp.mono l2.f x1) y1 Q fun v C3 l3 v1 => ?_
  have l12 : Le (dom w) B C2 := lift2 (S := w) ha.dm l1 o1 l2
  exact q v C3 (by
    have z : Le (dom w2) C2 C3 := l3.nil
    exact lift2 (S := w) (hb.dm.trans ha.dm) l12 o2 z) (o2.step l3 (by simp)) v1
theorem Ev.bin {op : Operator} (ha : Ev X a ρ w w1 d1) (hb : Ev X b ρ w1 w2 d2) (ho : OpB X op d1 d2 d) : Ev X (.BinOp a op b pos) ρ w w2 d := Ev.op2 (fun o x y => pe_op o x y) ha hb ho.run
theorem Ev.cmp {op : CmpOp} (ha : Ev X a ρ w w1 d1) (hb : Ev X b ρ w1 w2 d2) (ho : OpC X op d1 d2 d) (hm : behindInMarks op b = false := by first | exact nomark _ | exact nobehind _ (by decide) (by decide) | rfl) : Ev X (.Compare a [op] [b] pos) ρ w w2 d :=
  Ev.op2 (fun o x y => pe_cmpR o x y hm) ha hb ho.run
end

section
variable {X : Cx} {e a b c : Expr} {es rest : List Expr} {ρ : List Slot} {w w1 w2 w3 : W} {d d1 d2 : D} {pos : Pos}

/-! ### operators on data -/
theorem OpD.int {f : Value → Value → Sem Value} {C : Int → Int → Prop} {g : Int → Int → V} {i j : Int} (o : OpR X f (rI C g)) (hc : C i j) (hd : ∀ F : Hp, Dp X.K F (g i j) d) : OpD X f (.int i) (.int j) d := fun B x y hx hy Q q => by
  cases hx
  cases hy
  exact r_w o ⟨i, j, rfl, rfl, hc, q _ B (Le.refl _ _) (hd _)⟩
theorem OpD.int0 {f : Value → Value → Sem Value} {g : Int → Int → V} {i j : Int} (o : OpR X f (rI0 g)) (hd : ∀ F : Hp, Dp X.K F (g i j) d) : OpD X f (.int i) (.int j) d := fun B x y hx hy Q q => by
  cases hx
  cases hy
  exact r_w o ⟨i, j, rfl, rfl, q _ B (Le.refl _ _) (hd _)⟩
theorem od_add {i j : Int} : OpB X .Add (.int i) (.int j) (.int (i + j)) := ⟨.int0 op_add fun _ => .int _⟩
theorem od_sub {i j : Int} : OpB X .Sub (.int i) (.int j) (.int (i - j)) := ⟨.int0 op_sub fun _ => .int _⟩
theorem od_mul {i j : Int} (h : CMul i j) : OpB X .Mult (.int i) (.int j) (.int (i * j)) := ⟨.int op_mul h fun _ => .int _⟩
theorem od_mulX {i j : Int} (h : CMulX i j) : OpB X .Mult (.int i) (.int j) (.int (i * j)) := ⟨.int op_mulX h fun _ => .int _⟩
theorem od_mod {i j : Int} (h : 0 < j) : OpB X .Mod (.int i) (.int j) (.int (i % j)) := ⟨.int op_mod h fun _ => .int _⟩
theorem od_div {i j : Int} (h : 0 < j ∧ j < 1073741824) : OpB X .FloorDiv (.int i) (.int j) (.int (i / j)) := ⟨.int op_fdiv h fun _ => .int _⟩
theorem od_divW {i j : Int} (h : CDivW i j) : OpB X .FloorDiv (.int i) (.int j) (.int (i / j)) := ⟨.int op_fdivW h fun _ => .int _⟩
theorem od_pow {i j : Int} (h : CPow i j) : OpB X .Pow (.int i) (.int j) (.int (i ^ j.toNat)) := ⟨.int op_pow h fun _ => .int _⟩
theorem od_shlW {i j : Int} (h : CShl i j) : OpB X .LShift (.int i) (.int j) (.int (i * 2 ^ j.toNat)) := ⟨.int op_shlW h fun _ => .int _⟩
theorem od_lt {i j : Int} : OpC X .Lt (.int i) (.int j) (.bool (decide (i < j))) := ⟨.int0 op_lt fun _ => .bl _⟩
theorem od_le {i j : Int} : OpC X .LtE (.int i) (.int j) (.bool (decide (i ≤ j))) := ⟨.int0 op_le fun _ => .bl _⟩
theorem od_gt {i j : Int} : OpC X .Gt (.int i) (.int j) (.bool (decide (j < i))) := ⟨.int0 op_gt fun _ => .bl _⟩
theorem od_ge {i j : Int} : OpC X .GtE (.int i) (.int j) (.bool (decide (j ≤ i))) := ⟨.int0 op_ge fun _ => .bl _⟩
theorem od_eq {i j : Int} : OpC X .Eq (.int i) (.int j) (.bool (decide (i = j))) := ⟨fun B x y hx hy Q q => by
  cases hx
  cases hy
  have e : decide (V.int i = V.int j) = decide (i = j) := by
    by_cases h : i = j
    · subst h; simp
    · rw [decide_eq_false h, decide_eq_false (fun z => h (V.int.inj z))]
  exact r_w op_eq ⟨rfl, q _ B (Le.refl _ _) (by rw [e]; exact .bl _)⟩⟩
theorem od_ne {i j : Int} : OpC X .NotEq (.int i) (.int j) (.bool (decide (i ≠ j))) := ⟨fun B x y hx hy Q q => by
  cases hx
  cases hy
  have e : (!decide (V.int i = V.int j)) = decide (i ≠ j) := by
    by_cases h : i = j
    · subst h; simp
    · rw [decide_eq_false (fun z => h (V.int.inj z)), decide_eq_true h]; rfl
  exact r_w op_ne ⟨rfl, q _ B (Le.refl _ _) (by rw [e]; exact .bl _)⟩⟩
/-- == of any data -/
theorem od_eqD (hu : X.A.units + 64 < cLine) (s1 : SeqAt.shaped d1 = true) (s2 : SeqAt.shaped d2 = true) : OpC X .Eq d1 d2 (.bool (PyData.eqv d1 d2)) := ⟨fun B x y hx hy Q q =>
  r_w (op_eqD hu) ⟨d1, d2, Dp.mono B.ok hx, Dp.mono B.ok hy, s1, s2, q _ B (Le.refl _ _) (.bl _)⟩⟩
theorem od_neD (hu : X.A.units + 64 < cLine) (s1 : SeqAt.shaped d1 = true) (s2 : SeqAt.shaped d2 = true) : OpC X .NotEq d1 d2 (.bool (!PyData.eqv d1 d2)) := ⟨fun B x y hx hy Q q =>
  r_w (op_neD hu) ⟨d1, d2, Dp.mono B.ok hx, Dp.mono B.ok hy, s1, s2, q _ B (Le.refl _ _) (.bl _)⟩⟩
/-- is None, is True, is False -/
theorem is_bool_gen {M : Model} {A : Around} {E : Value → Shared → Prop} {Q : Value → Shared → Prop} {s : Shared} {v : Value} {b : Bool} (hv : ∀ i, v ≠ .builtin i) (h : Q (.bool (v == .bool b)) s) : wpAny M A (compareOp .Is v (.bool b)) Q E s := by
  cases v with
  | builtin i => exact absurd rfl (hv i)
  | _ => exact wpAny_pure h
def isBoolD (b : Bool) : D → Bool
  | .bool c => c == b
  | _ => false
def isNoneD : D → Bool
  | .none => true
  | _ => false
theorem od_isB {b : Bool} : OpC X .Is d (.bool b) (.bool (isBoolD b d)) := ⟨fun B x y hx hy Q q => by
  cases hy
  intro pins s σ v u I rx ry
  cases ry
  have key : ∀ k : Bool, k = isBoolD b d → EP X pins σ Q (.bool k) s := fun k e => ⟨.bl k, B.h, I, rfl, q _ B (Le.refl _ _) (by rw [e]; exact .bl _)⟩
  cases hx with
  | non =>
    cases rx
    exact is_bool_gen (fun i z => by cases z) (key _ rfl)
  | bl c =>
    cases rx
    refine is_bool_gen (fun i z => by cases z) (key _ ?_)
    cases c <;> cases b <;> rfl
  | int i =>
    obtain ⟨t, rfl⟩ := rx
    exact is_bool_gen (fun i z => by cases z) (key _ rfl)
  | str i =>
    obtain ⟨t, rfl⟩ := rx
    exact is_bool_gen (fun i z => by cases z) (key _ rfl)
  | lst _ _ =>
    cases rx
    exact is_bool_gen (fun i z => by cases z) (key _ rfl)
  | tup _ _ =>
    cases rx
    exact is_bool_gen (fun i z => by cases z) (key _ rfl)⟩
theorem od_isN : OpC X .Is d .none (.bool (isNoneD d)) := ⟨fun B x y hx hy Q q => by
  cases hy
  refine r_w op_isN ⟨rfl, q _ B (Le.refl _ _) ?_⟩
  cases hx <;> exact .bl _⟩
theorem od_isNotN : OpC X .IsNot d .none (.bool (!isNoneD d)) := ⟨fun B x y hx hy Q q => by
  cases hy
  refine r_w op_notN ⟨rfl, q _ B (Le.refl _ _) ?_⟩
  cases hx <;> exact .bl _⟩

/-! ### one-place operators -/
theorem Ev.neg {i : Int} (ha : Ev X a ρ w w1 (.int i)) : Ev X (.UnaryOp .USub a pos) ρ w w1 (.int (-i)) := by
  refine ⟨ha.dm, fun σ B hs ho Q q => w_e (pe_un un_neg pe_w) ?_⟩
  refine ha.run σ B hs ho _ fun x C l o h => ?_
  cases h
  exact ⟨i, rfl, q _ C l o (.int _)⟩

/-! ### tests -/
theorem EvT.cmp {op : CmpOp} {k : Bool} (ha : Ev X a ρ w w1 d1) (hb : Ev X b ρ w1 w2 d2) (ho : OpC X op d1 d2 (.bool k)) (hm : behindInMarks op b = false := by first | exact nomark _ | exact nobehind _ (by decide) (by decide) | rfl) : EvT X (.Compare a [op] [b] pos) ρ w w2 k := by
  refine ⟨hb.dm.trans ha.dm, fun σ B hs hw Q q => w_t (pt_cmpR op_w pe_w pe_w hm) ?_⟩
  refine ha.run σ B hs hw _ fun x C1 l1 o1 x1 => ?_
  refine hb.run σ C1 (Sig.mono l1.f hs) o1 _ fun y C2 l2 o2 y1 => ?_
  refine ho.run C2 x y (Dp.mono l2.f x1) y1 _ fun v C3 l3 v1 => ?_
  have l12 : Le (dom w) B C2 := lift2 (S := w) ha.dm l1 o1 l2
  cases v1
  exact ⟨k, rfl, q C3 (lift2 (S := w) (hb.dm.trans ha.dm) l12 o2 l3.nil) (o2.step l3 (by simp))⟩
/-- any expression whose value is a bool -/
theorem EvT.val {k : Bool} (ha : Ev X a ρ w w1 (.bool k)) (he : ∀ whole, isTrue a X.env whole = (do let v ← whole; standAt a.pos; holding [v] (truthy v)) := by intro _; rfl) : EvT X a ρ w w1 k := by
  refine ⟨ha.dm, fun σ B hs hw Q q => w_t (pt_val pe_w he) ?_⟩
  refine ha.run σ B hs hw _ fun x C1 l1 o1 x1 => ?_
  cases x1
  exact ⟨k, rfl, q C1 l1 o1⟩
theorem EvT.not {k : Bool} (ha : EvT X a ρ w w1 k) : EvT X (.UnaryOp .Not a pos) ρ w w1 (!k) := by
  refine ⟨ha.dm, fun σ B hs hw Q q => w_t (pt_not pt_w) ?_⟩
  exact ha.run σ B hs hw _ fun C1 l1 o1 => q C1 l1 o1
theorem EvT.of {k : Bool} (h : EvW X a ρ w w1 k) : EvT X a ρ w w1 k := ⟨h.dm, fun σ B hs hw Q q => w_t (PW.pt pw_w) (h.run σ B hs hw Q q)⟩
theorem EvT.to {k j : Bool} (h : EvT X a ρ w w1 k) (e : k = j) : EvT X a ρ w w1 j := e ▸ h
theorem EvW.and1 {k : Bool} (h : EvT X a ρ w w1 k) : EvW X (.BoolOp .And [a] pos) ρ w w1 k := ⟨h.dm, fun σ B hs hw Q q => w_w (pw_and1 pt_w) (h.run σ B hs hw Q q)⟩
theorem EvW.or1 {k : Bool} (h : EvT X a ρ w w1 k) : EvW X (.BoolOp .Or [a] pos) ρ w w1 k := ⟨h.dm, fun σ B hs hw Q q => w_w (pw_or1 pt_w) (h.run σ B hs hw Q q)⟩
theorem EvW.and {k j : Bool} (ha : EvT X a ρ w w1 k) (hb : k = true → EvW X (.BoolOp .And (b :: rest) pos) ρ w1 w1 j) : EvW X (.BoolOp .And (a :: b :: rest) pos) ρ w w1 (k && j) := by
  refine ⟨ha.dm, fun σ B hs hw Q q => w_w (pw_and pt_w pw_w) ?_⟩
  refine ha.run σ B hs hw _ fun C1 l1 o1 => ?_
  cases k with
  | false => exact q C1 l1 o1
  | true => exact (hb rfl).run σ C1 (Sig.mono l1.f hs) o1 _ fun C2 l2 o2 => q C2 (lift2 (S := w) ha.dm l1 o1 l2) o2
theorem EvW.or {k j : Bool} (ha : EvT X a ρ w w1 k) (hb : k = false → EvW X (.BoolOp .Or (b :: rest) pos) ρ w1 w1 j) : EvW X (.BoolOp .Or (a :: b :: rest) pos) ρ w w1 (k || j) := by
  refine ⟨ha.dm, fun σ B hs hw Q q => w_w (pw_or pt_w pw_w) ?_⟩
  refine ha.run σ B hs hw _ fun C1 l1 o1 => ?_
  cases k with
  | true => exact q C1 l1 o1
  | false => exact (hb rfl).run σ C1 (Sig.mono l1.f hs) o1 _ fun C2 l2 o2 => q C2 (lift2 (S := w) ha.dm l1 o1 l2) o2
/-- as values -/
theorem Ev.bone {op : BoolOp} (h : Ev X a ρ w w1 d) : Ev X (.BoolOp op [a] pos) ρ w w1 d := ⟨h.dm, fun σ B hs hw Q q => w_e (pe_one pe_w) (h.run σ B hs hw Q q)⟩
theorem Ev.and {k j : Bool} (ha : Ev X a ρ w w1 (.bool k)) (hb : k = true → Ev X (.BoolOp .And (b :: rest) pos) ρ w1 w1 (.bool j)) : Ev X (.BoolOp .And (a :: b :: rest) pos) ρ w w1 (.bool (k && j)) := by
  refine ⟨ha.dm, fun σ B hs hw Q q => w_e (pe_and pe_w pe_w) ?_⟩
  refine ha.run σ B hs hw _ fun x C1 l1 o1 x1 => ?_
  cases x1
  refine ⟨k, rfl, ?_⟩
  cases k with
  | false => exact q _ C1 l1 o1 (.bl _)
  | true => exact (hb rfl).run σ C1 (Sig.mono l1.f hs) o1 _ fun v C2 l2 o2 v2 => q v C2 (lift2 (S := w) ha.dm l1 o1 l2) o2 v2
theorem Ev.or {k j : Bool} (ha : Ev X a ρ w w1 (.bool k)) (hb : k = false → Ev X (.BoolOp .Or (b :: rest) pos) ρ w1 w1 (.bool j)) : Ev X (.BoolOp .Or (a :: b :: rest) pos) ρ w w1 (.bool (k || j)) := by
  refine ⟨ha.dm, fun σ B hs hw Q q => w_e (pe_or pe_w pe_w) ?_⟩
  refine ha.run σ B hs hw _ fun x C1 l1 o1 x1 => ?_
  cases x1
  refine ⟨k, rfl, ?_⟩
  cases k with
  | true => exact q _ C1 l1 o1 (.bl _)
  | false => exact (hb rfl).run σ C1 (Sig.mono l1.f hs) o1 _ fun v C2 l2 o2 v2 => q v C2 (lift2 (S := w) ha.dm l1 o1 l2) o2 v2
theorem Ev.not {k : Bool} (ha : Ev X a ρ w w1 (.bool k)) : Ev X (.UnaryOp .Not a pos) ρ w w1 (.bool (!k)) := by
  refine ⟨ha.dm, fun σ B hs hw Q q => w_e (pe_not pe_w) ?_⟩
  refine ha.run σ B hs hw _ fun x C1 l1 o1 x1 => ?_
  cases x1
  exact ⟨k, rfl, q _ C1 l1 o1 (.bl _)⟩
theorem Ev.ifx {k : Bool} (hc : EvT X c ρ w w1 k) (h1 : k = true → Ev X a ρ w1 w2 d) (h2 : k = false → Ev X b ρ w1 w2 d) (hd : dom w2 = dom w1 := by rfl) : Ev X (.IfExp c a b pos) ρ w w2 d := by
  refine ⟨hd.trans hc.dm, fun σ B hs hw Q q => w_e (pe_ifExp pt_w pe_w pe_w) ?_⟩
  refine hc.run σ B hs hw _ fun C1 l1 o1 => ?_
  cases k with
  | true => exact (h1 rfl).run σ C1 (Sig.mono l1.f hs) o1 _ fun v C2 l2 o2 v2 => q v C2 (lift2 (S := w) hc.dm l1 o1 l2) o2 v2
  | false => exact (h2 rfl).run σ C1 (Sig.mono l1.f hs) o1 _ fun v C2 l2 o2 v2 => q v C2 (lift2 (S := w) hc.dm l1 o1 l2) o2 v2

/-! ### chains a op b op c .. -/
structure ChT (X : Cx) (d0 : D) (ops : List CmpOp) (es : List Expr) (ρ : List Slot) (w w' : W) (k : Bool) : Prop where
  dm : dom w' = dom w
  run : ∀ (pos : Pos) σ B, Sig X.K B.f σ ρ → Own X.K w B → ∀ v, Dp X.K B.f v d0 → ∀ Q : Bool → Hp → Prop, (∀ C, Le (dom w) B C → Own X.K w' C → Q k C.h) →
    ∀ pins s u, Inv X pins σ B.h s → RelV v u → wpAny (model X.prog X.w) X.A (testChain pos u ops (evalEach es X.env)) (TP X pins σ Q) X.xe s
theorem ChT.last {op : CmpOp} {k : Bool} {d0 : D} (hb : Ev X b ρ w w1 d1) (ho : OpC X op d0 d1 (.bool k)) : ChT X d0 [op] [b] ρ w w1 k := by
  refine ⟨hb.dm, fun pos σ B hs hw v hv Q q pins s u I r => ?_⟩
  refine test_last (thn (hb.run σ B hs hw (fun y H2 => rW X (compareOp op) v y H2 fun z H3 => ∃ j, z = .bl j ∧ Q j H3) (fun y C l o y1 => ho.run C v y (Dp.mono l.f hv) y1 _ fun z C2 l2 z2 => ?_) pins s I) fun u2 s1 ⟨y, H1, I1, r1, q1⟩ => thn (q1 pins s1 σ u u2 I1 r r1) fun u3 s2 ⟨z, H2, I2, r2, j, e, q2⟩ => ?_)
  · cases z2
    exact ⟨k, rfl, q C2 (lift2 (S := w) hb.dm l o l2.nil) (o.step l2 (by simp))⟩
  · subst e
    cases r2
    exact wpAny_truthy_bool ⟨H2, I2, q2⟩
theorem ChT.link {op op' : CmpOp} {ops : List CmpOp} {k j : Bool} {d0 : D} (hb : Ev X b ρ w w1 d1) (ho : OpC X op d0 d1 (.bool k)) (hr : k = true → ChT X d1 (op' :: ops) (c :: es) ρ w1 w1 j) : ChT X d0 (op :: op' :: ops) (b :: c :: es) ρ w w1 (k && j) := by
  refine ⟨hb.dm, fun pos σ B hs hw v hv Q q pins s u I r => ?_⟩
  refine test_link (thn (hb.run σ B hs hw (fun y H2 => rW X (compareOp op) v y H2 fun z H3 => z = .bl k ∧ ∃ C, C.h = H3 ∧ Le (dom w) B C ∧ Own X.K w1 C ∧ Dp X.K C.f y d1) (fun y C l o y1 => ho.run C v y (Dp.mono l.f hv) y1 _ fun z C2 l2 z2 => ?_) pins s I) fun u2 s1 ⟨y, H1, I1, r1, q1⟩ => thn (q1 pins s1 σ u u2 I1 r r1) fun u3 s2 ⟨z, H2, I2, r2, e, C, eC, l, o, y1⟩ => ?_)
  · cases z2
    exact ⟨rfl, C2, rfl, lift2 (S := w) hb.dm l o l2.nil, o.step l2 (by simp), Dp.mono l2.f y1⟩
  · subst e
    cases r2
    subst eC
    refine wpAny_truthy_bool ?_
    cases k with
    | false => exact ⟨_, I2, q C l o⟩
    | true => exact (hr rfl).run pos σ C (Sig.mono l.f hs) o y y1 Q (fun C2 l2 o2 => q C2 (lift2 (S := w) hb.dm l o l2) o2) pins s2 u2 I2 r1
theorem EvT.chain {op op' : CmpOp} {ops : List CmpOp} {k : Bool} (ha : Ev X a ρ w w1 d) (h : ChT X d (op :: op' :: ops) (b :: c :: es) ρ w1 w2 k) (hm : lastMarks (op :: op' :: ops) (b :: c :: es) = false := by with_unfolding_all rfl) : EvT X (.Compare a (op :: op' :: ops) (b :: c :: es) pos) ρ w w2 k := by
  refine ⟨h.dm.trans ha.dm, fun σ B hs hw Q q pins s I => ?_⟩
  refine isTrue_chain (thn (ha.run σ B hs hw (fun x H1 => ∃ C, C.h = H1 ∧ Le (dom w) B C ∧ Own X.K w1 C ∧ Dp X.K C.f x d) (fun x C l o x1 => ⟨C, rfl, l, o, x1⟩) pins s I) fun u s1 ⟨x, H1, I1, r1, C, eC, l, o, x1⟩ => ?_) hm
  subst eC
  exact h.run pos σ C (Sig.mono l.f hs) o x x1 Q (fun C2 l2 o2 => q C2 (lift2 (S := w) ha.dm l o l2) o2) pins s1 u I1 r1

/-! ### argument lists, displays -/
theorem EvA.nil : EvA X [] ρ w w [] := ⟨rfl, fun σ B hs hw Q q => w_a pa_nil (q [] B (Le.refl _ _) hw .nil)⟩
theorem EvA.cons {as : List Ag} (ha : Ev X e ρ w w1 d) (hr : EvA X es ρ w1 w2 as) (hst : starEach (e :: es) X.env = (false, eval e X.env) :: starEach es X.env := by rfl) : EvA X (e :: es) ρ w w2 (.dat d :: as) := by
  refine ⟨hr.dm.trans ha.dm, fun σ B hs hw Q q => w_a (pa_cons pe_w pa_w hst) ?_⟩
  refine ha.run σ B hs hw _ fun x C1 l1 o1 x1 => ?_
  refine hr.run σ C1 (Sig.mono l1.f hs) o1 _ fun vs C2 l2 o2 v2 => ?_
  exact q _ C2 (lift2 (S := w) ha.dm l1 o1 l2) o2 (.cons (show AgOk X.K C2.f x (.dat d) from Dp.mono l2.f x1) v2)
theorem EvA.own (i : Nat) {x : Str} {ad : Addr} {as : List Ag} (hi : ρ[i]? = some (.own ad)) (hr : EvA X es ρ w w2 as) (hN : X.N[i]? = some x := by rfl) (hv : Vis X.env.scope x := by first | exact Or.inl rfl | exact Or.inr (Or.inl rfl) | exact Or.inr (Or.inr rfl)) (hd : (x == ("__debug__" : Str)) = false := by decide)
    (hcd : (x == ("__classdict__" : Str)) = false := by decide) (hst : starEach (.Name x pos :: es) X.env = (false, eval (.Name x pos) X.env) :: starEach es X.env := by rfl) : EvA X (.Name x pos :: es) ρ w w2 (.own ad :: as) := by
  refine ⟨hr.dm, fun σ B hs hw Q q => w_a (pa_cons (pe_var hN hv hd hcd) pa_w hst) ?_⟩
  obtain ⟨s, e1, h⟩ := Paired.get hs hi
  refine ⟨.ref ad, by rw [e1]; exact congrArg some h, ?_⟩
  exact hr.run σ B hs hw _ fun vs C2 l2 o2 v2 => q _ C2 l2 o2 (.cons rfl v2)
/-- all data -/
def dats : List D → List Ag := List.map Ag.dat
theorem dats_all {K : PySem.W.Frag} {f : Hp} : ∀ {vs : List V} {ds : List D}, Paired (AgOk K f) vs (dats ds) → DpAll K f vs ds
  | _, [], .nil => .nil
  | _, _ :: _, .cons r t => .cons r (dats_all t)
theorem all_dats {K : PySem.W.Frag} {f : Hp} : ∀ {vs : List V} {ds : List D}, DpAll K f vs ds → Paired (AgOk K f) vs (dats ds)
  | _, _, .nil => .nil
  | _, _, .cons r t => .cons r (all_dats t)
theorem DpAll.length {K : PySem.W.Frag} {f : Hp} : ∀ {vs : List V} {ds : List D}, DpAll K f vs ds → vs.length = ds.length
  | _, _, .nil => rfl
  | _, _, .cons _ t => by rw [List.length_cons, List.length_cons, DpAll.length t]

/-- a new object that is data at once -/
def HH.add (B : HH) (p : Addr) (o : HO) (hp : B.h p = none) : HH := ⟨upd B.f p o, upd B.h p o, fun a u e => by
  by_cases z : a = p
  · subst z
    rw [upd_same] at e ⊢
    exact e
  · rw [upd_ne z] at e ⊢
    exact B.ok a u e⟩
theorem HH.free {B : HH} {p : Addr} (hp : B.h p = none) : B.f p = none := by
  cases e : B.f p with
  | none => rfl
  | some u => rw [B.ok _ _ e] at hp; cases hp
theorem upd_st {H : Hp} {p a : Addr} {o : HO} (h : H a ≠ none) : upd H p o a ≠ none := by
  by_cases z : a = p
  · rw [z, upd_same]; simp
  · rw [upd_ne z]; exact h
theorem HH.add_le {B : HH} {p : Addr} {o : HO} (hp : B.h p = none) {S : List Addr} : Le S B (B.add p o hp) := by
  refine ⟨Ex.new (HH.free hp), fun a u _ e => Ex.new hp a u e, fun a n => ?_, fun a n => upd_st n⟩
  by_cases z : a = p
  · exact .inr (.inl (by rw [z]; exact hp))
  · refine .inl ?_
    have e : (B.add p o hp).f a = B.f a := upd_ne z
    rw [e] at n
    exact n
/-- a new object that stands, not yet data -/
def HH.put (B : HH) (p : Addr) (o : HO) (hp : B.f p = none) : HH := ⟨B.f, upd B.h p o, fun a u e => by
  have z : a ≠ p := ne_of_none e hp
  rw [upd_ne z]
  exact B.ok a u e⟩

theorem Ev.tup {ds : List D} {k : Nat} (h : EvA X es ρ w w1 (dats ds)) (hl : ds.length ≤ 100000 := by first | decide | (simp only [List.length_cons, List.length_nil]; omega)) : Ev X (.Tuple es k pos) ρ w w1 (.tuple ds) := by
  refine ⟨h.dm, fun σ B hs hw Q q => w_e (pe_tup pa_w) ?_⟩
  refine h.run σ B hs hw _ fun vs C l o v => ?_
  have va := dats_all v
  refine ⟨sz_of (by rw [DpAll.length va]; exact hl), fun p hp => ?_⟩
  have l2 : Le (dom w1) C (C.add p (.tup vs) hp) := HH.add_le hp
  exact q (.ref p) (C.add p (.tup vs) hp) (lift2 (S := w) h.dm l o l2) (o.step (HH.add_le (S := []) hp) (by simp)) (.tup (SqT.of upd_same) (DpAll.mono l2.f va))
theorem Ev.lst {ds : List D} (h : EvA X es ρ w w1 (dats ds)) (hl : ds.length ≤ 100000 := by first | decide | (simp only [List.length_cons, List.length_nil]; omega)) : Ev X (.List es pos) ρ w w1 (.list ds) := by
  refine ⟨h.dm, fun σ B hs hw Q q => w_e (pe_lst pa_w) ?_⟩
  refine h.run σ B hs hw _ fun vs C l o v => ?_
  have va := dats_all v
  refine ⟨sz_of (by rw [DpAll.length va]; exact hl), fun p hp => ?_⟩
  have l2 : Le (dom w1) C (C.add p (.lst vs) hp) := HH.add_le hp
  exact q (.ref p) (C.add p (.lst vs) hp) (lift2 (S := w) h.dm l o l2) (o.step (HH.add_le (S := []) hp) (by simp)) (.lst (SqL.of upd_same) (DpAll.mono l2.f va))
end
end Pm

namespace Pm
open PySem PySem.Spec PyProof.Rows L2 Evl
section
variable {X : Cx} {e a b c : Expr} {es rest : List Expr} {ρ : List Slot} {w w1 w2 w3 : W} {d d1 d2 : D} {ds : List D} {pos p : Pos} {x : Str}

/-! ### built-ins called on data -/
def cW (X : Cx) (f : Value) : List V → Hp → VK → Prop := fun xs H Q => ∀ pins s σ us, Inv X pins σ H s → Vals xs us → wpAny (model X.prog X.w) X.A (call f us) (EP X pins σ Q) X.xe s
theorem c_w {f : Value} : CallR X f (cW X f) := fun pins s σ H xs us Q I r h => h pins s σ us I r
theorem cw_of {f : Value} {r : List V → Hp → VK → Prop} {xs : List V} {H : Hp} {Q : VK} (o : CallR X f r) (h : r xs H Q) : cW X f xs H Q := fun pins s σ us I rx => o pins s σ H xs us Q I rx h
def CallD (X : Cx) (f : Value) (ds : List D) (d : D) : Prop := ∀ (B : HH) (xs : List V), DpAll X.K B.f xs ds → ∀ Q : VK, (∀ v C, Le [] B C → Dp X.K C.f v d → Q v C.h) → cW X f xs B.h Q
/-- a call that makes a new list -/
def CallN (X : Cx) (f : Value) (ds : List D) (ys : List D) : Prop := ∀ (B : HH) (xs : List V), DpAll X.K B.f xs ds → ∀ Q : VK, (∀ p vs C, B.h p = none → Le [] B C → C.h p = some (.lst vs) → C.f p = none → DpAll X.K C.f vs ys → Q (.ref p) C.h) → cW X f xs B.h Q
theorem Ev.callB {id : String} (h : EvA X (e :: es) ρ w w1 (dats ds)) (hc : CallD X (.builtin id) ds d) (hm : X.mg x = none) (hv : bootBuiltins x = some (.builtin id)) (hg : Gl X x := by rfl) (hn : x ≠ "__name__" := by decide) (hdb : (x == ("__debug__" : Str)) = false := by decide)
    (he : starEach (e :: es) X.env = (false, eval e X.env) :: starEach es X.env := by rfl) (hpl : (backTo pos (starEach es X.env)).any (·.1) = false := by rfl) : Ev X (.Call (.Name x p) (e :: es) [] pos) ρ w w1 d := by
  refine ⟨h.dm, fun σ B hs hw Q q => w_e (pe_callB c_w hg hm hv pa_w hn hdb he hpl) ?_⟩
  refine h.run σ B hs hw _ fun vs C l o v => ?_
  exact hc C vs (dats_all v) Q fun z E l2 z2 => q z E (lift2 (S := w) h.dm l o l2.nil) (o.step l2 (by simp)) z2
theorem Ev.callTy {T : String} (h : EvA X (e :: es) ρ w w1 (dats ds)) (hc : CallD X (.type T) ds d) (hm : X.mg x = none) (hv : bootBuiltins x = some (.type T)) (hg : Gl X x := by rfl) (hn : x ≠ "__name__" := by decide) (hdb : (x == ("__debug__" : Str)) = false := by decide)
    (he : starEach (e :: es) X.env = (false, eval e X.env) :: starEach es X.env := by rfl) (hpl : (backTo pos (starEach es X.env)).any (·.1) = false := by rfl) : Ev X (.Call (.Name x p) (e :: es) [] pos) ρ w w1 d := by
  refine ⟨h.dm, fun σ B hs hw Q q => w_e (pe_callTy c_w hg hm hv pa_w hn hdb he hpl) ?_⟩
  refine h.run σ B hs hw _ fun vs C l o v => ?_
  exact hc C vs (dats_all v) Q fun z E l2 z2 => q z E (lift2 (S := w) h.dm l o l2.nil) (o.step l2 (by simp)) z2

/-! ### what makes a new list -/
structure EvN (X : Cx) (e : Expr) (ρ : List Slot) (w w' : W) (ds : List D) : Prop where
  dm : dom w' = dom w
  run : ∀ σ B, Sig X.K B.f σ ρ → Own X.K w B → ∀ Q : VK, (∀ p vs C, B.h p = none → Le (dom w) B C → Own X.K w' C → C.h p = some (.lst vs) → C.f p = none → DpAll X.K C.f vs ds → Q (.ref p) C.h) → wE X e σ B.h Q
/-- what stands becomes data -/
def HH.tell (B : HH) (p : Addr) (o : HO) (hp : B.h p = some o) : HH := ⟨upd B.f p o, B.h, fun a u e => by
  by_cases z : a = p
  · subst z
    rw [upd_same] at e
    exact hp.trans e
  · rw [upd_ne z] at e
    exact B.ok a u e⟩
theorem HH.tell_ex {B : HH} {p : Addr} {o : HO} (hp : B.h p = some o) (hf : B.f p = none) : Ex B.f (B.tell p o hp).f := Ex.new hf
theorem Own.not_dom {K : PySem.W.Frag} {B C : HH} (o : Own K w C) (l : Le (dom w) B C) (od : ∀ a ∈ dom w, B.h a ≠ none) {p : Addr} (h : B.h p = none) : p ∉ dom w := fun m => od p m h
theorem Own.stands {K : PySem.W.Frag} {B : HH} (o : Own K w B) : ∀ a ∈ dom w, B.h a ≠ none := fun a m z => by
  obtain ⟨⟨vs, h⟩, _⟩ := o.at m
  rw [z] at h; cases h
theorem Own.tell {K : PySem.W.Frag} {B : HH} {q : Addr} {u : HO} (o : Own K w B) (hq : B.h q = some u) (hf : B.f q = none) (n : q ∉ dom w) : Own K w (B.tell q u hq) := by
  refine ⟨o.nd, fun r hr => ?_⟩
  obtain ⟨⟨vs, z, y⟩, m⟩ := o.has r hr
  have hne : r.1 ≠ q := fun k => n (by rw [← k]; exact List.mem_map.mpr ⟨r, hr, rfl⟩)
  exact ⟨⟨vs, z, DpAll.mono (HH.tell_ex hq hf) y⟩, (upd_ne hne).trans m⟩
theorem Le.tell {S : List Addr} {B C : HH} {q : Addr} {u : HO} (l : Le S B C) (hq : C.h q = some u) (hf : C.f q = none) (n : B.h q = none ∨ q ∈ S) : Le S B (C.tell q u hq) := by
  refine ⟨l.f.trans (HH.tell_ex hq hf), l.h, fun x k => ?_, l.st⟩
  by_cases z : x = q
  · rw [z]; exact .inr n
  · exact l.new x (by rw [show (C.tell q u hq).f x = C.f x from upd_ne z] at k; exact k)
theorem EvN.ev (h : EvN X e ρ w w1 ds) : Ev X e ρ w w1 (.list ds) := by
  refine ⟨h.dm, fun σ B hs hw Q q => h.run σ B hs hw Q fun p vs C hp l o h1 h2 v => ?_⟩
  have np : p ∉ dom w1 := fun m => hw.stands p (h.dm ▸ m) hp
  exact q (.ref p) (C.tell p (.lst vs) h1) (l.tell h1 h2 (.inl hp)) (o.tell h1 h2 np) (.lst (SqL.of upd_same) (DpAll.mono (HH.tell_ex h1 h2) v))
theorem EvN.to {xs : List D} (h : EvN X e ρ w w1 ds) (k : ds = xs) : EvN X e ρ w w1 xs := k ▸ h
theorem HH.put_le {B : HH} {p : Addr} {o : HO} (hp : B.h p = none) {S : List Addr} : Le S B (B.put p o (HH.free hp)) := ⟨Ex.refl _, fun a u _ e => Ex.new hp a u e, fun a n => .inl n, fun a n => upd_st n⟩
theorem EvN.lst (h : EvA X es ρ w w1 (dats ds)) (hl : ds.length ≤ 100000 := by first | decide | (simp only [List.length_cons, List.length_nil]; omega)) : EvN X (.List es pos) ρ w w1 ds := by
  refine ⟨h.dm, fun σ B hs hw Q q => w_e (pe_lst pa_w) ?_⟩
  refine h.run σ B hs hw _ fun vs C l o v => ?_
  have va := dats_all v
  refine ⟨sz_of (by rw [DpAll.length va]; exact hl), fun p hp => ?_⟩
  have bp : B.h p = none := by
    cases z : B.h p with
    | none => rfl
    | some u =>
      by_cases m : p ∈ dom w
      · exact absurd hp (o.stands p (h.dm ▸ m))
      · rw [l.h p u m z] at hp; cases hp
  exact q p vs (C.put p (.lst vs) (HH.free hp)) bp (lift2 (S := w) h.dm l o (HH.put_le hp)) (o.step (HH.put_le (S := []) hp) (by simp)) upd_same (HH.free (B := C) hp) va
/-- an address that is free behind a step was free -/
theorem Le.back {B C : HH} (l : Le (dom w) B C) (hw : Own X.K w B) (o : Own X.K w1 C) (dm : dom w1 = dom w) {p : Addr} (hp : C.h p = none) : B.h p = none := by
  cases z : B.h p with
  | none => rfl
  | some u =>
    by_cases m : p ∈ dom w
    · exact absurd hp (o.stands p (dm ▸ m))
    · rw [l.h p u m z] at hp; cases hp
theorem EvN.callTy {T : String} {ys : List D} (h : EvA X (e :: es) ρ w w1 (dats ds)) (hc : CallN X (.type T) ds ys) (hm : X.mg x = none) (hv : bootBuiltins x = some (.type T)) (hg : Gl X x := by rfl) (hn : x ≠ "__name__" := by decide) (hdb : (x == ("__debug__" : Str)) = false := by decide)
    (he : starEach (e :: es) X.env = (false, eval e X.env) :: starEach es X.env := by rfl) (hpl : (backTo pos (starEach es X.env)).any (·.1) = false := by rfl) : EvN X (.Call (.Name x p) (e :: es) [] pos) ρ w w1 ys := by
  refine ⟨h.dm, fun σ B hs hw Q q => w_e (pe_callTy c_w hg hm hv pa_w hn hdb he hpl) ?_⟩
  refine h.run σ B hs hw _ fun vs C l o v => ?_
  exact hc C vs (dats_all v) Q fun z us E hz l2 h1 h2 h3 => q z us E (Le.back l hw o h.dm hz) (lift2 (S := w) h.dm l o l2.nil) (o.step l2 (by simp)) h1 h2 h3

/-! ### the calls -/
theorem DpAll.get {K : PySem.W.Frag} {f : Hp} : ∀ {vs : List V} {ds : List D} {i : Nat} {d : D}, DpAll K f vs ds → ds[i]? = some d → ∃ v, vs[i]? = some v ∧ Dp K f v d
  | _, _, _, _, .nil, e => by simp at e
  | _, _, 0, _, .cons r _, e => by simp at e; subst e; exact ⟨_, rfl, r⟩
  | _, _, i + 1, y, .cons _ t, e => by
    obtain ⟨u, h1, h2⟩ := DpAll.get (i := i) (d := y) t (by simpa using e)
    exact ⟨u, by simpa using h1, h2⟩
theorem DpAll.ints {K : PySem.W.Frag} {f : Hp} : ∀ {vs : List V} {ns : List Int}, DpAll K f vs (ns.map PyData.int) → vs = ns.map V.int
  | _, [], .nil => rfl
  | _, n :: ns, .cons r t => by
    cases r
    rw [DpAll.ints t]
    rfl
theorem ints_dp {K : PySem.W.Frag} {f : Hp} : ∀ ns : List Int, DpAll K f (ns.map V.int) (ns.map PyData.int)
  | [] => .nil
  | n :: ns => .cons (.int n) (ints_dp ns)
theorem dp1 {K : PySem.W.Frag} {f : Hp} {vs : List V} {d : D} (h : DpAll K f vs [d]) : ∃ v, vs = [v] ∧ Dp K f v d := by
  cases h with
  | cons r t => cases t; exact ⟨_, rfl, r⟩
theorem cd_int {i : Int} : CallD X (.type "int") [.int i] (.int i) := fun B xs h Q q => by
  obtain ⟨v, rfl, r⟩ := dp1 h
  cases r
  exact cw_of call_int1 (.inl ⟨i, rfl, q _ B (Le.refl _ _) (.int i)⟩)
theorem cd_abs {i : Int} : CallD X (.builtin "abs") [.int i] (.int (if i < 0 then -i else i)) := fun B xs h Q q => by
  obtain ⟨v, rfl, r⟩ := dp1 h
  cases r
  exact cw_of call_abs ⟨i, rfl, q _ B (Le.refl _ _) (.int _)⟩
theorem cd_lenL : CallD X (.builtin "len") [.list ds] (.int (ds.length : Int)) := fun B xs h Q q => by
  obtain ⟨v, rfl, r⟩ := dp1 h
  cases r with
  | lst hs ha => exact cw_of call_len_seq ⟨_, _, rfl, .inl (ex_l B.ok hs), q _ B (Le.refl _ _) (by rw [DpAll.length ha]; exact .int _)⟩
theorem cd_lenT : CallD X (.builtin "len") [.tuple ds] (.int (ds.length : Int)) := fun B xs h Q q => by
  obtain ⟨v, rfl, r⟩ := dp1 h
  cases r with
  | tup hs ha => exact cw_of call_len_seq ⟨_, _, rfl, .inr (ex_t B.ok hs), q _ B (Le.refl _ _) (by rw [DpAll.length ha]; exact .int _)⟩
theorem cd_tupleL : CallD X (.type "tuple") [.list ds] (.tuple ds) := fun B xs h Q q => by
  obtain ⟨v, rfl, r⟩ := dp1 h
  cases r with
  | lst hs ha => exact cw_of call_tuple_of ⟨_, _, rfl, .inl ⟨ex_l B.ok hs, fun l hl => q (.ref l) (B.add l _ hl) (HH.add_le hl) (.tup (SqT.of upd_same) (DpAll.mono (HH.add_le (S := []) hl).f ha))⟩⟩
theorem cd_tupleT : CallD X (.type "tuple") [.tuple ds] (.tuple ds) := fun B xs h Q q => by
  obtain ⟨v, rfl, r⟩ := dp1 h
  cases r with
  | tup hs ha => exact cw_of call_tuple_of ⟨_, _, rfl, .inr ⟨ex_t B.ok hs, q _ B (Le.refl _ _) (.tup hs ha)⟩⟩
theorem cn_listT : CallN X (.type "list") [.tuple ds] ds := fun B xs h Q q => by
  obtain ⟨v, rfl, r⟩ := dp1 h
  cases r with
  | tup hs ha => exact cw_of call_list_of ⟨_, _, rfl, .inr (ex_t B.ok hs), fun l hl => q l _ (B.put l _ (HH.free hl)) hl (HH.put_le hl) upd_same (HH.free (B := B) hl) ha⟩
theorem cn_listL : CallN X (.type "list") [.list ds] ds := fun B xs h Q q => by
  obtain ⟨v, rfl, r⟩ := dp1 h
  cases r with
  | lst hs ha => exact cw_of call_list_of ⟨_, _, rfl, .inl (ex_l B.ok hs), fun l hl => q l _ (B.put l _ (HH.free hl)) hl (HH.put_le hl) upd_same (HH.free (B := B) hl) ha⟩
/-- the greatest of a list -/
theorem cd_maxL (hc : X.calm = true) {ns : List Int} {m : Int} (h0 : m ∈ ns) (h1 : ∀ y ∈ ns, y ≤ m) : CallD X (.builtin "max") [.list (ns.map PyData.int)] (.int m) := fun B xs h Q q => by
  obtain ⟨v, rfl, r⟩ := dp1 h
  cases r with
  | lst hs ha =>
    have e := DpAll.ints ha
    subst e
    refine cw_of (cr_max hc) ⟨_, ns, rfl, ex_l B.ok hs, List.length_pos_of_mem h0, fun m' a1 a2 => ?_⟩
    have e : m' = m := Int.le_antisymm (h1 _ a1) (a2 _ h0)
    rw [e]
    exact q _ B (Le.refl _ _) (.int m)
/-! isinstance -/
def tyName : D → String
  | .none => "NoneType"
  | .bool _ => "bool"
  | .int _ => "int"
  | .str _ => "str"
  | .list _ => "list"
  | .tuple _ => "tuple"
  | .dict _ => "dict"
theorem rd_ty {K : PySem.W.Frag} {f h : Hp} {v : V} {d : D} (e : Ex f h) (r : Dp K f v d) : TyX K h v (.type (tyName d)) := by
  cases r with
  | non => exact .base .non
  | bl b => exact .base (.bl b)
  | int i => exact .base (.int i)
  | str i => exact .base (.str i)
  | lst hs _ =>
    rcases ex_l e hs with (h1 | ⟨o, h1⟩) | ⟨o, its, n, h1, h2, _⟩
    · exact .base (.lst h1)
    · exact .base (.frz h1)
    · exact .kList h1 h2
  | tup hs _ =>
    rcases ex_t e hs with (h1 | ⟨o, h1⟩) | ⟨o, its, n, h1, h2, _⟩
    · exact .base (.tup h1)
    · exact .fTuple h1
    · exact .kTuple h1 h2
/-- isinstance(e, T), T a built-in class -/
theorem Ev.isi {T : String} {k : Bool} {p2 : Pos} {y : Str} (h : Ev X e ρ w w1 d) (hk : kitB (tyName d) T = some k) (hm : X.mg "isinstance" = none) (hy : X.mg y = none) (hv : bootBuiltins y = some (.type T)) (hg : Gl X "isinstance" := by rfl) (hgy : Gl X y := by rfl) (hyn : y ≠ "__name__" := by decide) (hyd : (y == ("__debug__" : Str)) = false := by decide)
    (he : starEach [e, .Name y p2] X.env = (false, eval e X.env) :: starEach [.Name y p2] X.env := by rfl) (hb : bootBuiltins "isinstance" = some (.builtin "isinstance") := by decide +kernel) (hpl : (backTo pos (starEach [.Name y p2] X.env)).any (·.1) = false := by rfl) (he2 : starEach [.Name y p2] X.env = (false, eval (.Name y p2) X.env) :: starEach [] X.env := by rfl) : Ev X (.Call (.Name "isinstance" p) [e, .Name y p2] [] pos) ρ w w1 (.bool k) := by
  refine ⟨h.dm, fun σ B hs hw Q q => w_e (pe_callB call_isi hg hm hb (pa_cons pe_w (pa_cons (pe_bltn (v := .ty T) hgy hy hv rfl hyn hyd) pa_nil he2) he) (by decide) (by decide) he hpl) ?_⟩
  refine h.run σ B hs hw _ fun v C l o r => ?_
  exact ⟨v, .ty T, _, _, k, rfl, .ty T, rd_ty C.ok r, kit_ty hk, q _ C l o (.bl k)⟩

/-! ### subscripts -/
theorem Ev.ixL {i : Int} (ha : Ev X a ρ w w1 (.list ds)) (hb : Ev X b ρ w1 w2 (.int i)) (h : atI ds i = some d) (hs : PlainIx b := by exact fun _ _ => rfl) : Ev X (.Subscript a b pos) ρ w w2 d := by
  refine ⟨hb.dm.trans ha.dm, fun σ B hg hw Q q => w_e (pe_ix ix_list pe_w pe_w hs) ?_⟩
  refine ha.run σ B hg hw _ fun x C1 l1 o1 x1 => ?_
  refine hb.run σ C1 (Sig.mono l1.f hg) o1 _ fun y C2 l2 o2 y1 => ?_
  cases y1
  cases x1 with
  | lst hl hd =>
    have hl2 := ex_l l2.f hl
    unfold atI at h
    cases e : ixN ds.length i with
    | none => rw [e] at h; cases h
    | some j =>
      rw [e] at h
      obtain ⟨v, h1, h2⟩ := DpAll.get (DpAll.mono l2.f hd) (show ds[j]? = some d from h)
      refine ⟨_, _, i, v, rfl, rfl, ex_l C2.ok hl2, ?_, q v C2 (lift2 (S := w) ha.dm l1 o1 l2) o2 h2⟩
      unfold atI
      rw [DpAll.length hd, e]
      exact h1
theorem Ev.ixT {i : Int} (ha : Ev X a ρ w w1 (.tuple ds)) (hb : Ev X b ρ w1 w2 (.int i)) (h : atI ds i = some d) (hs : PlainIx b := by exact fun _ _ => rfl) : Ev X (.Subscript a b pos) ρ w w2 d := by
  refine ⟨hb.dm.trans ha.dm, fun σ B hg hw Q q => w_e (pe_ix ix_tup pe_w pe_w hs) ?_⟩
  refine ha.run σ B hg hw _ fun x C1 l1 o1 x1 => ?_
  refine hb.run σ C1 (Sig.mono l1.f hg) o1 _ fun y C2 l2 o2 y1 => ?_
  cases y1
  cases x1 with
  | tup hl hd =>
    have hl2 := ex_t l2.f hl
    unfold atI at h
    cases e : ixN ds.length i with
    | none => rw [e] at h; cases h
    | some j =>
      rw [e] at h
      obtain ⟨v, h1, h2⟩ := DpAll.get (DpAll.mono l2.f hd) (show ds[j]? = some d from h)
      refine ⟨_, _, i, v, rfl, rfl, ex_t C2.ok hl2, ?_, q v C2 (lift2 (S := w) ha.dm l1 o1 l2) o2 h2⟩
      unfold atI
      rw [DpAll.length hd, e]
      exact h1
/-- an owned list read by place -/
theorem Ev.ixO (k n : Nat) {ad : Addr} {i : Int} {px : Pos} (hi : ρ[n]? = some (.own ad)) (hk : w1[k]? = some (ad, ds)) (hb : Ev X b ρ w w1 (.int i)) (h : atI ds i = some d) (hN : X.N[n]? = some x := by rfl) (hv : Vis X.env.scope x := by first | exact Or.inl rfl | exact Or.inr (Or.inl rfl) | exact Or.inr (Or.inr rfl)) (hs : PlainIx b := by exact fun _ _ => rfl) (hd : (x == ("__debug__" : Str)) = false := by decide)
    (hcd : (x == ("__classdict__" : Str)) = false := by decide) : Ev X (.Subscript (.Name x px) b pos) ρ w w1 d := by
  refine ⟨hb.dm, fun σ B hg hw Q q => w_e (pe_ix ix_list (pe_var hN hv hd hcd) pe_w hs) ?_⟩
  obtain ⟨s, e1, h1⟩ := Paired.get hg hi
  refine ⟨.ref ad, by rw [e1]; exact congrArg some h1, ?_⟩
  refine hb.run σ B hg hw _ fun y C2 l2 o2 y1 => ?_
  cases y1
  obtain ⟨⟨vs, hl, hd⟩, _⟩ := o2.has _ (List.mem_of_getElem? hk)
  unfold atI at h
  cases e : ixN ds.length i with
  | none => rw [e] at h; cases h
  | some j =>
    rw [e] at h
    obtain ⟨v, h2, h3⟩ := DpAll.get hd (show ds[j]? = some d from h)
    refine ⟨_, _, i, v, rfl, rfl, SqL.of hl, ?_, q v C2 l2 o2 h3⟩
    unfold atI
    rw [DpAll.length hd, e]
    exact h2
/-- the first n of a list -/
theorem DpAll.take {K : PySem.W.Frag} {f : Hp} : ∀ {vs : List V} {ds : List D} (n : Nat), DpAll K f vs ds → DpAll K f (vs.take n) (ds.take n)
  | _, _, 0, _ => .nil
  | _, _, _ + 1, .nil => .nil
  | _, _, n + 1, .cons r t => .cons r (DpAll.take n t)
theorem DpAll.drop {K : PySem.W.Frag} {f : Hp} : ∀ {vs : List V} {ds : List D} (n : Nat), DpAll K f vs ds → DpAll K f (vs.drop n) (ds.drop n)
  | _, _, 0, r => r
  | _, _, _ + 1, .nil => .nil
  | _, _, n + 1, .cons _ t => DpAll.drop n t
def cutP (xs : List D) (lo hi : Option Int) : List D := (xs.drop (HT.sIx xs.length 0 lo)).take (HT.sIx xs.length xs.length hi - HT.sIx xs.length 0 lo)
theorem DpAll.cut {K : PySem.W.Frag} {f : Hp} {vs : List V} {ds : List D} {lo hi : Option Int} (h : DpAll K f vs ds) : DpAll K f (cutV vs lo hi) (cutP ds lo hi) := by
  unfold cutV cutP
  rw [DpAll.length h]
  exact DpAll.take _ (DpAll.drop _ h)
/-- part of a slice -/
structure EvP (X : Cx) (e : Option Expr) (ρ : List Slot) (w : W) (o : Option Int) : Prop where
  run : ∃ t, PO X e t ∧ ∀ σ B, Sig X.K B.f σ ρ → Own X.K w B → ∀ Q : Option Int → Hp → Prop, (∀ C, Le (dom w) B C → Own X.K w C → Q o C.h) → t σ B.h Q
theorem EvP.none : EvP X none ρ w none := ⟨_, po_none, fun σ B hs hw Q q => q B (Le.refl _ _) hw⟩
theorem EvP.some {i : Int} (h : Ev X e ρ w w (.int i)) : EvP X (some e) ρ w (some i) := ⟨_, po_some pe_w, fun σ B hs hw Q q => h.run σ B hs hw _ fun v C l o r => by
  cases r
  exact ⟨i, rfl, q C l o⟩⟩
theorem EvN.slL {lo hi : Option Expr} {i j : Option Int} {p2 : Pos} (ha : Ev X a ρ w w1 (.list ds)) (h1 : EvP X lo ρ w1 i) (h2 : EvP X hi ρ w1 j) : EvN X (.Subscript a (.Slice lo hi none p2) pos) ρ w w1 (cutP ds i j) := by
  obtain ⟨t1, p1, r1⟩ := h1
  obtain ⟨t2, p2, r2⟩ := h2
  refine ⟨ha.dm, fun σ B hg hw Q q => w_e (pe_slice sl_list pe_w p1 p2) ?_⟩
  refine ha.run σ B hg hw _ fun x C1 l1 o1 x1 => ?_
  refine r1 σ C1 (Sig.mono l1.f hg) o1 _ fun C2 l2 o2 => ?_
  refine r2 σ C2 (Sig.mono (l1.f.trans l2.f) hg) o2 _ fun C3 l3 o3 => ?_
  cases x1 with
  | lst hl hd =>
    have l13 := Le.trans l2 l3
    have lw := lift2 (S := w) ha.dm l1 o1 l13
    refine ⟨_, _, rfl, ex_l C3.ok (ex_l l13.f hl), fun p hp => ?_⟩
    exact q p _ (C3.put p _ (HH.free hp)) (Le.back lw hw o3 ha.dm hp) (lift2 (S := w) ha.dm lw o3 (HH.put_le hp)) (o3.step (HH.put_le (S := []) hp) (by simp)) upd_same (HH.free (B := C3) hp) (DpAll.cut (DpAll.mono l13.f hd))
end
end Pm

namespace Pm
open PySem PySem.Spec PyProof.Rows L2 Evl

/-! ### a def's frame by its data -/
structure Good (K : PySem.W.Frag) (S : List Addr) (B0 : HH) (w : W) (C : HH) : Prop where
  le : Le S B0 C
  own : Own K w C
  loc : ∀ a ∈ dom w, a ∈ S ∨ B0.h a = none
section
variable {K : PySem.W.Frag} {S : List Addr} {B0 B C E : HH} {w w1 w2 : W}
theorem Good.start (o : Own K w B) : Good K (dom w) B w B := ⟨Le.refl _ _, o, fun a m => .inl m⟩
theorem Good.comp (g : Good K S B0 w1 B) (g2 : Good K (dom w1) B w C) : Good K S B0 w C := by
  refine ⟨⟨g.le.f.trans g2.le.f, fun a o n e => g2.le.h a o (fun m => ?_) (g.le.h a o n e), fun a n => ?_, fun a n => g2.le.st a (g.le.st a n)⟩, g2.own, fun a m => ?_⟩
  · rcases g.loc a m with k | k
    · exact n k
    · rw [k] at e; cases e
  · rcases g2.le.new a n with k | k | k
    · exact g.le.new a k
    · by_cases m : a ∈ S
      · exact .inr (.inr m)
      · refine .inr (.inl ?_)
        cases q : B0.h a with
        | none => rfl
        | some u => rw [g.le.h a u m q] at k; cases k
    · rcases g.loc a k with z | z
      · exact .inr (.inr z)
      · exact .inr (.inl z)
  · rcases g2.loc a m with k | k
    · exact g.loc a k
    · by_cases z : a ∈ S
      · exact .inl z
      · refine .inr ?_
        cases q : B0.h a with
        | none => rfl
        | some u => rw [g.le.h a u z q] at k; cases k
theorem Good.step (g : Good K S B0 w B) (l : Le (dom w) B C) (o : Own K w1 C) (d : dom w1 = dom w) : Good K S B0 w1 C :=
  g.comp ⟨l, o, fun a m => .inl (d ▸ m)⟩
/-- a free address is not of the frame -/
theorem Good.free (g : Good K S B0 w B) {p : Addr} (h : B.h p = none) : p ∈ S ∨ B0.h p = none := by
  by_cases m : p ∈ S
  · exact .inl m
  · refine .inr ?_
    cases q : B0.h p with
    | none => rfl
    | some u => rw [g.le.h p u m q] at h; cases h
end

theorem Good.fresh {K : PySem.W.Frag} {S : List Addr} {B0 B : HH} {w : W} (g : Good K S B0 w B) {p : Addr} (h : B.h p = none) : B0.h p = none := by
  cases q : B0.h p with
  | none => rfl
  | some u => exact absurd h (g.le.st p (by rw [q]; simp))

structure DE where
  nx : List Slot → W → Prop
  rt : D → W → Prop
  rn : List D → W → Prop := fun _ _ => False
  bk : List Slot → W → Prop := fun _ _ => False
  ct : List Slot → W → Prop := fun _ _ => False
structure wD (K : PySem.W.Frag) (S : List Addr) (B0 : HH) (E : DE) (Q : Ends) : Prop where
  nx : ∀ σ C ρ w, Good K S B0 w C → Sig K C.f σ ρ → E.nx ρ w → Q.nx σ C.h
  rt : ∀ v C d w, Good K S B0 w C → Dp K C.f v d → E.rt d w → Q.rt v C.h
  rn : ∀ p vs C ds w, Good K S B0 w C → B0.h p = none → C.h p = some (.lst vs) → C.f p = none → DpAll K C.f vs ds → E.rn ds w → Q.rt (.ref p) C.h
  bk : ∀ σ C ρ w, Good K S B0 w C → Sig K C.f σ ρ → E.bk ρ w → Q.bk σ C.h
  ct : ∀ σ C ρ w, Good K S B0 w C → Sig K C.f σ ρ → E.ct ρ w → Q.ct σ C.h
theorem wD.sub {K : PySem.W.Frag} {S : List Addr} {B0 B : HH} {w : W} {E : DE} {Q : Ends} (h : wD K S B0 E Q) (g : Good K S B0 w B) : wD K (dom w) B E Q :=
  ⟨fun σ C ρ w2 k => h.nx σ C ρ w2 (g.comp k), fun v C d w2 k => h.rt v C d w2 (g.comp k), fun p vs C ds w2 k n => h.rn p vs C ds w2 (g.comp k) (g.fresh n), fun σ C ρ w2 k => h.bk σ C ρ w2 (g.comp k), fun σ C ρ w2 k => h.ct σ C ρ w2 (g.comp k)⟩
def Ws (X : Cx) (sts : List Stmt) (E : DE) (ρ : List Slot) (w : W) : Prop := ∀ S B0 σ B Q, Good X.K S B0 w B → Sig X.K B.f σ ρ → wD X.K S B0 E Q → wSs X sts Q σ B.h
def Wt (X : Cx) (st : Stmt) (E : DE) (ρ : List Slot) (w : W) : Prop := ∀ S B0 σ B Q, Good X.K S B0 w B → Sig X.K B.f σ ρ → wD X.K S B0 E Q → wS X st Q σ B.h

section
variable {X : Cx} {e a b c : Expr} {es rest : List Expr} {st : Stmt} {sts body body2 : List Stmt} {E : DE} {ρ : List Slot} {w w1 w2 w3 : W} {d d1 d2 : D} {ds : List D} {pos p pos' : Pos} {x : Str}

theorem Ws.nil (h : E.nx ρ w) : Ws X [] E ρ w := fun S B0 σ B Q g s q => w_ss pss_nil (q.nx σ B ρ w g s h)
theorem Ws.cons (h : Wt X st { E with nx := fun ρ w => Ws X sts E ρ w } ρ w) : Ws X (st :: sts) E ρ w := fun S B0 σ B Q g s q =>
  w_ss (pss_cons ps_w pss_w) (h S B0 σ B _ g s ⟨fun σ C ρ w k z y => y S B0 σ C Q k z q, q.rt, q.rn, q.bk, q.ct⟩)
theorem Ws.one (h : Wt X st E ρ w) : Ws X [st] E ρ w := fun S B0 σ B Q g s q => w_ss (pss_one ps_w) (h S B0 σ B Q g s q)
theorem Wt.ret (h : Ev X e ρ w w1 d) (q : E.rt d w1) : Wt X (.Return (some e) pos) E ρ w := fun S B0 σ B Q g s k =>
  w_s (ps_ret pe_w) (h.run σ B s g.own _ fun v C l o r => k.rt v C d w1 (g.step l o h.dm) r q)
/-- a new list is handed back -/
theorem Wt.retNew (h : EvN X e ρ w w1 ds) (q : E.rn ds w1) : Wt X (.Return (some e) pos) E ρ w := fun S B0 σ B Q g s k =>
  w_s (ps_ret pe_w) (h.run σ B s g.own _ fun p vs C hp l o h1 h2 r => k.rn p vs C ds w1 (g.step l o h.dm) (g.fresh hp) h1 h2 r q)
theorem Wt.iteT (h : EvT X c ρ w w1 true) (h1 : Ws X body E ρ w1) : Wt X (.If c body body2 pos) E ρ w := fun S B0 σ B Q g s q =>
  w_s (ps_if pt_w pss_w pss_w) (h.run σ B s g.own _ fun C l o => h1 S B0 σ C Q (g.step l o h.dm) (Sig.mono l.f s) q)
theorem Wt.iteF (h : EvT X c ρ w w1 false) (h2 : Ws X body2 E ρ w1) : Wt X (.If c body body2 pos) E ρ w := fun S B0 σ B Q g s q =>
  w_s (ps_if pt_w pss_w pss_w) (h.run σ B s g.own _ fun C l o => h2 S B0 σ C Q (g.step l o h.dm) (Sig.mono l.f s) q)
/-- an if without an else whose test is known to fail -/
theorem Wt.skip (h : EvT X c ρ w w1 false) (h2 : E.nx ρ w1) : Wt X (.If c body [] pos) E ρ w := Wt.iteF h (Ws.nil h2)
theorem Wt.retN (q : E.rt .none w) : Wt X (.Return none pos) E ρ w := fun S B0 σ B Q g s k => w_s ps_retN (k.rt .non B .none w g .non q)
theorem Wt.pass (q : E.nx ρ w) : Wt X (.Pass pos) E ρ w := fun S B0 σ B Q g s k => w_s ps_pass (k.nx σ B ρ w g s q)
theorem Wt.brk (q : E.bk ρ w) : Wt X (.Break pos) E ρ w := fun S B0 σ B Q g s k => w_s ps_break (k.bk σ B ρ w g s q)
theorem Wt.cont (q : E.ct ρ w) : Wt X (.Continue pos) E ρ w := fun S B0 σ B Q g s k => w_s ps_continue (k.ct σ B ρ w g s q)
theorem Wt.expr (h : Ev X e ρ w w1 d) (q : E.nx ρ w1) (hs : swapsWith e none pos.line X.env = pure false := by rfl) : Wt X (.Expr e pos) E ρ w := fun S B0 σ B Q g s k =>
  w_s (ps_expr pe_w hs) (h.run σ B s g.own _ fun v C l o r => k.nx σ C ρ w1 (g.step l o h.dm) (Sig.mono l.f s) q)
theorem Wt.ite {k : Bool} (h : EvT X c ρ w w1 k) (h1 : k = true → Ws X body E ρ w1) (h2 : k = false → Ws X body2 E ρ w1) : Wt X (.If c body body2 pos) E ρ w := fun S B0 σ B Q g s q =>
  w_s (ps_if pt_w pss_w pss_w) (h.run σ B s g.own _ fun C l o => by
    cases k with
    | true => exact h1 rfl S B0 σ C Q (g.step l o h.dm) (Sig.mono l.f s) q
    | false => exact h2 rfl S B0 σ C Q (g.step l o h.dm) (Sig.mono l.f s) q)
/-- x = e -/
theorem Wt.set (i : Nat) (h : Ev X e ρ w w1 d) (q : E.nx (ρ.set i (.dat d)) w1) (hN : X.N.Nodup) (hi : X.N[i]? = some x := by rfl) (hx : Loc X.env.scope x := by first | exact Or.inl rfl | exact Or.inr rfl) (hs : swapsWith e (some (.Name x pos')) pos.line X.env = pure false := by rfl) (hf : X.fn x = true ∨ X.env.scope.names.lookup x = some .local := by first | exact .inl rfl | exact .inr rfl | assumption) :
    Wt X (.Assign [.Name x pos'] e pos) E ρ w := fun S B0 σ B Q g s k =>
  w_s (ps_set hN hi hx pe_w hs hf) (h.run σ B s g.own _ fun v C l o r => k.nx _ C _ w1 (g.step l o h.dm) (Paired.set ⟨v, rfl, r⟩ i (Sig.mono l.f s)) q)
/-- x = a new list, owned -/
theorem Wt.new (i : Nat) (h : EvN X e ρ w w1 ds) (q : ∀ a, E.nx (ρ.set i (.own a)) (w1 ++ [(a, ds)])) (hN : X.N.Nodup) (hi : X.N[i]? = some x := by rfl) (hx : Loc X.env.scope x := by first | exact Or.inl rfl | exact Or.inr rfl) (hs : swapsWith e (some (.Name x pos')) pos.line X.env = pure false := by rfl) (hf : X.fn x = true ∨ X.env.scope.names.lookup x = some .local := by first | exact .inl rfl | exact .inr rfl | assumption) :
    Wt X (.Assign [.Name x pos'] e pos) E ρ w := fun S B0 σ B Q g s k =>
  w_s (ps_set hN hi hx pe_w hs hf) (h.run σ B s g.own _ fun a vs C hp l o h1 h2 r => by
    have na : a ∉ dom w := fun m => g.own.stands a m hp
    have gc : Good X.K S B0 w1 C := g.step l o h.dm
    refine k.nx _ C _ _ ⟨gc.le, ⟨?_, fun q hq => ?_⟩, fun y hy => ?_⟩ (Paired.set (show SlotOk X.K C.f (some (V.ref a)) (.own a) from rfl) i (Sig.mono l.f s)) (q a)
    · unfold dom
      rw [List.map_append]
      refine List.nodup_append.mpr ⟨o.nd, by simp, fun y hy z hz => ?_⟩
      have ez : z = a := by simpa using hz
      subst ez
      intro e
      subst e
      exact na (h.dm ▸ hy)
    · rcases List.mem_append.mp hq with m | m
      · exact o.has q m
      · have ez : q = (a, ds) := by simpa using m
        subst ez
        exact ⟨⟨vs, h1, r⟩, h2⟩
    · unfold dom at hy
      rw [List.map_append] at hy
      rcases List.mem_append.mp hy with m | m
      · exact gc.loc y m
      · have ez : y = a := by simpa using m
        subst ez
        exact g.free hp)
theorem dom_erase : ∀ (w : W) (k : Nat), dom (w.eraseIdx k) = (dom w).eraseIdx k
  | [], _ => rfl
  | _ :: _, 0 => rfl
  | q :: w, k + 1 => congrArg (q.1 :: ·) (dom_erase w k)
/-- what an owned list holds becomes data; it is no longer owned -/
theorem Ws.freeze (k : Nat) {i : Nat} {ad : Addr} (hk : w[k]? = some (ad, ds)) (hi : ρ[i]? = some (.own ad)) (h : Ws X sts E (ρ.set i (.dat (.list ds))) (w.eraseIdx k)) : Ws X sts E ρ w := fun S B0 σ B Q g s q => by
  obtain ⟨⟨vs, h1, h2⟩, h3⟩ := g.own.has _ (List.mem_of_getElem? hk)
  have nd := g.own.nd
  have hkl : k < w.length := (List.getElem?_eq_some_iff.mp hk).1
  have sub : ∀ q ∈ w.eraseIdx k, q ∈ w := fun q hq => (List.eraseIdx_sublist w k).subset hq
  have nad : ad ∉ dom (w.eraseIdx k) := fun m => by
    rw [dom_erase] at m
    have hd : (dom w)[k]? = some ad := by
      unfold dom
      rw [List.getElem?_map, hk]
      rfl
    obtain ⟨j, hj⟩ := List.getElem?_of_mem m
    rw [List.getElem?_eraseIdx] at hj
    split at hj
    · have := nd_ix nd hd hj
      omega
    · have := nd_ix nd hd hj
      omega
  have nd' : (dom (w.eraseIdx k)).Nodup := by
    rw [dom_erase]
    exact List.Nodup.sublist (List.eraseIdx_sublist _ _) nd
  have o' : Own X.K (w.eraseIdx k) B := ⟨nd', fun q hq => g.own.has q (sub q hq)⟩
  have mem : ad ∈ dom w := List.mem_map.mpr ⟨_, List.mem_of_getElem? hk, rfl⟩
  refine h S B0 σ (B.tell ad (.lst vs) h1) Q ⟨g.le.tell h1 h3 ((g.loc ad mem).elim .inr .inl), o'.tell h1 h3 nad, fun a m => g.loc a ?_⟩ ?_ q
  · obtain ⟨q, hq, e⟩ := List.mem_map.mp m
    exact List.mem_map.mpr ⟨q, sub q hq, e⟩
  · obtain ⟨t, e1, e2⟩ := Paired.get s hi
    have s2 : Sig X.K (B.tell ad (.lst vs) h1).f σ ρ := Sig.mono (HH.tell_ex h1 h3) s
    have z : SlotOk X.K (B.tell ad (.lst vs) h1).f t (.dat (.list ds)) := ⟨.ref ad, e2, .lst (SqL.of upd_same) (DpAll.mono (HH.tell_ex h1 h3) h2)⟩
    have s3 := Paired.set z i s2
    have e4 : σ.set i t = σ := by
      apply List.ext_getElem?
      intro j
      rw [List.getElem?_set]
      split
      · rename_i hij
        subst hij
        split
        · exact e1.symm
        · rw [List.getElem?_eq_none_iff.mpr (by omega)]
      · rfl
    rw [e4] at s3
    exact s3
theorem Ws.rho {ρ' : List Slot} (e : ρ = ρ') (h : Ws X sts E ρ' w) : Ws X sts E ρ w := e ▸ h
theorem Ws.wld {w' : W} (e : w = w') (h : Ws X sts E ρ w') : Ws X sts E ρ w := e ▸ h
/-- what comes behind a statement is shown once -/
theorem Wt.cut (J : List Slot → W → Prop) (h : Wt X st { E with nx := J } ρ w) (k : ∀ ρ w, J ρ w → E.nx ρ w) : Wt X st E ρ w := fun S B0 σ B Q g s q =>
  h S B0 σ B Q g s ⟨fun σ C ρ w a b c => q.nx σ C ρ w a b (k ρ w c), q.rt, q.rn, q.bk, q.ct⟩
/-- forget -/
theorem Ws.forget {ρ' : List Slot} (h : Ws X sts E ρ' w) (k : ∀ K f σ, Sig K f σ ρ → Sig K f σ ρ') : Ws X sts E ρ w := fun S B0 σ B Q g s q => h S B0 σ B Q g (k _ _ _ s) q

/-! ### targets of several names -/
def setDs (ρ : List Slot) : List Nat → List D → List Slot
  | i :: is, d :: ds => setDs (ρ.set i (.dat d)) is ds
  | _, _ => ρ
inductive Tgs (X : Cx) : List Expr → List Nat → Prop where
  | nil : Tgs X [] []
  | cons {i : Nat} {x : Str} {es : List Expr} {is : List Nat} {p : Pos} (hi : X.N[i]? = some x) (hx : Loc X.env.scope x) (hf : X.fn x = true ∨ X.env.scope.names.lookup x = some .local) (hs : (assignEach (.Name x p :: es) X.env).map (·.2) = assign (.Name x p) X.env :: (assignEach es X.env).map (·.2)) (h : Tgs X es is) : Tgs X (.Name x p :: es) (i :: is)
theorem Tgs.pgs (hN : X.N.Nodup) : ∀ {es : List Expr} {is : List Nat}, Tgs X es is → ∃ t, PGs X es t ∧ ∀ (vs : List V) (ds : List D) σ ρ (C : HH) Q, vs.length = is.length → DpAll X.K C.f vs ds → Sig X.K C.f σ ρ → (∀ σ', Sig X.K C.f σ' (setDs ρ is ds) → Q σ' C.h) → t vs σ C.h Q
  | _, _, .nil => ⟨_, pgs_nil, fun vs ds σ ρ C Q hl hd s q => by
    cases vs with
    | nil =>
      cases hd
      exact ⟨rfl, q σ s⟩
    | cons v r => simp at hl⟩
  | _, _, .cons (i := i) hi hx hf hs h => by
    obtain ⟨t, pt, k⟩ := Tgs.pgs hN h
    refine ⟨_, pgs_cons (pg_name hN hi hx hf) pt hs, fun vs ds σ ρ C Q hl hd s q => ?_⟩
    cases hd with
    | nil => simp at hl
    | cons r1 r2 =>
      refine ⟨_, _, rfl, ?_⟩
      exact k _ _ _ _ C Q (by simpa using hl) r2 (Paired.set ⟨_, rfl, r1⟩ i s) q
theorem Wt.unT {is : List Nat} {k : Nat} {pt : Pos} {tgs : List Expr} (h : Ev X e ρ w w1 (.tuple ds)) (q : E.nx (setDs ρ is ds) w1) (hN : X.N.Nodup) (hc : X.calm = true) (ht : Tgs X tgs is) (hl : ds.length = is.length := by rfl)
    (hs : swapsWithSole [.Tuple tgs k pt] e pos.line X.env = pure false := by rfl) (hw : swappedStores [.Tuple tgs k pt] e X.env = pure none := by rfl) (h1 : (assignEach [.Tuple tgs k pt] X.env).map (·.2) = [assign (.Tuple tgs k pt) X.env] := by rfl)
    (hn : (assignEach tgs X.env).length = is.length := by rfl) (hst : (assignEach tgs X.env).findIdx? (·.1) = none := by rfl) : Wt X (.Assign [.Tuple tgs k pt] e pos) E ρ w := fun S B0 σ B Q g s kk => by
  obtain ⟨t, pt2, kt⟩ := Tgs.pgs hN ht
  refine w_s (ps_asg pe_w (pg_tup hc pt2 hn hst) hs hw h1) (h.run σ B s g.own _ fun v C l o r => ?_)
  cases r with
  | tup ha hd =>
    have el := DpAll.length hd
    exact ⟨_, _, rfl, ex_t C.ok ha, by rw [el, hl], kt _ ds σ ρ C _ (by rw [el, hl]) hd (Sig.mono l.f s) fun σ' s' => kk.nx σ' C _ w1 (g.step l o h.dm) s' q⟩

/-- a, b = e1, e2 with local names -/
theorem Wt.par (i j : Nat) {y : Str} {px py pt pt2 : Pos} {kt k2 : Nat} (ha : Ev X a ρ w w1 d1) (hb : Ev X b ρ w1 w2 d2) (q : E.nx ((ρ.set i (.dat d1)).set j (.dat d2)) w2) (hc : X.calm = true) (hN : X.N.Nodup) (hi : X.N[i]? = some x := by rfl) (hj : X.N[j]? = some y := by rfl) (hij : i ≠ j := by decide)
    (hx : X.env.scope.names.lookup x = some .local := by rfl) (hy : X.env.scope.names.lookup y = some .local := by rfl)
    (hst : starEach [a, b] X.env = (false, eval a X.env) :: starEach [b] X.env := by rfl) (hst2 : starEach [b] X.env = (false, eval b X.env) :: starEach [] X.env := by rfl)
    (hw : swappedStores [.Tuple [.Name x px, .Name y py] kt pt] (.Tuple [a, b] k2 pt2) X.env = pure (some [x, y]) := by rfl)
    (hs : swapsWithSole [.Tuple [.Name x px, .Name y py] kt pt] (.Tuple [a, b] k2 pt2) pos.line X.env = pure false := by rfl) :
    Wt X (.Assign [.Tuple [.Name x px, .Name y py] kt pt] (.Tuple [a, b] k2 pt2) pos) E ρ w := fun S B0 σ B Q g s k =>
  w_s (ps_par hc hN hi hj hij hx hy (pa_cons pe_w (pa_cons pe_w pa_nil hst2) hst) hw hs) (ha.run σ B s g.own _ fun v C l o r => hb.run σ C (Sig.mono l.f s) o _ fun u C2 l2 o2 r2 =>
    ⟨v, u, rfl, k.nx _ C2 _ w2 ((g.step l o ha.dm).step l2 o2 hb.dm) (Paired.set (show SlotOk X.K C2.f (some u) (.dat d2) from ⟨u, rfl, r2⟩) j (Paired.set (show SlotOk X.K C2.f (some v) (.dat d1) from ⟨v, rfl, Dp.mono l2.f r⟩) i (Sig.mono (l.f.trans l2.f) s))) q⟩)
/-! ### owned lists change -/
theorem own_upd {K : PySem.W.Frag} {B : HH} {k : Nat} {ad : Addr} {vs : List V} {ys : List D} (o : Own K w B) (hk : w[k]? = some (ad, ds)) (hv : DpAll K B.f vs ys) (hf : B.f ad = none) : Own K (w.set k (ad, ys)) (B.put ad (.lst vs) hf) ∧ dom (w.set k (ad, ys)) = dom w := by
  have hd : (dom w)[k]? = some ad := by
    unfold dom
    rw [List.getElem?_map, hk]
    rfl
  have e : dom (w.set k (ad, ys)) = dom w := by
    apply List.ext_getElem?
    intro j
    unfold dom at hd ⊢
    rw [List.getElem?_map, List.getElem?_set, List.getElem?_map]
    split
    · rename_i hj
      subst hj
      rw [hk]
      split
      · rfl
      · rename_i hh
        exact absurd (List.getElem?_eq_some_iff.mp hk).1 hh
    · rfl
  refine ⟨⟨by rw [e]; exact o.nd, fun q hq => ?_⟩, e⟩
  obtain ⟨j, hj⟩ := List.getElem?_of_mem hq
  rw [List.getElem?_set] at hj
  split at hj
  · split at hj
    · have z := Option.some.inj hj
      subst z
      exact ⟨⟨vs, upd_same, hv⟩, hf⟩
    · cases hj
  · rename_i hjk
    obtain ⟨⟨us, h1, h2⟩, h3⟩ := o.has q (List.mem_of_getElem? hj)
    have hq' : (dom w)[j]? = some q.1 := by
      unfold dom
      rw [List.getElem?_map, hj]
      rfl
    have ne : q.1 ≠ ad := fun z => hjk (nd_ix o.nd (hd.trans (by rw [z])) hq')
    exact ⟨⟨us, (upd_ne ne).trans h1, h2⟩, h3⟩
theorem put_le2 {B : HH} {S : List Addr} {ad : Addr} {o : HO} (hf : B.f ad = none) (m : ad ∈ S) : Le S B (B.put ad o hf) := ⟨Ex.refl _, fun a u n e => (upd_ne fun z => n (by rw [z]; exact m)).trans e, fun a n => .inl n, fun a n => upd_st n⟩
theorem dom_mem {k : Nat} {ad : Addr} (hk : w[k]? = some (ad, ds)) : ad ∈ dom w := List.mem_map.mpr ⟨_, List.mem_of_getElem? hk, rfl⟩
theorem DpAll.snoc {K : PySem.W.Frag} {f : Hp} {v : V} {d : D} (r : Dp K f v d) : ∀ {vs : List V} {ds : List D}, DpAll K f vs ds → DpAll K f (vs ++ [v]) (ds ++ [d])
  | _, _, .nil => .cons r .nil
  | _, _, .cons q t => .cons q (DpAll.snoc r t)
theorem DpAll.set {K : PySem.W.Frag} {f : Hp} {v : V} {d : D} (r : Dp K f v d) : ∀ {vs : List V} {ds : List D} (i : Nat), DpAll K f vs ds → DpAll K f (vs.set i v) (ds.set i d)
  | _, _, _, .nil => .nil
  | _, _, 0, .cons _ t => .cons r t
  | _, _, i + 1, .cons q t => .cons q (DpAll.set r i t)
/-- x.append(e) -/
theorem Wt.append (k i : Nat) {ad : Addr} {px apos : Pos} (hi : ρ[i]? = some (.own ad)) (h : Ev X e ρ w w1 d) (hk : w1[k]? = some (ad, ds)) (q : E.nx ρ (w1.set k (ad, ds ++ [d]))) (hl : ds.length < 100000) (hN : X.N[i]? = some x := by rfl) (hv : Vis X.env.scope x := by first | exact Or.inl rfl | exact Or.inr (Or.inl rfl) | exact Or.inr (Or.inr rfl))
    (hd : (x == ("__debug__" : Str)) = false := by decide) (hcd : (x == ("__classdict__" : Str)) = false := by decide)
    (hbase : attributeBase (.Name x px) "append" X.env (eval (.Name x px) X.env) = eval (.Name x px) X.env := by rfl)
    (hfew : ((backTo pos (starEach [e] X.env)).all (fun x => !x.1) && (backToKw pos (keywordEach [] X.env)).all (fun x => x.1.isSome)
      && decide (([e] : List Expr).length + ([] : List Keyword).length + (if ([] : List Keyword).isEmpty then 0 else 1) < 30)) = true := by rfl)
    (hline : (apos.endLine == pos.line) = true := by rfl) (hst : starEach [e] X.env = (false, eval e X.env) :: starEach [] X.env := by rfl) (hplain : (backTo pos (starEach [] X.env)).any (·.1) = false := by rfl)
    (hs : swapsWith (.Call (.Attribute (.Name x px) "append" apos) [e] [] pos) none pos'.line X.env = pure false := by rfl) : Wt X (.Expr (.Call (.Attribute (.Name x px) "append" apos) [e] [] pos) pos') E ρ w := fun S B0 σ B Q g s kk => by
  refine w_s (ps_expr (pe_bm PySem.F.plainAttrs_list PySem.F.slot_list_append PySem.F.type_list_append mt_append (pe_var hN hv hd hcd) (pa_cons pe_w pa_nil hst) hbase hfew hline hst hplain) hs) ?_
  obtain ⟨t, e1, e2⟩ := Paired.get s hi
  have m0 : ad ∈ dom w := h.dm ▸ dom_mem hk
  obtain ⟨⟨us, hu⟩, _⟩ := g.own.at m0
  refine ⟨.ref ad, by rw [e1]; exact congrArg some e2, .inl ⟨rfl, us, SqL.of hu⟩, ?_⟩
  refine h.run σ B s g.own _ fun v C l o r => ?_
  obtain ⟨⟨vs, h1, h2⟩, h3⟩ := o.has _ (List.mem_of_getElem? hk)
  refine ⟨ad, vs, v, rfl, rfl, h1, sz_lt (by rw [DpAll.length h2]; exact hl), ?_⟩
  obtain ⟨o2, dm2⟩ := own_upd o hk (DpAll.snoc r h2) h3
  exact kk.nx σ (C.put ad (.lst (vs ++ [v])) h3) ρ _ ((g.step l o h.dm).step (put_le2 h3 (dom_mem hk)) o2 dm2) (Sig.mono l.f s) q
/-- x[i] = e -/
theorem Wt.setIx (k n : Nat) {ad : Addr} {j : Int} {m : Nat} {px tp : Pos} (hi : ρ[n]? = some (.own ad)) (h : Ev X e ρ w w1 d) (hb : Ev X b ρ w1 w2 (.int j)) (hk : w2[k]? = some (ad, ds)) (hj : ixN ds.length j = some m) (q : E.nx ρ (w2.set k (ad, ds.set m d))) (hN : X.N[n]? = some x := by rfl) (hv : Vis X.env.scope x := by first | exact Or.inl rfl | exact Or.inr (Or.inl rfl) | exact Or.inr (Or.inr rfl))
    (hd : (x == ("__debug__" : Str)) = false := by decide) (hcd : (x == ("__classdict__" : Str)) = false := by decide)
    (ha : ∀ v, assign (.Subscript (.Name x px) b tp) X.env v = (do
      let ov ← holding [v] (eval (.Name x px) X.env)
      let iv ← holding [v, ov] (eval b X.env)
      standAt tp
      holding [v, ov, iv] (setItem ov iv v)
      release [v, ov, iv] []) := by intro _; rfl)
    (hs : swapsWithSole [.Subscript (.Name x px) b tp] e pos.line X.env = pure false := by rfl) (hw : swappedStores [.Subscript (.Name x px) b tp] e X.env = pure none := by rfl) (h1 : (assignEach [.Subscript (.Name x px) b tp] X.env).map (·.2) = [assign (.Subscript (.Name x px) b tp) X.env] := by rfl) :
    Wt X (.Assign [.Subscript (.Name x px) b tp] e pos) E ρ w := fun S B0 σ B Q g s kk => by
  refine w_s (ps_asg pe_w (pg_sub (pe_var hN hv hd hcd) pe_w set_list ha) hs hw h1) ?_
  refine h.run σ B s g.own _ fun v C l o r => ?_
  obtain ⟨t, e1, e2⟩ := Paired.get s hi
  refine ⟨.ref ad, by rw [e1]; exact congrArg some e2, ?_⟩
  refine hb.run σ C (Sig.mono l.f s) o _ fun y C2 l2 o2 y1 => ?_
  cases y1
  obtain ⟨⟨vs, z1, z2⟩, z3⟩ := o2.has _ (List.mem_of_getElem? hk)
  refine ⟨ad, vs, j, m, rfl, rfl, z1, by rw [DpAll.length z2]; exact hj, ?_⟩
  obtain ⟨o3, dm3⟩ := own_upd o2 hk (DpAll.set (Dp.mono l2.f r) m z2) z3
  exact kk.nx σ (C2.put ad (.lst (vs.set m v)) z3) ρ _ (((g.step l o h.dm).step l2 o2 hb.dm).step (put_le2 z3 (dom_mem hk)) o3 dm3) (Sig.mono (l.f.trans l2.f) s) q
/-- x op= e on ints -/
theorem Wt.augI {op : Operator} {f : Int → Int → Int} {u v : Int} (i : Nat) (hi : ρ[i]? = some (.dat (.int u))) (h : Ev X e ρ w w1 (.int v)) (ho : OpR X (inplaceOp op) (rI0 fun i j => .int (f i j))) (q : E.nx (ρ.set i (.dat (.int (f u v)))) w1) (hN : X.N.Nodup) (hx' : X.N[i]? = some x := by rfl) (hx : Loc X.env.scope x := by first | exact Or.inl rfl | exact Or.inr rfl) (hf : X.fn x = true ∨ X.env.scope.names.lookup x = some .local := by first | exact .inl rfl | exact .inr rfl | assumption) :
    Wt X (.AugAssign (.Name x pos') op e pos) E ρ w := fun S B0 σ B Q g s k => by
  refine w_s (ps_aug hN hx' hx pe_w (ti := ipI f) (fun pins s σ H x y v u Q I rx ry h => ho pins s σ H x y v u Q I rx ry h) hf) ?_
  obtain ⟨t, e1, z, e2, r⟩ := Paired.get s hi
  cases r
  refine ⟨.int u, by rw [e1, e2], ?_⟩
  refine h.run σ B s g.own _ fun y C l o y1 => ?_
  cases y1
  exact ⟨u, v, rfl, rfl, k.nx _ C _ w1 (g.step l o h.dm) (Paired.set ⟨_, rfl, .int _⟩ i (Sig.mono l.f s)) q⟩
end
end Pm

namespace Pm
open PySem PySem.Spec PyProof.Rows L2 Evl

section
variable {X : Cx} {e a b c : Expr} {es rest : List Expr} {st : Stmt} {sts body body2 : List Stmt} {E : DE} {ρ : List Slot} {w w1 w2 w3 : W} {d d1 d2 : D} {ds : List D} {pos p pos' : Pos} {x : Str}

theorem slot_dat {K : PySem.W.Frag} {f : Hp} {v : V} {d : D} (h : Dp K f v d) : SlotOk K f (some v) (.dat d) := ⟨v, rfl, h⟩
/-! ### loops -/
/-- a state of a loop that began at B1 -/
def LSt (K : PySem.W.Frag) (B1 : HH) (w1 : W) (I : List Slot → W → Prop) (σ : L2.St) (H : Hp) : Prop := ∃ C ρ w, C.h = H ∧ Good K (dom w1) B1 w C ∧ Sig K C.f σ ρ ∧ I ρ w
theorem LSt.nx {K : PySem.W.Frag} {B1 : HH} {I : List Slot → W → Prop} {σ : L2.St} {C : HH} (g : Good K (dom w1) B1 w C) (s : Sig K C.f σ ρ) (i : I ρ w) : LSt K B1 w1 I σ C.h := ⟨C, ρ, w, rfl, g, s, i⟩
/-- a body that leads from I to I' -/
theorem body_ok {K : PySem.W.Frag} {S : List Addr} {B0 B1 C : HH} {I' : List Slot → W → Prop} {Q : Ends} {σ : L2.St} (hK : X.K = K)
    (hb : Ws X body { E with nx := I', ct := I', bk := E.nx } ρ w) (q : wD X.K S B0 E Q) (g1 : Good X.K S B0 w1 B1) (g : Good X.K (dom w1) B1 w C) (s : Sig X.K C.f σ ρ) :
    wSs X body { Q with nx := LSt X.K B1 w1 I', ct := LSt X.K B1 w1 I', bk := Q.nx } σ C.h := by
  have q2 := q.sub g1
  exact hb (dom w1) B1 σ C _ g s ⟨fun σ C ρ w k z i => ⟨C, ρ, w, rfl, k, z, i⟩, q2.rt, q2.rn, q2.nx, fun σ C ρ w k z i => ⟨C, ρ, w, rfl, k, z, i⟩⟩
theorem Wt.while (I : Nat → List Slot → W → Prop) (n : Nat) (h0 : I n ρ w)
    (hs : ∀ n ρ w, I n ρ w → ∃ k w1, EvT X c ρ w w1 k ∧ (k = true → Ws X body { E with nx := fun ρ w => ∃ m, m < n ∧ I m ρ w, ct := fun ρ w => ∃ m, m < n ∧ I m ρ w, bk := E.nx } ρ w1) ∧ (k = false → E.nx ρ w1))
    (hp : PassesOwn (model X.prog X.w) X.A X.env X.xe) : Wt X (.While c body [] pos) E ρ w := fun S B0 σ B Q g s q => by
  refine w_s (ps_while hp pt_w pss_w) ?_
  refine ⟨fun m => LSt X.K B w (I m), ⟨n, B, ρ, w, rfl, Good.start g.own, s, h0⟩, ?_⟩
  rintro m σ H ⟨C, ρ, w2, rfl, gc, sc, i⟩
  obtain ⟨k, w3, hc, ht, hf⟩ := hs m ρ w2 i
  refine hc.run σ C sc gc.own _ fun C2 l o => ?_
  have g2 := gc.step l o hc.dm
  have s2 := Sig.mono l.f sc
  cases k with
  | true =>
    refine L2.iteT ?_
    exact ⟨LSt X.K B w fun ρ w => ∃ m', m' < m ∧ I m' ρ w, fun σ' H' ⟨C, ρ, w4, e, g4, s4, m', hm, i4⟩ => ⟨m', hm, C, ρ, w4, e, g4, s4, i4⟩, body_ok rfl (ht rfl) q g g2 s2⟩
  | false =>
    refine L2.iteF ?_
    exact (q.sub g).nx σ C2 ρ w3 g2 s2 (hf rfl)
theorem Wt.forR1 (j : Nat) {ar : Expr} {n : Int} {pr px pc : Pos} (I : Nat → List Slot → W → Prop) (hr : EvA X [ar] ρ w w1 [.dat (.int n)]) (hb1 : -(2 ^ 62) ≤ n ∧ n < 2 ^ 62) (h0 : I 0 ρ w1)
    (hs : ∀ i ρ w, i < n.toNat → I i ρ w → Ws X body { E with nx := I (i + 1), ct := I (i + 1), bk := E.nx } (ρ.set j (.dat (.int (i : Int)))) w) (hd : ∀ ρ w, I n.toNat ρ w → E.nx ρ w)
    (hp : PassesOwn (model X.prog X.w) X.A X.env X.xe) (hc : X.calm = true) (hN : X.N.Nodup) (hm : X.mg "range" = none) (hg : Gl X "range" := by rfl) (hi : X.N[j]? = some x := by rfl) (hx : Loc X.env.scope x := by first | exact Or.inl rfl | exact Or.inr rfl) (hf : X.fn x = true ∨ X.env.scope.names.lookup x = some .local := by first | exact .inl rfl | exact .inr rfl | assumption)
    (hst : starEach [ar] X.env = [(false, eval ar X.env)] := by rfl) (hfs : ∀ x, foldedSetIterable (.Call (.Name "range" pr) [ar] [] pc) X.env x = pure x := by intro _; rfl) : Wt X (.For (.Name x px) (.Call (.Name "range" pr) [ar] [] pc) body [] pos) E ρ w := fun S B0 σ B Q g s q => by
  refine w_s (ps_for hp hc (pi_range1 hg hm pa_w hst) (pg_name hN hi hx hf) pss_w hfs) ?_
  refine hr.run σ B s g.own _ fun vs C l o v => ?_
  have g1 := g.step l o hr.dm
  cases v with
  | cons r t =>
    cases t
    cases r
    refine ⟨n, rfl, hb1.1, hb1.2, for_range (lo := 0) (n := n.toNat) (fun i => LSt X.K C w1 (I i)) ⟨C, ρ, w1, rfl, Good.start o, Sig.mono l.f s, h0⟩ ?_ ?_⟩
    · rintro i σ H hi ⟨C2, ρ2, w2, rfl, g2, s2, i2⟩
      refine body_ok rfl (hs i ρ2 w2 hi i2) q g1 g2 (Paired.set (slot_dat ?_) j s2)
      rw [Int.zero_add]
      exact .int _
    · rintro σ H ⟨C2, ρ2, w2, rfl, g2, s2, i2⟩
      exact (q.sub g1).nx σ C2 ρ2 w2 g2 s2 (hd ρ2 w2 i2)
theorem Wt.forR2 (j : Nat) {ar br : Expr} {lo n : Int} {pr px pc : Pos} (I : Nat → List Slot → W → Prop) (hr : EvA X [ar, br] ρ w w1 [.dat (.int lo), .dat (.int n)]) (hb1 : -(2 ^ 62) ≤ lo ∧ lo < 2 ^ 62 ∧ -(2 ^ 62) ≤ n ∧ n < 2 ^ 62) (h0 : I 0 ρ w1)
    (hs : ∀ i ρ w, i < (n - lo).toNat → I i ρ w → Ws X body { E with nx := I (i + 1), ct := I (i + 1), bk := E.nx } (ρ.set j (.dat (.int (lo + (i : Int))))) w) (hd : ∀ ρ w, I (n - lo).toNat ρ w → E.nx ρ w)
    (hp : PassesOwn (model X.prog X.w) X.A X.env X.xe) (hc : X.calm = true) (hN : X.N.Nodup) (hm : X.mg "range" = none) (hg : Gl X "range" := by rfl) (hi : X.N[j]? = some x := by rfl) (hx : Loc X.env.scope x := by first | exact Or.inl rfl | exact Or.inr rfl) (hf : X.fn x = true ∨ X.env.scope.names.lookup x = some .local := by first | exact .inl rfl | exact .inr rfl | assumption)
    (hst : starEach [ar, br] X.env = [(false, eval ar X.env), (false, eval br X.env)] := by rfl) (hst2 : starEach [br] X.env = [(false, eval br X.env)] := by rfl) (hfs : ∀ x, foldedSetIterable (.Call (.Name "range" pr) [ar, br] [] pc) X.env x = pure x := by intro _; rfl) : Wt X (.For (.Name x px) (.Call (.Name "range" pr) [ar, br] [] pc) body [] pos) E ρ w := fun S B0 σ B Q g s q => by
  refine w_s (ps_for hp hc (pi_range2 hg hm pa_w hst hst2) (pg_name hN hi hx hf) pss_w hfs) ?_
  refine hr.run σ B s g.own _ fun vs C l o v => ?_
  have g1 := g.step l o hr.dm
  cases v with
  | cons r t =>
    cases t with
    | cons r2 t2 =>
      cases t2
      cases r
      cases r2
      refine ⟨lo, n, rfl, hb1, for_range (lo := lo) (n := (n - lo).toNat) (fun i => LSt X.K C w1 (I i)) ⟨C, ρ, w1, rfl, Good.start o, Sig.mono l.f s, h0⟩ ?_ ?_⟩
      · rintro i σ H hi ⟨C2, ρ2, w2, rfl, g2, s2, i2⟩
        exact body_ok rfl (hs i ρ2 w2 hi i2) q g1 g2 (Paired.set (slot_dat (.int _)) j s2)
      · rintro σ H ⟨C2, ρ2, w2, rfl, g2, s2, i2⟩
        exact (q.sub g1).nx σ C2 ρ2 w2 g2 s2 (hd ρ2 w2 i2)
theorem Wt.forL (j : Nat) {it : Expr} {px : Pos} (I : Nat → List Slot → W → Prop) (hr : Ev X it ρ w w1 (.list ds)) (h0 : I 0 ρ w1)
    (hs : ∀ i y ρ w, ds[i]? = some y → I i ρ w → Ws X body { E with nx := I (i + 1), ct := I (i + 1), bk := E.nx } (ρ.set j (.dat y)) w) (hd : ∀ ρ w, I ds.length ρ w → E.nx ρ w)
    (hp : PassesOwn (model X.prog X.w) X.A X.env X.xe) (hc : X.calm = true) (hN : X.N.Nodup) (hi : X.N[j]? = some x := by rfl) (hx : Loc X.env.scope x := by first | exact Or.inl rfl | exact Or.inr rfl) (hf : X.fn x = true ∨ X.env.scope.names.lookup x = some .local := by first | exact .inl rfl | exact .inr rfl | assumption)
    (hfs : ∀ x, foldedSetIterable it X.env x = pure x := by intro _; rfl) : Wt X (.For (.Name x px) it body [] pos) E ρ w := fun S B0 σ B Q g s q => by
  refine w_s (ps_for hp hc (pi_list pe_w) (pg_name hN hi hx hf) pss_w hfs) ?_
  refine hr.run σ B s g.own _ fun v C l o r => ?_
  have g1 := g.step l o hr.dm
  cases r with
  | lst hl hd' =>
    rename_i ad xs
    have el := DpAll.length hd'
    refine ⟨ad, rfl, ⟨_, ex_l C.ok hl⟩, for_list (K := X.K) (a := ad) (xs := xs) (fun i => LSt X.K C w1 (I i)) ⟨C, ρ, w1, rfl, Good.start o, Sig.mono l.f s, h0⟩ ?_ ?_ ?_⟩
    · rintro i σ H hi ⟨C2, ρ2, w2, rfl, g2, s2, i2⟩
      exact ex_l C2.ok (ex_l g2.le.f hl)
    · rintro i y σ H hi ⟨C2, ρ2, w2, rfl, g2, s2, i2⟩
      have hlt : i < ds.length := by rw [← el]; exact (List.getElem?_eq_some_iff.mp hi).1
      obtain ⟨v, h1, h2⟩ := DpAll.get hd' (List.getElem?_eq_getElem hlt)
      have ev : v = y := Option.some.inj (h1.symm.trans hi)
      subst ev
      exact body_ok rfl (hs i _ ρ2 w2 (List.getElem?_eq_getElem hlt) i2) q g1 g2 (Paired.set (slot_dat (Dp.mono g2.le.f h2)) j s2)
    · rintro σ H ⟨C2, ρ2, w2, rfl, g2, s2, i2⟩
      rw [el] at i2
      exact (q.sub g1).nx σ C2 ρ2 w2 g2 s2 (hd ρ2 w2 i2)
theorem Wt.forT (j : Nat) {it : Expr} {px : Pos} (I : Nat → List Slot → W → Prop) (hr : Ev X it ρ w w1 (.tuple ds)) (h0 : I 0 ρ w1)
    (hs : ∀ i y ρ w, ds[i]? = some y → I i ρ w → Ws X body { E with nx := I (i + 1), ct := I (i + 1), bk := E.nx } (ρ.set j (.dat y)) w) (hd : ∀ ρ w, I ds.length ρ w → E.nx ρ w)
    (hp : PassesOwn (model X.prog X.w) X.A X.env X.xe) (hc : X.calm = true) (hN : X.N.Nodup) (hi : X.N[j]? = some x := by rfl) (hx : Loc X.env.scope x := by first | exact Or.inl rfl | exact Or.inr rfl) (hf : X.fn x = true ∨ X.env.scope.names.lookup x = some .local := by first | exact .inl rfl | exact .inr rfl | assumption)
    (hfs : ∀ x, foldedSetIterable it X.env x = pure x := by intro _; rfl) : Wt X (.For (.Name x px) it body [] pos) E ρ w := fun S B0 σ B Q g s q => by
  refine w_s (ps_for hp hc (pi_tup pe_w) (pg_name hN hi hx hf) pss_w hfs) ?_
  refine hr.run σ B s g.own _ fun v C l o r => ?_
  have g1 := g.step l o hr.dm
  cases r with
  | tup hl hd' =>
    rename_i ad xs
    have el := DpAll.length hd'
    refine ⟨ad, rfl, ⟨_, ex_t C.ok hl⟩, for_tup (K := X.K) (a := ad) (xs := xs) (fun i => LSt X.K C w1 (I i)) ⟨C, ρ, w1, rfl, Good.start o, Sig.mono l.f s, h0⟩ ?_ ?_ ?_⟩
    · rintro i σ H hi ⟨C2, ρ2, w2, rfl, g2, s2, i2⟩
      exact ex_t C2.ok (ex_t g2.le.f hl)
    · rintro i y σ H hi ⟨C2, ρ2, w2, rfl, g2, s2, i2⟩
      have hlt : i < ds.length := by rw [← el]; exact (List.getElem?_eq_some_iff.mp hi).1
      obtain ⟨v, h1, h2⟩ := DpAll.get hd' (List.getElem?_eq_getElem hlt)
      have ev : v = y := Option.some.inj (h1.symm.trans hi)
      subst ev
      exact body_ok rfl (hs i _ ρ2 w2 (List.getElem?_eq_getElem hlt) i2) q g1 g2 (Paired.set (slot_dat (Dp.mono g2.le.f h2)) j s2)
    · rintro σ H ⟨C2, ρ2, w2, rfl, g2, s2, i2⟩
      rw [el] at i2
      exact (q.sub g1).nx σ C2 ρ2 w2 g2 s2 (hd ρ2 w2 i2)

/-! ### comprehensions -/
/-- the state of a comprehension: the list at L holds ys -/
def CSt (K : PySem.W.Frag) (B : HH) (w : W) (L : Addr) (wi : W) (ys : List D) (H : Hp) : Prop := ∃ C vs, C.h = H ∧ Le (dom w) B C ∧ Own K wi C ∧ C.h L = some (.lst vs) ∧ C.f L = none ∧ DpAll K C.f vs ys
/-- the reading of an element, whatever block it stands in -/
def tBlk (X : Cx) (scope : Scope) (elt : Expr) : TE := fun σ H Q => ∀ (s : Shared) (H0 : Hp) (C : Addr) (cl : List (Str × Addr)) (fp : List Addr), wE (X.blk s H0 scope (compEnvC scope cl C X.env) fp) elt σ H Q
abbrev EvB (X : Cx) (scope : Scope) (elt : Expr) (ρ : List Slot) (w w' : W) (d : D) : Prop := ∀ (s : Shared) (H0 : Hp) (C : Addr) (cl : List (Str × Addr)) (fp : List Addr), Ev (X.blk s H0 scope (compEnvC scope cl C X.env) fp) elt ρ w w' d
theorem comp_step {scope : Scope} {elt : Expr} {B : HH} {L : Addr} {wi wj : W} {ys : List D} {y : D} {H : Hp} {σ : L2.St} (hb : EvB X scope elt ρ wi wj y) (dmi : dom wi = dom w) (hL : B.h L = none) (oB : Own X.K w B)
    (hs : ∀ C : HH, Le (dom w) B C → Sig X.K C.f σ ρ) (h : CSt X.K B w L wi ys H) (hz : ys.length < 100000) :
    tBlk X scope elt σ H fun v H4 => ∃ acc, H4 L = some (.lst acc) ∧ acc.length < sizeLine ∧ CSt X.K B w L wj (ys ++ [y]) (upd H4 L (.lst (acc ++ [v]))) := by
  obtain ⟨C, vs, rfl, l, o, h1, h2, h3⟩ := h
  intro s H0 Cc cl fp
  have hb := hb s H0 Cc cl fp
  have nL : L ∉ dom wi := fun m => oB.stands L (dmi ▸ m) hL
  refine hb.run σ C (hs C l) o _ fun v C2 l2 o2 r => ?_
  have e2 : C2.h L = some (.lst vs) := l2.h _ _ nL h1
  have f2 : C2.f L = none := by
    cases z : C2.f L with
    | none => rfl
    | some u =>
      rcases l2.new L (by rw [z]; simp) with k | k | k
      · exact absurd h2 k
      · rw [h1] at k; cases k
      · exact absurd k nL
  have l3 : Le (dom w) B C2 := l.trans (dmi ▸ l2)
  refine ⟨vs, e2, sz_lt (by rw [DpAll.length h3]; exact hz), C2.put L (.lst (vs ++ [v])) f2, vs ++ [v], rfl, ⟨l3.f, fun x u n e => ?_, l3.new, fun x n => upd_st (l3.st x n)⟩, ?_, upd_same, f2, DpAll.snoc r (DpAll.mono l2.f h3)⟩
  · have ne : x ≠ L := ne_of_none e hL
    exact (upd_ne ne).trans (l3.h x u n e)
  · have nL2 : L ∉ dom wj := fun m => nL (hb.dm ▸ m)
    exact o2.step (S := [L]) (put_le2 f2 (by simp)) fun x m z => nL2 (by simp at z; exact z ▸ m)
/-- a reading that makes a new list -/
structure RdN (K : PySem.W.Frag) (te : TE) (ρ : List Slot) (w w' : W) (ds : List D) : Prop where
  dm : dom w' = dom w
  run : ∀ σ B, Sig K B.f σ ρ → Own K w B → ∀ Q : VK, (∀ p vs C, B.h p = none → Le (dom w) B C → Own K w' C → C.h p = some (.lst vs) → C.f p = none → DpAll K C.f vs ds → Q (.ref p) C.h) → te σ B.h Q
theorem RdN.evn {t : TE} (h : RdN X.K t ρ w w1 ds) (p : PE X e t) : EvN X e ρ w w1 ds := ⟨h.dm, fun σ B hs hw Q q => w_e p (h.run σ B hs hw Q q)⟩
/-- x = [..], data -/
theorem Wt.setRd (i : Nat) {t : TE} (h : RdN X.K t ρ w w1 ds) (p : PS X st (tAsg t (gName i))) (q : E.nx (ρ.set i (.dat (.list ds))) w1) : Wt X st E ρ w := fun S B0 σ B Q g s k =>
  w_s p (h.run σ B s g.own _ fun a vs C hp l o h1 h2 r => by
    have np : a ∉ dom w1 := fun m => g.own.stands a (h.dm ▸ m) hp
    exact k.nx _ (C.tell a (.lst vs) h1) _ w1 (g.step (l.tell h1 h2 (.inl hp)) (o.tell h1 h2 np) h.dm) (Paired.set (slot_dat (.lst (SqL.of upd_same) (DpAll.mono (HH.tell_ex h1 h2) r))) i (Sig.mono (l.f.trans (HH.tell_ex h1 h2)) s)) q)
/-- x = [..], owned -/
theorem Wt.newRd (i : Nat) {t : TE} (h : RdN X.K t ρ w w1 ds) (p : PS X st (tAsg t (gName i))) (q : ∀ a, E.nx (ρ.set i (.own a)) (w1 ++ [(a, ds)])) : Wt X st E ρ w := fun S B0 σ B Q g s k =>
  w_s p (h.run σ B s g.own _ fun a vs C hp l o h1 h2 r => by
    have na : a ∉ dom w := fun m => g.own.stands a m hp
    have gc : Good X.K S B0 w1 C := g.step l o h.dm
    refine k.nx _ C _ _ ⟨gc.le, ⟨?_, fun q hq => ?_⟩, fun y hy => ?_⟩ (Paired.set (show SlotOk X.K C.f (some (V.ref a)) (.own a) from rfl) i (Sig.mono l.f s)) (q a)
    · unfold dom
      rw [List.map_append]
      refine List.nodup_append.mpr ⟨o.nd, by simp, fun y hy z hz => ?_⟩
      have ez : z = a := by simpa using hz
      subst ez
      intro e
      subst e
      exact na (h.dm ▸ hy)
    · rcases List.mem_append.mp hq with m | m
      · exact o.has q m
      · have ez : q = (a, ds) := by simpa using m
        subst ez
        exact ⟨⟨vs, h1, r⟩, h2⟩
    · unfold dom at hy
      rw [List.map_append] at hy
      rcases List.mem_append.mp hy with m | m
      · exact gc.loc y m
      · have ez : y = a := by simpa using m
        subst ez
        exact g.free hp)
theorem compR_run (j : Nat) {elt ar : Expr} {scope : Scope} {n : Int} {ws : Nat → W} {ys : Nat → D} (hr : EvA X [ar] ρ w w1 [.dat (.int n)]) (hb1 : n ≤ 100000) (hb0 : -(2 ^ 62) ≤ n) (h0 : ws 0 = w1) (hdm : ∀ i, dom (ws i) = dom w1)
    (hb : ∀ i, i < n.toNat → EvB X scope elt ((wipeS ρ [j]).set j (.dat (.int (i : Int)))) (ws i) (ws (i + 1)) (ys i)) : RdN X.K (tLc (iRng1 (wA X [ar])) (gName j) tYes (tBlk X scope elt) [j]) ρ w (ws n.toNat) ((List.range n.toNat).map ys) := by
  refine ⟨(hdm _).trans hr.dm, fun σ B hsg hw Q q => ?_⟩
  refine hr.run σ B hsg hw _ fun vs C l o v => ?_
  cases v with
  | cons r t =>
    cases t
    cases r
    have hsC : Sig X.K C.f σ ρ := Sig.mono l.f hsg
    refine ⟨n, rfl, hb0, by omega, fun L hL => ?_⟩
    have hLB : B.h L = none := Le.back l hw o hr.dm hL
    refine lc_range (lo := 0) (n := n.toNat) (fun i H => CSt X.K C w1 L (ws i) ((List.range i).map ys) H) ?_ ?_ ?_
    · rw [h0]
      exact ⟨C.put L (.lst []) (HH.free hL), [], rfl, HH.put_le hL, o.step (HH.put_le (S := []) hL) (by simp), upd_same, HH.free (B := C) hL, .nil⟩
    · intro i H hin hC
      refine ⟨?_, ?_⟩
      · show wipe ((wipe σ [j]).set j _) [j] = wipe σ [j]
        simp only [wipe, List.set_set]
      · refine iteT (B := CSt X.K C w1 L (ws (i + 1)) ((List.range (i + 1)).map ys) H) ?_
        rw [Int.zero_add]
        have k := comp_step (σ := (wipe σ [j]).set j (some (.int (i : Int)))) (hb i hin) (hdm i) hL o (fun E l2 => Paired.set (slot_dat (.int _)) j (Sig.wipe (Sig.mono l2.f hsC) [j])) hC (by rw [List.length_map, List.length_range]; omega)
        have e : (List.range i).map ys ++ [ys i] = (List.range (i + 1)).map ys := by
          rw [List.range_succ, List.map_append]
          rfl
        rw [e] at k
        exact k
    · rintro H ⟨C2, vs2, rfl, l2, o2, h1, h2, h3⟩
      exact q L vs2 C2 hLB (lift2 (S := w) hr.dm l o l2) o2 h1 h2 h3
theorem pe_compR (j : Nat) {elt ar : Expr} {scope : Scope} {pr px pc : Pos} (ok : BlkOk X.N X.env.scope scope [(x, j)]) (hc : X.calm = true) (hN : X.N.Nodup) (hm : X.mg "range" = none) (hg : Gl X "range" := by rfl) (hi : X.N[j]? = some x := by rfl) (hx : Loc (relabel scope X.env) x := by first | exact Or.inl rfl | exact Or.inr rfl)
    (hf : (scope.names.lookup x == some .cell) = true ∨ (relabel scope X.env).names.lookup x = some .local := by first | exact .inr rfl | exact .inl rfl)
    (hst : starEach [ar] X.env = [(false, eval ar X.env)] := by rfl) (hfs : ∀ x, foldedSetIterable (.Call (.Name "range" pr) [ar] [] pc) X.env x = pure x := by intro _; rfl) :
    PE X (.ListComp elt [⟨.Name x px, .Call (.Name "range" pr) [ar] [] pc, [], 0⟩] scope pos) (tLc (iRng1 (wA X [ar])) (gName j) tYes (tBlk X scope elt) [j]) :=
  pe_lc (own := [(x, j)]) hc hN (pi_range1 hg hm pa_w hst) ok (fun s H C cl fp => pg_name hN hi hx hf) (fun s H C cl fp => pts_nil) (fun s H C cl fp => ⟨fun pins s' σ H Q I h => h s _ C cl fp pins s' I⟩) hfs
theorem ps_compR (i j : Nat) {y : Str} {py : Pos} {elt ar : Expr} {scope : Scope} {pr px pc spos : Pos} (ok : BlkOk X.N X.env.scope scope [(x, j)]) (hc : X.calm = true) (hN : X.N.Nodup) (hm : X.mg "range" = none) (hsw : swapsWith (.ListComp elt [⟨.Name x px, .Call (.Name "range" pr) [ar] [] pc, [], 0⟩] scope pos) (some (.Name y py)) spos.line X.env = pure true := by exact sw_true rfl rfl rfl (by decide +kernel))
    (hy : X.N[i]? = some y := by rfl) (hyl : X.env.scope.names.lookup y = some .local := by rfl) (hg : Gl X "range" := by rfl) (hi : X.N[j]? = some x := by rfl) (hx : Loc (relabel scope X.env) x := by first | exact Or.inl rfl | exact Or.inr rfl)
    (hf : (scope.names.lookup x == some .cell) = true ∨ (relabel scope X.env).names.lookup x = some .local := by first | exact .inr rfl | exact .inl rfl)
    (hst : starEach [ar] X.env = [(false, eval ar X.env)] := by rfl) (hfs : ∀ x, foldedSetIterable (.Call (.Name "range" pr) [ar] [] pc) X.env x = pure x := by intro _; rfl) :
    PS X (.Assign [.Name y py] (.ListComp elt [⟨.Name x px, .Call (.Name "range" pr) [ar] [] pc, [], 0⟩] scope pos) spos) (tAsg (tLc (iRng1 (wA X [ar])) (gName j) tYes (tBlk X scope elt) [j]) (gName i)) :=
  ps_setLc (own := [(x, j)]) hc hN hy hyl hsw (pi_range1 hg hm pa_w hst) ok (fun s H C cl fp => pg_name hN hi hx hf) (fun s H C cl fp => pts_nil) (fun s H C cl fp => ⟨fun pins s' σ H Q I h => h s _ C cl fp pins s' I⟩) hfs

/-! ### defs -/
def Ag.slot : Ag → Slot
  | .dat d => .dat d
  | .own a => .own a
def startS (N : List Str) (as : List Ag) : List Slot := as.map Ag.slot ++ List.replicate (N.length - as.length) .none
theorem start_sig {K : PySem.W.Frag} {f : Hp} : ∀ {vs : List V} {as : List Ag}, Paired (AgOk K f) vs as → Sig K f (vs.map some) (as.map Ag.slot)
  | _, _, .nil => .nil
  | _, _, .cons (b := .dat d) r t => .cons ⟨_, rfl, r⟩ (start_sig t)
  | _, _, .cons (b := .own a) r t => .cons (congrArg some r) (start_sig t)
theorem paired_app {α β : Type} {R : α → β → Prop} : ∀ {xs : List α} {ys : List β} {xs' : List α} {ys' : List β}, Paired R xs ys → Paired R xs' ys' → Paired R (xs ++ xs') (ys ++ ys')
  | _, _, _, _, .nil, h => h
  | _, _, _, _, .cons r t, h => .cons r (paired_app t h)
theorem sig_none {K : PySem.W.Frag} {f : Hp} : ∀ n : Nat, Sig K f (List.replicate n none) (List.replicate n .none)
  | 0 => .nil
  | n + 1 => .cons trivial (sig_none n)
theorem Paired.length' {α β : Type} {R : α → β → Prop} : ∀ {xs : List α} {ys : List β}, Paired R xs ys → xs.length = ys.length
  | _, _, .nil => rfl
  | _, _, .cons _ t => congrArg (· + 1) (Paired.length' t)
/-- a promise by data: R world args world' result -/
def spG (K : PySem.W.Frag) (n : Nat) (R : W → List Ag → W → D → Prop) : Sp := fun vs H Q _ => ∃ (B : HH) (w : W) (as : List Ag) (w' : W) (r : D), B.h = H ∧ as.length = n ∧ Own K w B ∧ dom w' = dom w ∧ Paired (AgOk K B.f) vs as ∧ R w as w' r ∧ ∀ v C, Le (dom w) B C → Own K w' C → Dp K C.f v r → Q v C.h
theorem fn_ok {P : Program} {wd : World} {K : PySem.W.Frag} {mg : Str → Option Value} {base : Heap} {nm qual : Str} {st : Stmt} {f : Addr} {fd : FuncData} {N ps : List Str} {k : Nat} {R : W → List Ag → W → D → Prop} (F : Fun K nm qual st f fd) (S : FnScope N ps (defScope st))
    (hbody : ∀ (cdv : Value) (A : Around) (outer : List Env) (s : Shared) (H : Hp) (E : XK), Room k (A.deeper (envOfC qual (defScope st) s.heap.objs.size f cdv)) → ∀ w as w' r, as.length = ps.length → dom w' = dom w → R w as w' r →
      Ws (cxOf CX0 P wd K mg base N qual (defScope st) f cdv A outer s H E).nox (defBody st) { nx := fun _ w2 => r = .none ∧ w2 = w', rt := fun d w2 => d = r ∧ w2 = w' } (startS N as) w) : FnOk P wd K mg base CX0 (k + 1) f fd ps (spG K ps.length R) := by
  refine F.ok S (fun vs H Q E h => ?_) (fun cdv A outer s H vs Q E hr h => ?_)
  · obtain ⟨B, w, as, w', r, _, e, _, _, pa, _⟩ := h
    rw [Paired.length' pa, e]
  · obtain ⟨B, w, as, w', r, rfl, e, o, dm, pa, hR, q⟩ := h
    refine ⟨_, pss_w, hbody cdv A outer s B.h E hr w as w' r e dm hR (dom w) B _ B _ (Good.start o) ?_ ⟨?_, ?_, fun _ _ _ _ _ _ _ _ _ _ h => h.elim, fun _ _ _ _ _ _ h => h.elim, fun _ _ _ _ _ _ h => h.elim⟩⟩
    · refine paired_app (start_sig pa) ?_
      rw [Paired.length' pa]
      exact sig_none _
    · rintro σ C ρ w2 g s ⟨rfl, rfl⟩
      exact q .non C g.le g.own .non
    · rintro v C d w2 g r2 ⟨rfl, rfl⟩
      exact q v C g.le g.own r2
theorem Own.left {K : PySem.W.Frag} {B : HH} {t : W} (o : Own K (w ++ t) B) : Own K w B := by
  refine ⟨?_, fun q hq => o.has q (List.mem_append_left _ hq)⟩
  have h := o.nd
  unfold dom at h ⊢
  rw [List.map_append] at h
  exact (List.nodup_append.mp h).1
/-- .. where the def's own lists are dropped at its end -/
theorem fn_okT {P : Program} {wd : World} {K : PySem.W.Frag} {mg : Str → Option Value} {base : Heap} {nm qual : Str} {st : Stmt} {f : Addr} {fd : FuncData} {N ps : List Str} {k : Nat} {R : W → List Ag → W → D → Prop} (F : Fun K nm qual st f fd) (S : FnScope N ps (defScope st))
    (hbody : ∀ (cdv : Value) (A : Around) (outer : List Env) (s : Shared) (H : Hp) (E : XK), Room k (A.deeper (envOfC qual (defScope st) s.heap.objs.size f cdv)) → ∀ w as w' r, as.length = ps.length → dom w' = dom w → R w as w' r →
      Ws (cxOf CX0 P wd K mg base N qual (defScope st) f cdv A outer s H E).nox (defBody st) { nx := fun _ w2 => r = .none ∧ ∃ t, w2 = w' ++ t, rt := fun d w2 => d = r ∧ ∃ t, w2 = w' ++ t } (startS N as) w) : FnOk P wd K mg base CX0 (k + 1) f fd ps (spG K ps.length R) := by
  refine F.ok S (fun vs H Q E h => ?_) (fun cdv A outer s H vs Q E hr h => ?_)
  · obtain ⟨B, w, as, w', r, _, e, _, _, pa, _⟩ := h
    rw [Paired.length' pa, e]
  · obtain ⟨B, w, as, w', r, rfl, e, o, dm, pa, hR, q⟩ := h
    refine ⟨_, pss_w, hbody cdv A outer s B.h E hr w as w' r e dm hR (dom w) B _ B _ (Good.start o) ?_ ⟨?_, ?_, fun _ _ _ _ _ _ _ _ _ _ h => h.elim, fun _ _ _ _ _ _ h => h.elim, fun _ _ _ _ _ _ h => h.elim⟩⟩
    · refine paired_app (start_sig pa) ?_
      rw [Paired.length' pa]
      exact sig_none _
    · rintro σ C ρ w2 g s ⟨rfl, t, rfl⟩
      exact q .non C g.le g.own.left .non
    · rintro v C d w2 g r2 ⟨rfl, t, rfl⟩
      exact q v C g.le g.own.left r2
/-- a def that hands back a new list -/
def spN (K : PySem.W.Frag) (n : Nat) (R : W → List Ag → W → List D → Prop) : Sp := fun vs H Q _ => ∃ (B : HH) (w : W) (as : List Ag) (w' : W) (r : List D), B.h = H ∧ as.length = n ∧ Own K w B ∧ dom w' = dom w ∧ Paired (AgOk K B.f) vs as ∧ R w as w' r ∧ ∀ p vs C, B.h p = none → Le (dom w) B C → Own K w' C → C.h p = some (.lst vs) → C.f p = none → DpAll K C.f vs r → Q (.ref p) C.h
theorem fn_okN {P : Program} {wd : World} {K : PySem.W.Frag} {mg : Str → Option Value} {base : Heap} {nm qual : Str} {st : Stmt} {f : Addr} {fd : FuncData} {N ps : List Str} {k : Nat} {R : W → List Ag → W → List D → Prop} (F : Fun K nm qual st f fd) (S : FnScope N ps (defScope st))
    (hbody : ∀ (cdv : Value) (A : Around) (outer : List Env) (s : Shared) (H : Hp) (E : XK), Room k (A.deeper (envOfC qual (defScope st) s.heap.objs.size f cdv)) → ∀ w as w' r, as.length = ps.length → dom w' = dom w → R w as w' r →
      Ws (cxOf CX0 P wd K mg base N qual (defScope st) f cdv A outer s H E).nox (defBody st) { nx := fun _ _ => False, rt := fun _ _ => False, rn := fun d w2 => d = r ∧ w2 = w' } (startS N as) w) : FnOk P wd K mg base CX0 (k + 1) f fd ps (spN K ps.length R) := by
  refine F.ok S (fun vs H Q E h => ?_) (fun cdv A outer s H vs Q E hr h => ?_)
  · obtain ⟨B, w, as, w', r, _, e, _, _, pa, _⟩ := h
    rw [Paired.length' pa, e]
  · obtain ⟨B, w, as, w', r, rfl, e, o, dm, pa, hR, q⟩ := h
    refine ⟨_, pss_w, hbody cdv A outer s B.h E hr w as w' r e dm hR (dom w) B _ B _ (Good.start o) ?_ ⟨fun _ _ _ _ _ _ h => h.elim, fun _ _ _ _ _ _ h => h.elim, ?_, fun _ _ _ _ _ _ h => h.elim, fun _ _ _ _ _ _ h => h.elim⟩⟩
    · refine paired_app (start_sig pa) ?_
      rw [Paired.length' pa]
      exact sig_none _
    · rintro p vs C d w2 g hp h1 h2 r2 ⟨rfl, rfl⟩
      exact q p vs C hp g.le g.own h1 h2 r2
theorem EvN.call {f : Addr} {fd : FuncData} {ps : List Str} {k n : Nat} {R : W → List Ag → W → List D → Prop} {as : List Ag} (F : FnOk X.prog X.w X.K X.mg X.base CX0 k f fd ps (spN X.K n R)) (hr : Room k X.A) (hm : X.mg x = some (.ref f)) (hk : PySem.W.keepIn X.K (.ref f) = true) (hb : Binds X.K fd ps [])
    (ha : EvA X (e :: es) ρ w w1 as) (hl : as.length = n) (hR : R [] as [] ds) (hx : Passes CX0 X E0) (hg : Gl X x := by rfl) (hdb : (x == ("__debug__" : Str)) = false := by decide) 
    (he : starEach (e :: es) X.env = (false, eval e X.env) :: starEach es X.env := by rfl) (hpl : (backTo pos (starEach es X.env)).any (·.1) = false := by rfl) : EvN X (.Call (.Name x p) (e :: es) [] pos) ρ w w1 ds := by
  refine ⟨ha.dm, fun σ B hs hw Q q => w_e (pe_call F hr hg hm hk hb .nil hx pa_w hdb he hpl) ?_⟩
  refine ha.run σ B hs hw _ fun vs C l o v => ?_
  rw [List.append_nil]
  exact ⟨C, [], as, [], ds, rfl, hl, own_nil, rfl, v, hR, fun z us E hz l2 _ h1 h2 h3 => q z us E (Le.back l hw o ha.dm hz) (lift2 (S := w) ha.dm l o l2.nil) (o.step l2 (by simp [dom])) h1 h2 h3⟩
theorem FnOk.weak {P : Program} {wd : World} {K : PySem.W.Frag} {mg : Str → Option Value} {base : Heap} {f : Addr} {fd : FuncData} {ps : List Str} {k n : Nat} {R R' : W → List Ag → W → D → Prop} (F : FnOk P wd K mg base CX0 k f fd ps (spG K n R)) (h : ∀ w as w' r, R' w as w' r → R w as w' r) : FnOk P wd K mg base CX0 k f fd ps (spG K n R') :=
  F.imp fun vs H Q E ⟨B, w, as, w', r, h1, h2, h3, h4, h5, h6, h7⟩ => ⟨B, w, as, w', r, h1, h2, h3, h4, h5, h _ _ _ _ h6, h7⟩
/-- a call that leaves the owned lists alone -/
theorem Ev.call {f : Addr} {fd : FuncData} {ps : List Str} {k n : Nat} {R : W → List Ag → W → D → Prop} {as : List Ag} (F : FnOk X.prog X.w X.K X.mg X.base CX0 k f fd ps (spG X.K n R)) (hr : Room k X.A) (hm : X.mg x = some (.ref f)) (hk : PySem.W.keepIn X.K (.ref f) = true) (hb : Binds X.K fd ps [])
    (ha : EvA X (e :: es) ρ w w1 as) (hl : as.length = n) (hR : R [] as [] d) (hx : Passes CX0 X E0) (hg : Gl X x := by rfl) (hdb : (x == ("__debug__" : Str)) = false := by decide) 
    (he : starEach (e :: es) X.env = (false, eval e X.env) :: starEach es X.env := by rfl) (hpl : (backTo pos (starEach es X.env)).any (·.1) = false := by rfl) : Ev X (.Call (.Name x p) (e :: es) [] pos) ρ w w1 d := by
  refine ⟨ha.dm, fun σ B hs hw Q q => w_e (pe_call F hr hg hm hk hb .nil hx pa_w hdb he hpl) ?_⟩
  refine ha.run σ B hs hw _ fun vs C l o v => ?_
  rw [List.append_nil]
  exact ⟨C, [], as, [], d, rfl, hl, own_nil, rfl, v, hR, fun z E l2 _ r => q z E (lift2 (S := w) ha.dm l o l2.nil) (o.step l2 (by simp [dom])) r⟩
/-- a call that changes the owned list at place m -/
theorem Ev.callS (m : Nat) {f ad : Addr} {fd : FuncData} {ps : List Str} {k n : Nat} {R : W → List Ag → W → D → Prop} {as : List Ag} {ds' : List D} (F : FnOk X.prog X.w X.K X.mg X.base CX0 k f fd ps (spG X.K n R)) (hr : Room k X.A) (hm : X.mg x = some (.ref f)) (hk : PySem.W.keepIn X.K (.ref f) = true) (hb : Binds X.K fd ps [])
    (ha : EvA X (e :: es) ρ w w1 as) (hl : as.length = n) (hw1 : w1[m]? = some (ad, ds)) (hR : R [(ad, ds)] as [(ad, ds')] d) (hx : Passes CX0 X E0) (hg : Gl X x := by rfl) (hdb : (x == ("__debug__" : Str)) = false := by decide)
    (he : starEach (e :: es) X.env = (false, eval e X.env) :: starEach es X.env := by rfl) (hpl : (backTo pos (starEach es X.env)).any (·.1) = false := by rfl) : Ev X (.Call (.Name x p) (e :: es) [] pos) ρ w (w1.set m (ad, ds')) d := by
  have mem := dom_mem hw1
  have hd : (dom w1)[m]? = some ad := by
    unfold dom
    rw [List.getElem?_map, hw1]
    rfl
  have edm : dom (w1.set m (ad, ds')) = dom w1 := by
    apply List.ext_getElem?
    intro j
    unfold dom
    rw [List.getElem?_map, List.getElem?_set, List.getElem?_map]
    split
    · rename_i hj
      subst hj
      rw [hw1]
      split
      · rfl
      · rename_i hh
        exact absurd (List.getElem?_eq_some_iff.mp hw1).1 hh
    · rfl
  refine ⟨edm.trans ha.dm, fun σ B hs hw Q q => w_e (pe_call F hr hg hm hk hb .nil hx pa_w hdb he hpl) ?_⟩
  refine ha.run σ B hs hw _ fun vs C l o v => ?_
  rw [List.append_nil]
  obtain ⟨⟨us, h1, h2⟩, h3⟩ := o.has _ (List.mem_of_getElem? hw1)
  refine ⟨C, [(ad, ds)], as, [(ad, ds')], d, rfl, hl, ⟨by simp [dom], fun q hq => ?_⟩, rfl, v, hR, fun z E l2 o2 r => ?_⟩
  · have ez : q = (ad, ds) := by simpa using hq
    subst ez
    exact ⟨⟨us, h1, h2⟩, h3⟩
  · have l3 : Le (dom w1) C E := l2.widen fun a m => by
      have ez : a = ad := by simpa [dom] using m
      subst ez
      exact mem
    refine q z E (lift2 (S := w) ha.dm l o l3) ⟨by rw [edm]; exact o.nd, fun q hq => ?_⟩ r
    obtain ⟨j, hj⟩ := List.getElem?_of_mem hq
    rw [List.getElem?_set] at hj
    split at hj
    · split at hj
      · have z := Option.some.inj hj
        subst z
        exact o2.has _ (List.mem_singleton.mpr rfl)
      · cases hj
    · rename_i hjk
      obtain ⟨⟨us2, g1, g2⟩, g3⟩ := o.has q (List.mem_of_getElem? hj)
      have hq' : (dom w1)[j]? = some q.1 := by
        unfold dom
        rw [List.getElem?_map, hj]
        rfl
      have ne : q.1 ∉ dom [(ad, ds)] := fun z => by
        have ez : q.1 = ad := by simpa [dom] using z
        exact hjk (nd_ix o.nd (hd.trans (by rw [ez])) hq')
      refine ⟨⟨us2, l2.h _ _ ne g1, DpAll.mono l2.f g2⟩, ?_⟩
      cases y : E.f q.1 with
      | none => rfl
      | some u =>
        rcases l2.new q.1 (by rw [y]; simp) with k | k | k
        · exact absurd g3 k
        · rw [g1] at k; cases k
        · exact absurd k ne
end
end Pm

namespace Pm
open PySem PySem.Spec PyProof.Rows L2 Evl
section
variable {X : Cx} {e a b c : Expr} {es rest : List Expr} {ρ : List Slot} {w w1 w2 w3 : W} {d d1 d2 : D} {ds : List D} {pos p : Pos} {x : Str}
/-- an item by its place -/
def itemD : D → Int → Option D
  | .list ds, i => atI ds i
  | .tuple ds, i => atI ds i
  | _, _ => none
theorem Ev.ix {i : Int} (ha : Ev X a ρ w w1 d1) (hb : Ev X b ρ w1 w2 (.int i)) (h : itemD d1 i = some d := by rfl) (hs : PlainIx b := by exact fun _ _ => rfl) : Ev X (.Subscript a b pos) ρ w w2 d := by
  cases d1 with
  | list ds => exact Ev.ixL ha hb h hs
  | tuple ds => exact Ev.ixT ha hb h hs
  | none => cases h
  | bool _ => cases h
  | int _ => cases h
  | str _ => cases h
  | dict _ => cases h
theorem item_nat {i : Nat} (h : ds[i]? = some d) : itemD (.tuple ds) (i : Int) = some d := by
  show atI ds (i : Int) = some d
  exact atI_nat h
theorem item_natL {i : Nat} (h : ds[i]? = some d) : itemD (.list ds) (i : Int) = some d := by
  show atI ds (i : Int) = some d
  exact atI_nat h
/-- and, the first known to hold: the second may change the owned lists -/
theorem Ev.andT (ha : Ev X a ρ w w1 (.bool true)) (hb : Ev X (.BoolOp .And (b :: rest) pos) ρ w1 w2 d) : Ev X (.BoolOp .And (a :: b :: rest) pos) ρ w w2 d := by
  refine ⟨hb.dm.trans ha.dm, fun σ B hs hw Q q => w_e (pe_and pe_w pe_w) ?_⟩
  refine ha.run σ B hs hw _ fun x C1 l1 o1 x1 => ?_
  cases x1
  exact ⟨true, rfl, hb.run σ C1 (Sig.mono l1.f hs) o1 _ fun v C2 l2 o2 v2 => q v C2 (lift2 (S := w) ha.dm l1 o1 l2) o2 v2⟩
theorem Ev.intB {k : Bool} (h : Ev X e ρ w w1 (.bool k)) (hm : X.mg "int" = none) (hg : Gl X "int" := by rfl) (he : starEach [e] X.env = (false, eval e X.env) :: starEach [] X.env := by rfl) (hpl : (backTo pos (starEach [] X.env)).any (·.1) = false := by rfl) : Ev X (.Call (.Name "int" p) [e] [] pos) ρ w w1 (.int (if k then 1 else 0)) :=
  Ev.callTy (ds := [.bool k]) (EvA.cons h .nil he) (fun B xs h Q q => by
    obtain ⟨v, rfl, r⟩ := dp1 h
    cases r
    exact cw_of call_int1 (.inr ⟨k, rfl, q _ B (Le.refl _ _) (.int _)⟩)) hm (by decide +kernel) hg (by decide) (by decide) he hpl
/-- a loop over range(n), n a numeral: turn by turn -/
def Unr (X : Cx) (body : List Stmt) (E : DE) (j : Nat) : Nat → Nat → List Slot → W → Prop
  | 0, _, ρ, w => E.nx ρ w
  | m + 1, i, ρ, w => Ws X body { E with nx := fun ρ w => Unr X body E j m (i + 1) ρ w, ct := fun ρ w => Unr X body E j m (i + 1) ρ w, bk := E.nx } (ρ.set j (.dat (.int (i : Int)))) w
theorem Wt.forU (j : Nat) {body : List Stmt} {E : DE} {ar : Expr} {n : Nat} {pr px pc : Pos} (hr : EvA X [ar] ρ w w1 [.dat (.int (n : Int))]) (hb1 : n ≤ 1000) (h0 : Unr X body E j n 0 ρ w1)
    (hp : PassesOwn (model X.prog X.w) X.A X.env X.xe) (hc : X.calm = true) (hN : X.N.Nodup) (hm : X.mg "range" = none) (hg : Gl X "range" := by rfl) (hi : X.N[j]? = some x := by rfl) (hx : Loc X.env.scope x := by first | exact Or.inl rfl | exact Or.inr rfl) (hf : X.fn x = true ∨ X.env.scope.names.lookup x = some .local := by first | exact .inl rfl | exact .inr rfl | assumption)
    (hst : starEach [ar] X.env = [(false, eval ar X.env)] := by rfl) (hfs : ∀ x, foldedSetIterable (.Call (.Name "range" pr) [ar] [] pc) X.env x = pure x := by intro _; rfl) : Wt X (.For (.Name x px) (.Call (.Name "range" pr) [ar] [] pc) body [] pos) E ρ w := by
  refine Wt.forR1 j (fun i ρ w => Unr X body E j (n - i) i ρ w) hr ⟨by omega, by omega⟩ h0 (fun i ρ w hi h => ?_) (fun ρ w h => ?_) hp hc hN hm hg hi hx hf hst hfs
  · rw [Int.toNat_natCast] at hi
    have e : n - i = (n - (i + 1)) + 1 := by omega
    rw [e] at h
    exact h
  · rw [Int.toNat_natCast, Nat.sub_self] at h
    exact h
/-- a module's constant -/
structure Glob (K : PySem.W.Frag) (mg : Str → Option Value) (x : Str) (d : D) : Prop where
  ex : ∃ (u : Value) (v : V), mg x = some u ∧ RelV v u ∧ ∀ f : Hp, Dp K f v d
theorem Ev.globC (G : Glob X.K X.mg x d) (hg : Gl X x := by rfl) (hdb : (x == ("__debug__" : Str)) = false := by decide) : Ev X (.Name x pos) ρ w w d := by
  obtain ⟨u, v, h1, h2, h3⟩ := G.ex
  exact Ev.glob h1 h2 h3 hg hdb
/-- a def that can be called -/
structure Cal (P : Program) (wd : World) (K : PySem.W.Frag) (mg : Str → Option Value) (base : Heap) (k : Nat) (x : Str) (n : Nat) (R : W → List Ag → W → D → Prop) : Prop where
  ex : ∃ (f : Addr) (fd : FuncData) (ps : List Str), FnOk P wd K mg base CX0 k f fd ps (spG K n R) ∧ mg x = some (.ref f) ∧ PySem.W.keepIn K (.ref f) = true ∧ Binds K fd ps []
theorem Cal.mono {P : Program} {wd : World} {K : PySem.W.Frag} {mg : Str → Option Value} {base : Heap} {k k' : Nat} {n : Nat} {R R' : W → List Ag → W → D → Prop} (c : Cal P wd K mg base k x n R) (h : k ≤ k') (hR : ∀ w as w' r, R' w as w' r → R w as w' r) : Cal P wd K mg base k' x n R' := by
  obtain ⟨f, fd, ps, h1, h2, h3, h4⟩ := c.ex
  exact ⟨f, fd, ps, (FnOk.weak h1 hR).mono h, h2, h3, h4⟩
theorem Ev.callC {k kk n : Nat} {R : W → List Ag → W → D → Prop} {as : List Ag} (C : Cal X.prog X.w X.K X.mg X.base k x n R) (hr : Room kk X.A)
    (ha : EvA X (e :: es) ρ w w1 as) (hR : R [] as [] d) (hl : as.length = n := by rfl) (hkk : k ≤ kk := by decide) (hx : Passes CX0 X E0 := by exact pass0) (hg : Gl X x := by rfl) (hdb : (x == ("__debug__" : Str)) = false := by decide)
    (he : starEach (e :: es) X.env = (false, eval e X.env) :: starEach es X.env := by rfl) (hpl : (backTo pos (starEach es X.env)).any (·.1) = false := by rfl) : Ev X (.Call (.Name x p) (e :: es) [] pos) ρ w w1 d := by
  obtain ⟨f, fd, ps, F, hm, hk, hb⟩ := C.ex
  exact Ev.call F (hr.mono hkk) hm hk hb ha hl hR hx hg hdb he hpl
theorem Ev.callCS (m : Nat) {k kk n : Nat} {ad : Addr} {R : W → List Ag → W → D → Prop} {as : List Ag} {ds' : List D} (C : Cal X.prog X.w X.K X.mg X.base k x n R) (hr : Room kk X.A)
    (ha : EvA X (e :: es) ρ w w1 as) (hw1 : w1[m]? = some (ad, ds)) (hR : R [(ad, ds)] as [(ad, ds')] d) (hl : as.length = n := by rfl) (hkk : k ≤ kk := by decide) (hx : Passes CX0 X E0 := by exact pass0) (hg : Gl X x := by rfl) (hdb : (x == ("__debug__" : Str)) = false := by decide)
    (he : starEach (e :: es) X.env = (false, eval e X.env) :: starEach es X.env := by rfl) (hpl : (backTo pos (starEach es X.env)).any (·.1) = false := by rfl) : Ev X (.Call (.Name x p) (e :: es) [] pos) ρ w (w1.set m (ad, ds')) d := by
  obtain ⟨f, fd, ps, F, hm, hk, hb⟩ := C.ex
  exact Ev.callS m F (hr.mono hkk) hm hk hb ha hl hw1 hR hx hg hdb he hpl
structure CalN (P : Program) (wd : World) (K : PySem.W.Frag) (mg : Str → Option Value) (base : Heap) (k : Nat) (x : Str) (n : Nat) (R : W → List Ag → W → List D → Prop) : Prop where
  ex : ∃ (f : Addr) (fd : FuncData) (ps : List Str), FnOk P wd K mg base CX0 k f fd ps (spN K n R) ∧ mg x = some (.ref f) ∧ PySem.W.keepIn K (.ref f) = true ∧ Binds K fd ps []
theorem EvN.callC {k kk n : Nat} {R : W → List Ag → W → List D → Prop} {as : List Ag} (C : CalN X.prog X.w X.K X.mg X.base k x n R) (hr : Room kk X.A)
    (ha : EvA X (e :: es) ρ w w1 as) (hR : R [] as [] ds) (hl : as.length = n := by rfl) (hkk : k ≤ kk := by decide) (hx : Passes CX0 X E0 := by exact pass0) (hg : Gl X x := by rfl) (hdb : (x == ("__debug__" : Str)) = false := by decide)
    (he : starEach (e :: es) X.env = (false, eval e X.env) :: starEach es X.env := by rfl) (hpl : (backTo pos (starEach es X.env)).any (·.1) = false := by rfl) : EvN X (.Call (.Name x p) (e :: es) [] pos) ρ w w1 ds := by
  obtain ⟨f, fd, ps, F, hm, hk, hb⟩ := C.ex
  exact EvN.call F (hr.mono hkk) hm hk hb ha hl hR hx hg hdb he hpl
/-! kinds -/
theorem kit_int_int : kitB "int" "int" = some true := by decide +kernel
theorem kit_int_bool : kitB "int" "bool" = some false := by decide +kernel
theorem kit_int_str : kitB "int" "str" = some false := by decide +kernel
theorem kit_int_tuple : kitB "int" "tuple" = some false := by decide +kernel
theorem kit_int_list : kitB "int" "list" = some false := by decide +kernel
theorem kit_bool_int : kitB "bool" "int" = some true := by decide +kernel
theorem kit_bool_bool : kitB "bool" "bool" = some true := by decide +kernel
theorem kit_bool_str : kitB "bool" "str" = some false := by decide +kernel
theorem kit_bool_tuple : kitB "bool" "tuple" = some false := by decide +kernel
theorem kit_bool_list : kitB "bool" "list" = some false := by decide +kernel
theorem kit_str_int : kitB "str" "int" = some false := by decide +kernel
theorem kit_str_bool : kitB "str" "bool" = some false := by decide +kernel
theorem kit_str_str : kitB "str" "str" = some true := by decide +kernel
theorem kit_str_tuple : kitB "str" "tuple" = some false := by decide +kernel
theorem kit_str_list : kitB "str" "list" = some false := by decide +kernel
theorem kit_tuple_int : kitB "tuple" "int" = some false := by decide +kernel
theorem kit_tuple_bool : kitB "tuple" "bool" = some false := by decide +kernel
theorem kit_tuple_str : kitB "tuple" "str" = some false := by decide +kernel
theorem kit_tuple_tuple : kitB "tuple" "tuple" = some true := by decide +kernel
theorem kit_tuple_list : kitB "tuple" "list" = some false := by decide +kernel
theorem kit_list_int : kitB "list" "int" = some false := by decide +kernel
theorem kit_list_bool : kitB "list" "bool" = some false := by decide +kernel
theorem kit_list_str : kitB "list" "str" = some false := by decide +kernel
theorem kit_list_tuple : kitB "list" "tuple" = some false := by decide +kernel
theorem kit_list_list : kitB "list" "list" = some true := by decide +kernel
theorem kit_none_int : kitB "NoneType" "int" = some false := by decide +kernel
theorem kit_none_bool : kitB "NoneType" "bool" = some false := by decide +kernel
theorem kit_none_str : kitB "NoneType" "str" = some false := by decide +kernel
theorem kit_none_tuple : kitB "NoneType" "tuple" = some false := by decide +kernel
theorem kit_none_list : kitB "NoneType" "list" = some false := by decide +kernel
theorem bt_int : bootBuiltins "int" = some (.type "int") := by decide +kernel
theorem bt_bool : bootBuiltins "bool" = some (.type "bool") := by decide +kernel
theorem bt_str : bootBuiltins "str" = some (.type "str") := by decide +kernel
theorem bt_tuple : bootBuiltins "tuple" = some (.type "tuple") := by decide +kernel
theorem bt_list : bootBuiltins "list" = some (.type "list") := by decide +kernel
/-! built-ins by name -/
theorem Ev.intC {i : Int} (h : Ev X e ρ w w1 (.int i)) (hm : X.mg "int" = none) (hg : Gl X "int" := by rfl) (he : starEach [e] X.env = (false, eval e X.env) :: starEach [] X.env := by rfl) (hpl : (backTo pos (starEach [] X.env)).any (·.1) = false := by rfl) : Ev X (.Call (.Name "int" p) [e] [] pos) ρ w w1 (.int i) :=
  Ev.callTy (ds := [.int i]) (EvA.cons h .nil he) cd_int hm (by decide +kernel) hg (by decide) (by decide) he hpl
theorem Ev.absC {i : Int} (h : Ev X e ρ w w1 (.int i)) (hm : X.mg "abs" = none) (hg : Gl X "abs" := by rfl) (he : starEach [e] X.env = (false, eval e X.env) :: starEach [] X.env := by rfl) (hpl : (backTo pos (starEach [] X.env)).any (·.1) = false := by rfl) : Ev X (.Call (.Name "abs" p) [e] [] pos) ρ w w1 (.int (if i < 0 then -i else i)) :=
  Ev.callB (ds := [.int i]) (EvA.cons h .nil he) cd_abs hm (by decide +kernel) hg (by decide) (by decide) he hpl
def lenD : D → Option Nat
  | .list ds => some ds.length
  | .tuple ds => some ds.length
  | _ => none
theorem cd_len {n : Nat} (h : lenD d = some n) : CallD X (.builtin "len") [d] (.int (n : Int)) := by
  cases d with
  | list ds => cases h; exact cd_lenL
  | tuple ds => cases h; exact cd_lenT
  | none => cases h
  | bool _ => cases h
  | int _ => cases h
  | str _ => cases h
  | dict _ => cases h
theorem Ev.lenC {n : Nat} (h : Ev X e ρ w w1 d) (hm : X.mg "len" = none) (hn : lenD d = some n := by rfl) (hg : Gl X "len" := by rfl) (he : starEach [e] X.env = (false, eval e X.env) :: starEach [] X.env := by rfl) (hpl : (backTo pos (starEach [] X.env)).any (·.1) = false := by rfl) : Ev X (.Call (.Name "len" p) [e] [] pos) ρ w w1 (.int (n : Int)) :=
  Ev.callB (ds := [d]) (EvA.cons h .nil he) (cd_len hn) hm (by decide +kernel) hg (by decide) (by decide) he hpl
theorem Ev.tupleL (h : Ev X e ρ w w1 (.list ds)) (hm : X.mg "tuple" = none) (hg : Gl X "tuple" := by rfl) (he : starEach [e] X.env = (false, eval e X.env) :: starEach [] X.env := by rfl) (hpl : (backTo pos (starEach [] X.env)).any (·.1) = false := by rfl) : Ev X (.Call (.Name "tuple" p) [e] [] pos) ρ w w1 (.tuple ds) :=
  Ev.callTy (ds := [.list ds]) (EvA.cons h .nil he) cd_tupleL hm (by decide +kernel) hg (by decide) (by decide) he hpl
def seqD : D → Option (List D)
  | .list ds => some ds
  | .tuple ds => some ds
  | _ => none
theorem cn_list {xs : List D} (h : seqD d = some xs) : CallN X (.type "list") [d] xs := by
  cases d with
  | list ds => cases h; exact cn_listL
  | tuple ds => cases h; exact cn_listT
  | none => cases h
  | bool _ => cases h
  | int _ => cases h
  | str _ => cases h
  | dict _ => cases h
theorem EvN.listC {xs : List D} (h : Ev X e ρ w w1 d) (hm : X.mg "list" = none) (hn : seqD d = some xs := by rfl) (hg : Gl X "list" := by rfl) (he : starEach [e] X.env = (false, eval e X.env) :: starEach [] X.env := by rfl) (hpl : (backTo pos (starEach [] X.env)).any (·.1) = false := by rfl) : EvN X (.Call (.Name "list" p) [e] [] pos) ρ w w1 xs :=
  EvN.callTy (ds := [d]) (EvA.cons h .nil he) (cn_list hn) hm (by decide +kernel) hg (by decide) (by decide) he hpl
theorem Ev.maxC {ns : List Int} {m : Int} (h : Ev X e ρ w w1 (.list (ns.map PyData.int))) (hm : X.mg "max" = none) (hc : X.calm = true) (h0 : m ∈ ns) (h1 : ∀ y ∈ ns, y ≤ m) (hg : Gl X "max" := by rfl) (he : starEach [e] X.env = (false, eval e X.env) :: starEach [] X.env := by rfl) (hpl : (backTo pos (starEach [] X.env)).any (·.1) = false := by rfl) : Ev X (.Call (.Name "max" p) [e] [] pos) ρ w w1 (.int m) :=
  Ev.callB (ds := [.list (ns.map PyData.int)]) (EvA.cons h .nil he) (cd_maxL hc h0 h1) hm (by decide +kernel) hg (by decide) (by decide) he hpl

/-- [elt for x in a list] -/
theorem compL_run (j : Nat) {elt it : Expr} {scope : Scope} {ys : List D} (hr : Ev X it ρ w w1 (.list ds)) (hl : ys.length = ds.length)
    (hb : ∀ (i : Nat) (y z : D), ds[i]? = some y → ys[i]? = some z → EvB X scope elt ((wipeS ρ [j]).set j (.dat y)) w1 w1 z) (hz : ds.length ≤ 100000) : RdN X.K (tLc (iList X.K (wE X it)) (gName j) tYes (tBlk X scope elt) [j]) ρ w w1 ys := by
  refine ⟨hr.dm, fun σ B hsg hw Q q => ?_⟩
  refine hr.run σ B hsg hw _ fun v C l o r => ?_
  cases r with
  | lst hl2 hd =>
    rename_i ad xs
    have el := DpAll.length hd
    have hsC : Sig X.K C.f σ ρ := Sig.mono l.f hsg
    refine ⟨ad, rfl, ⟨_, ex_l C.ok hl2⟩, fun L hL => ?_⟩
    have hLB : B.h L = none := Le.back l hw o hr.dm hL
    refine lc_list (K := X.K) (a := ad) (xs := xs) (fun i H => CSt X.K C w1 L w1 (ys.take i) H) ?_ ?_ ?_ ?_
    · exact ⟨C.put L (.lst []) (HH.free hL), [], rfl, HH.put_le hL, o.step (HH.put_le (S := []) hL) (by simp), upd_same, HH.free (B := C) hL, .nil⟩
    · rintro i H hin ⟨C2, vs2, rfl, l2, _⟩
      exact ex_l C2.ok (ex_l l2.f hl2)
    · intro i y H hiy hC
      refine ⟨?_, ?_⟩
      · show wipe ((wipe σ [j]).set j _) [j] = wipe σ [j]
        simp only [wipe, List.set_set]
      · refine iteT (B := CSt X.K C w1 L w1 (ys.take (i + 1)) H) ?_
        have hlt : i < ds.length := by rw [← el]; exact (List.getElem?_eq_some_iff.mp hiy).1
        obtain ⟨v, h1, h2⟩ := DpAll.get hd (List.getElem?_eq_getElem hlt)
        have ev : v = y := Option.some.inj (h1.symm.trans hiy)
        subst ev
        have hlt2 : i < ys.length := by omega
        have k := comp_step (σ := (wipe σ [j]).set j (some v)) (hb i _ _ (List.getElem?_eq_getElem hlt) (List.getElem?_eq_getElem hlt2)) rfl hL o (fun E l2 => Paired.set (slot_dat (Dp.mono l2.f h2)) j (Sig.wipe (Sig.mono l2.f hsC) [j])) hC (by rw [List.length_take]; omega)
        have e : ys.take i ++ [ys[i]] = ys.take (i + 1) := by
          rw [List.take_add_one, List.getElem?_eq_getElem hlt2]
          rfl
        rw [e] at k
        exact k
    · rintro H ⟨C2, vs2, rfl, l2, o2, h1, h2, h3⟩
      rw [List.take_of_length_le (by omega)] at h3
      exact q L vs2 C2 hLB (lift2 (S := w) hr.dm l o l2) o2 h1 h2 h3
theorem pe_compL (j : Nat) {elt it : Expr} {scope : Scope} {px : Pos} (ok : BlkOk X.N X.env.scope scope [(x, j)]) (hc : X.calm = true) (hN : X.N.Nodup) (hi : X.N[j]? = some x := by rfl) (hx : Loc (relabel scope X.env) x := by first | exact Or.inl rfl | exact Or.inr rfl)
    (hf : (scope.names.lookup x == some .cell) = true ∨ (relabel scope X.env).names.lookup x = some .local := by first | exact .inr rfl | exact .inl rfl)
    (hfs : ∀ x, foldedSetIterable it X.env x = pure x := by intro _; rfl) :
    PE X (.ListComp elt [⟨.Name x px, it, [], 0⟩] scope pos) (tLc (iList X.K (wE X it)) (gName j) tYes (tBlk X scope elt) [j]) :=
  pe_lc (own := [(x, j)]) hc hN (pi_list pe_w) ok (fun s H C cl fp => pg_name hN hi hx hf) (fun s H C cl fp => pts_nil) (fun s H C cl fp => ⟨fun pins s' σ H Q I h => h s _ C cl fp pins s' I⟩) hfs
theorem ps_compL (i j : Nat) {y : Str} {py : Pos} {elt it : Expr} {scope : Scope} {px spos : Pos} (ok : BlkOk X.N X.env.scope scope [(x, j)]) (hc : X.calm = true) (hN : X.N.Nodup) (hsw : swapsWith (.ListComp elt [⟨.Name x px, it, [], 0⟩] scope pos) (some (.Name y py)) spos.line X.env = pure true := by exact sw_true rfl rfl rfl (by decide +kernel))
    (hy : X.N[i]? = some y := by rfl) (hyl : X.env.scope.names.lookup y = some .local := by rfl) (hi : X.N[j]? = some x := by rfl) (hx : Loc (relabel scope X.env) x := by first | exact Or.inl rfl | exact Or.inr rfl)
    (hf : (scope.names.lookup x == some .cell) = true ∨ (relabel scope X.env).names.lookup x = some .local := by first | exact .inr rfl | exact .inl rfl)
    (hfs : ∀ x, foldedSetIterable it X.env x = pure x := by intro _; rfl) :
    PS X (.Assign [.Name y py] (.ListComp elt [⟨.Name x px, it, [], 0⟩] scope pos) spos) (tAsg (tLc (iList X.K (wE X it)) (gName j) tYes (tBlk X scope elt) [j]) (gName i)) :=
  ps_setLc (own := [(x, j)]) hc hN hy hyl hsw (pi_list pe_w) ok (fun s H C cl fp => pg_name hN hi hx hf) (fun s H C cl fp => pts_nil) (fun s H C cl fp => ⟨fun pins s' σ H Q I h => h s _ C cl fp pins s' I⟩) hfs
/-- the greatest -/
def maxI : Int → List Int → Int
  | m, [] => m
  | m, y :: r => maxI (if m < y then y else m) r
theorem maxI_le : ∀ (r : List Int) (m : Int), m ≤ maxI m r ∧ (∀ y ∈ r, y ≤ maxI m r) ∧ (maxI m r = m ∨ maxI m r ∈ r)
  | [], m => ⟨Int.le_refl _, by simp, .inl rfl⟩
  | y :: r, m => by
    obtain ⟨h1, h2, h3⟩ := maxI_le r (if m < y then y else m)
    have e : maxI m (y :: r) = maxI (if m < y then y else m) r := rfl
    rw [e]
    split at h1
    all_goals (rename_i hmy; simp only [hmy, if_true, if_false] at h1 h2 h3 ⊢; refine ⟨by omega, ?_, ?_⟩)
    · intro z hz
      rcases List.mem_cons.mp hz with rfl | hz
      · exact h1
      · exact h2 z hz
    · rcases h3 with h3 | h3
      · exact .inr (by rw [h3]; exact List.mem_cons_self ..)
      · exact .inr (List.mem_cons_of_mem _ h3)
    · intro z hz
      rcases List.mem_cons.mp hz with rfl | hz
      · omega
      · exact h2 z hz
    · rcases h3 with h3 | h3
      · exact .inl h3
      · exact .inr (List.mem_cons_of_mem _ h3)
theorem Ev.maxN {n : Int} {ns : List Int} (h : Ev X e ρ w w1 (.list ((n :: ns).map PyData.int))) (hm : X.mg "max" = none) (hc : X.calm = true) (hg : Gl X "max" := by rfl) (he : starEach [e] X.env = (false, eval e X.env) :: starEach [] X.env := by rfl) (hpl : (backTo pos (starEach [] X.env)).any (·.1) = false := by rfl) : Ev X (.Call (.Name "max" p) [e] [] pos) ρ w w1 (.int (maxI n ns)) := by
  obtain ⟨h1, h2, h3⟩ := maxI_le ns n
  refine Ev.maxC h hm hc ?_ (fun y hy => ?_) hg he hpl
  · rcases h3 with h3 | h3
    · rw [h3]; exact List.mem_cons_self ..
    · exact List.mem_cons_of_mem _ h3
  · rcases List.mem_cons.mp hy with rfl | hy
    · exact h1
    · exact h2 y hy
end
end Pm

namespace Pm
open PySem PySem.Spec PyProof.Rows L2 Evl
section
variable {X : Cx} {ρ : List Slot} {w w1 w2 : W} {ds : List D} {x : Str} {pos : Pos}
theorem compT_run (j : Nat) {elt it : Expr} {scope : Scope} {ys : List D} (hr : Ev X it ρ w w1 (.tuple ds)) (hl : ys.length = ds.length)
    (hb : ∀ (i : Nat) (y z : D), ds[i]? = some y → ys[i]? = some z → EvB X scope elt ((wipeS ρ [j]).set j (.dat y)) w1 w1 z) (hz : ds.length ≤ 100000) : RdN X.K (tLc (iTup X.K (wE X it)) (gName j) tYes (tBlk X scope elt) [j]) ρ w w1 ys := by
  refine ⟨hr.dm, fun σ B hsg hw Q q => ?_⟩
  refine hr.run σ B hsg hw _ fun v C l o r => ?_
  cases r with
  | tup hl2 hd =>
    rename_i ad xs
    have el := DpAll.length hd
    have hsC : Sig X.K C.f σ ρ := Sig.mono l.f hsg
    refine ⟨ad, rfl, ⟨_, ex_t C.ok hl2⟩, fun L hL => ?_⟩
    have hLB : B.h L = none := Le.back l hw o hr.dm hL
    refine lc_tup (K := X.K) (a := ad) (xs := xs) (fun i H => CSt X.K C w1 L w1 (ys.take i) H) ?_ ?_ ?_ ?_
    · exact ⟨C.put L (.lst []) (HH.free hL), [], rfl, HH.put_le hL, o.step (HH.put_le (S := []) hL) (by simp), upd_same, HH.free (B := C) hL, .nil⟩
    · rintro i H hin ⟨C2, vs2, rfl, l2, _⟩
      exact ex_t C2.ok (ex_t l2.f hl2)
    · intro i y H hiy hC
      refine ⟨?_, ?_⟩
      · show wipe ((wipe σ [j]).set j _) [j] = wipe σ [j]
        simp only [wipe, List.set_set]
      · refine iteT (B := CSt X.K C w1 L w1 (ys.take (i + 1)) H) ?_
        have hlt : i < ds.length := by rw [← el]; exact (List.getElem?_eq_some_iff.mp hiy).1
        obtain ⟨v, h1, h2⟩ := DpAll.get hd (List.getElem?_eq_getElem hlt)
        have ev : v = y := Option.some.inj (h1.symm.trans hiy)
        subst ev
        have hlt2 : i < ys.length := by omega
        have k := comp_step (σ := (wipe σ [j]).set j (some v)) (hb i _ _ (List.getElem?_eq_getElem hlt) (List.getElem?_eq_getElem hlt2)) rfl hL o (fun E l2 => Paired.set (slot_dat (Dp.mono l2.f h2)) j (Sig.wipe (Sig.mono l2.f hsC) [j])) hC (by rw [List.length_take]; omega)
        have e : ys.take i ++ [ys[i]] = ys.take (i + 1) := by
          rw [List.take_add_one, List.getElem?_eq_getElem hlt2]
          rfl
        rw [e] at k
        exact k
    · rintro H ⟨C2, vs2, rfl, l2, o2, h1, h2, h3⟩
      rw [List.take_of_length_le (by omega)] at h3
      exact q L vs2 C2 hLB (lift2 (S := w) hr.dm l o l2) o2 h1 h2 h3
theorem pe_compT (j : Nat) {elt it : Expr} {scope : Scope} {px : Pos} (ok : BlkOk X.N X.env.scope scope [(x, j)]) (hc : X.calm = true) (hN : X.N.Nodup) (hi : X.N[j]? = some x := by rfl) (hx : Loc (relabel scope X.env) x := by first | exact Or.inl rfl | exact Or.inr rfl)
    (hf : (scope.names.lookup x == some .cell) = true ∨ (relabel scope X.env).names.lookup x = some .local := by first | exact .inr rfl | exact .inl rfl)
    (hfs : ∀ x, foldedSetIterable it X.env x = pure x := by intro _; rfl) :
    PE X (.ListComp elt [⟨.Name x px, it, [], 0⟩] scope pos) (tLc (iTup X.K (wE X it)) (gName j) tYes (tBlk X scope elt) [j]) :=
  pe_lc (own := [(x, j)]) hc hN (pi_tup pe_w) ok (fun s H C cl fp => pg_name hN hi hx hf) (fun s H C cl fp => pts_nil) (fun s H C cl fp => ⟨fun pins s' σ H Q I h => h s _ C cl fp pins s' I⟩) hfs
end
end Pm

namespace Q
open PySem PySem.Spec PyProof.Rows L2 Evl Pm
def top (i : Nat) : Stmt := PySem.Challenge.pw_phasemill_k01_operations.main.body.getD i (.Pass ⟨0, 0, 0, 0⟩)
abbrev s_ring_number : Stmt := top 3
abbrev N_ring_number : List Str := ["a", "b", "c", "d", "k"]
theorem sc_ring_number : FnScope N_ring_number ["a", "b", "c", "d", "k"] (defScope s_ring_number) := ⟨rfl, rfl, rfl, by decide +kernel, rfl, by decide +kernel, by decide +kernel⟩
abbrev s_parts_over : Stmt := top 4
abbrev N_parts_over : List Str := ["x", "k", "a", "b", "c", "d", "exponent", "missing", "factor"]
theorem sc_parts_over : FnScope N_parts_over ["x", "k"] (defScope s_parts_over) := ⟨rfl, rfl, rfl, by decide +kernel, rfl, by decide +kernel, by decide +kernel⟩
abbrev s_parts_product : Stmt := top 5
abbrev N_parts_product : List Str := ["x", "y", "a", "b", "c", "d", "_", "e", "f", "g", "h"]
theorem sc_parts_product : FnScope N_parts_product ["x", "y"] (defScope s_parts_product) := ⟨rfl, rfl, rfl, by decide +kernel, rfl, by decide +kernel, by decide +kernel⟩
abbrev s_ring_sum : Stmt := top 6
abbrev N_ring_sum : List Str := ["x", "y", "a", "b", "c", "d", "k", "e", "f", "g", "h"]
theorem sc_ring_sum : FnScope N_ring_sum ["x", "y"] (defScope s_ring_sum) := ⟨rfl, rfl, rfl, by decide +kernel, rfl, by decide +kernel, by decide +kernel⟩
abbrev s_ring_difference : Stmt := top 7
abbrev N_ring_difference : List Str := ["x", "y"]
theorem sc_ring_difference : FnScope N_ring_difference ["x", "y"] (defScope s_ring_difference) := ⟨rfl, rfl, rfl, by decide +kernel, rfl, by decide +kernel, by decide +kernel⟩
abbrev s_ring_product : Stmt := top 8
abbrev N_ring_product : List Str := ["x", "y", "a", "b", "c", "d"]
theorem sc_ring_product : FnScope N_ring_product ["x", "y"] (defScope s_ring_product) := ⟨rfl, rfl, rfl, by decide +kernel, rfl, by decide +kernel, by decide +kernel⟩
abbrev s_ring_negative : Stmt := top 9
abbrev N_ring_negative : List Str := ["x", "a", "b", "c", "d", "k"]
theorem sc_ring_negative : FnScope N_ring_negative ["x"] (defScope s_ring_negative) := ⟨rfl, rfl, rfl, by decide +kernel, rfl, by decide +kernel, by decide +kernel⟩
abbrev s_ring_conjugate : Stmt := top 10
abbrev N_ring_conjugate : List Str := ["x", "a", "b", "c", "d", "k"]
theorem sc_ring_conjugate : FnScope N_ring_conjugate ["x"] (defScope s_ring_conjugate) := ⟨rfl, rfl, rfl, by decide +kernel, rfl, by decide +kernel, by decide +kernel⟩
abbrev s_ring_sister : Stmt := top 11
abbrev N_ring_sister : List Str := ["x", "a", "b", "c", "d", "k"]
theorem sc_ring_sister : FnScope N_ring_sister ["x"] (defScope s_ring_sister) := ⟨rfl, rfl, rfl, by decide +kernel, rfl, by decide +kernel, by decide +kernel⟩
abbrev s_ring_norm : Stmt := top 12
abbrev N_ring_norm : List Str := ["x"]
theorem sc_ring_norm : FnScope N_ring_norm ["x"] (defScope s_ring_norm) := ⟨rfl, rfl, rfl, by decide +kernel, rfl, by decide +kernel, by decide +kernel⟩
abbrev s_ring_exponent : Stmt := top 13
abbrev N_ring_exponent : List Str := ["x"]
theorem sc_ring_exponent : FnScope N_ring_exponent ["x"] (defScope s_ring_exponent) := ⟨rfl, rfl, rfl, by decide +kernel, rfl, by decide +kernel, by decide +kernel⟩
abbrev s_omega_power : Stmt := top 14
abbrev N_omega_power : List Str := ["j"]
theorem sc_omega_power : FnScope N_omega_power ["j"] (defScope s_omega_power) := ⟨rfl, rfl, rfl, by decide +kernel, rfl, by decide +kernel, by decide +kernel⟩
abbrev s_root_power : Stmt := top 15
abbrev N_root_power : List Str := ["j", "power"]
theorem sc_root_power : FnScope N_root_power ["j"] (defScope s_root_power) := ⟨rfl, rfl, rfl, by decide +kernel, rfl, by decide +kernel, by decide +kernel⟩
abbrev s__law_source : Stmt := top 17
abbrev N__law_source : List Str := ["script", "seed", "cell", "great"]
theorem sc__law_source : FnScope N__law_source ["script"] (defScope s__law_source) := ⟨rfl, rfl, rfl, by decide +kernel, rfl, by decide +kernel, by decide +kernel⟩
abbrev s__law_draw : Stmt := top 18
abbrev N__law_draw : List Str := ["source", "many", "told", "x"]
theorem sc__law_draw : FnScope N__law_draw ["source", "many"] (defScope s__law_draw) := ⟨rfl, rfl, rfl, by decide +kernel, rfl, by decide +kernel, by decide +kernel⟩
abbrev s__law_many : Stmt := top 19
abbrev N__law_many : List Str := ["source", "small", "most"]
theorem sc__law_many : FnScope N__law_many ["source", "small", "most"] (defScope s__law_many) := ⟨rfl, rfl, rfl, by decide +kernel, rfl, by decide +kernel, by decide +kernel⟩
abbrev s__law_integer : Stmt := top 20
abbrev N__law_integer : List Str := ["source", "chunks", "kind", "value", "k"]
theorem sc__law_integer : FnScope N__law_integer ["source", "chunks"] (defScope s__law_integer) := ⟨rfl, rfl, rfl, by decide +kernel, rfl, by decide +kernel, by decide +kernel⟩
abbrev s__law_same : Stmt := top 21
abbrev N__law_same : List Str := ["told", "due", "k"]
theorem sc__law_same : FnScope N__law_same ["told", "due"] (defScope s__law_same) := ⟨rfl, rfl, rfl, by decide +kernel, rfl, by decide +kernel, by decide +kernel⟩
abbrev s__law_form : Stmt := top 22
abbrev N__law_form : List Str := ["a", "b", "c", "d", "k", "turn"]
theorem sc__law_form : FnScope N__law_form ["a", "b", "c", "d", "k"] (defScope s__law_form) := ⟨rfl, rfl, rfl, by decide +kernel, rfl, by decide +kernel, by decide +kernel⟩
abbrev s__law_add : Stmt := top 23
abbrev N__law_add : List Str := ["x", "y"]
theorem sc__law_add : FnScope N__law_add ["x", "y"] (defScope s__law_add) := ⟨rfl, rfl, rfl, by decide +kernel, rfl, by decide +kernel, by decide +kernel⟩
abbrev s__law_sub : Stmt := top 24
abbrev N__law_sub : List Str := ["x", "y"]
theorem sc__law_sub : FnScope N__law_sub ["x", "y"] (defScope s__law_sub) := ⟨rfl, rfl, rfl, by decide +kernel, rfl, by decide +kernel, by decide +kernel⟩
abbrev s__law_turned : Stmt := top 25
abbrev N__law_turned : List Str := ["x", "j", "row", "turn"]
theorem sc__law_turned : FnScope N__law_turned ["x", "j"] (defScope s__law_turned) := ⟨rfl, rfl, rfl, by decide +kernel, rfl, by decide +kernel, by decide +kernel⟩
abbrev s__law_root : Stmt := top 26
abbrev N__law_root : List Str := ["x", "n", "row", "turn"]
theorem sc__law_root : FnScope N__law_root ["x", "n"] (defScope s__law_root) := ⟨rfl, rfl, rfl, by decide +kernel, rfl, by decide +kernel, by decide +kernel⟩
abbrev s__law_product : Stmt := top 27
abbrev N__law_product : List Str := ["x", "y", "row", "i", "j"]
theorem sc__law_product : FnScope N__law_product ["x", "y"] (defScope s__law_product) := ⟨rfl, rfl, rfl, by decide +kernel, rfl, by decide +kernel, by decide +kernel⟩
abbrev s__law_sent : Stmt := top 28
abbrev N__law_sent : List Str := ["x", "step", "row", "i", "at"]
theorem sc__law_sent : FnScope N__law_sent ["x", "step"] (defScope s__law_sent) := ⟨rfl, rfl, rfl, by decide +kernel, rfl, by decide +kernel, by decide +kernel⟩
abbrev s__law_is : Stmt := top 29
abbrev N__law_is : List Str := ["told", "parts", "k", "part"]
theorem sc__law_is : FnScope N__law_is ["told", "parts", "k"] (defScope s__law_is) := ⟨rfl, rfl, rfl, by decide +kernel, rfl, by decide +kernel, by decide +kernel⟩
abbrev s__law_number : Stmt := top 30
abbrev N__law_number : List Str := ["source", "parts", "turn"]
theorem sc__law_number : FnScope N__law_number ["source"] (defScope s__law_number) := ⟨rfl, rfl, rfl, by decide +kernel, rfl, by decide +kernel, by decide +kernel⟩
abbrev s__law_partner : Stmt := top 31
abbrev N__law_partner : List Str := ["source", "x", "choice", "row", "spot"]
theorem sc__law_partner : FnScope N__law_partner ["source", "x"] (defScope s__law_partner) := ⟨rfl, rfl, rfl, by decide +kernel, rfl, by decide +kernel, by decide +kernel⟩
abbrev s__law_powers : Stmt := top 32
abbrev N__law_powers : List Str := ["source", "x", "i", "j", "up", "down"]
theorem sc__law_powers : FnScope N__law_powers ["source", "x"] (defScope s__law_powers) := ⟨rfl, rfl, rfl, by decide +kernel, rfl, by decide +kernel, by decide +kernel⟩
abbrev s__law_images : Stmt := top 33
abbrev N__law_images : List Str := ["x", "far", "other", "part", "length"]
theorem sc__law_images : FnScope N__law_images ["x"] (defScope s__law_images) := ⟨rfl, rfl, rfl, by decide +kernel, rfl, by decide +kernel, by decide +kernel⟩
abbrev s__law_neutral : Stmt := top 34
abbrev N__law_neutral : List Str := ["x", "zero", "one", "less"]
theorem sc__law_neutral : FnScope N__law_neutral ["x"] (defScope s__law_neutral) := ⟨rfl, rfl, rfl, by decide +kernel, rfl, by decide +kernel, by decide +kernel⟩
abbrev s_law : Stmt := top 35
abbrev N_law : List Str := ["script", "source", "x", "y", "k", "left", "right", "total", "less"]
theorem sc_law : FnScope N_law ["script"] (defScope s_law) := ⟨rfl, rfl, rfl, by decide +kernel, rfl, by decide +kernel, by decide +kernel⟩
end Q

namespace Q
open PySem PySem.Spec PyProof.Rows L2 Evl Pm
local macro_rules | `(tactic| walk_at "side") => `(tactic| first | omega | decide | assumption | (refine ⟨?_, ?_⟩ <;> omega) | (refine ⟨?_, ?_⟩ <;> decide))
local macro_rules | `(tactic| walk_at "od") => `(tactic| first
  | exact od_add | exact od_sub | exact od_eq | exact od_lt | exact od_gt | exact od_le | exact od_ge | exact od_ne
  | exact od_mod (by walk_at "side") | exact od_div (by walk_at "side")
  | exact od_mul (.inl (by walk_at "side")) | exact od_mul (.inr (by walk_at "side"))
  | exact od_pow ⟨by decide, by decide, by decide⟩
  | exact od_isN | exact od_isB | exact od_isNotN)

/-! ### mirrors -/
abbrev num (a b c d : Int) (k : Int) : D := .tuple [.int a, .int b, .int c, .int d, .int k]
structure Q5 where
  a : Int
  b : Int
  c : Int
  d : Int
  k : Int
  deriving DecidableEq
abbrev Q5.D (x : Q5) : D := num x.a x.b x.c x.d x.k
def redN : Nat → Int → Int → Int → Int → Q5
  | 0, a, b, c, d => ⟨a, b, c, d, 0⟩
  | k + 1, a, b, c, d => if (a + c) % 2 = 0 ∧ (b + d) % 2 = 0 then redN k ((b - d) / 2) ((a + c) / 2) ((b + d) / 2) ((c - a) / 2) else ⟨a, b, c, d, (k : Int) + 1⟩
def ringN (a b c d k : Int) : Q5 := if a = 0 ∧ b = 0 ∧ c = 0 ∧ d = 0 then ⟨0, 0, 0, 0, 0⟩ else redN k.toNat a b c d
structure Src where
  g : Int
  s : Int
  c : Int
abbrev Src.L (S : Src) : List D := [.int S.g, .int S.s, .int S.c]
def drawX (s c : Int) : Int :=
  let x := (s + c * 2654435761) % 4294967291
  let x := (x * x + 40503 * c + 7) % 4294967291
  let x := (x * x + 69621 * x + c) % 4294967279
  x / 64
def draw (S : Src) (m : Int) : Int := if 0 < S.g then S.g % m else drawX S.s (S.c + 1) % m
def drawS (S : Src) (m : Int) : Src := if 0 < S.g then ⟨S.g / m, S.s, S.c⟩ else ⟨S.g, S.s, S.c + 1⟩
theorem draw_lt (S : Src) {m : Int} (h : 0 < m) : 0 ≤ draw S m ∧ draw S m < m := by
  unfold draw
  split
  · exact ⟨Int.emod_nonneg _ (by omega), Int.emod_lt_of_pos _ h⟩
  · exact ⟨Int.emod_nonneg _ (by omega), Int.emod_lt_of_pos _ h⟩
def many (S : Src) (a b : Int) : Int := if draw S 8 = 7 then draw (drawS S 8) (b + 1) else draw (drawS S 8) (a + 1)
def manyS (S : Src) (a b : Int) : Src := if draw S 8 = 7 then drawS (drawS S 8) (b + 1) else drawS (drawS S 8) (a + 1)
theorem many_lt (S : Src) {a b : Int} (h : 0 ≤ a) (h' : a ≤ b) : 0 ≤ many S a b ∧ many S a b ≤ b := by
  unfold many
  split
  · have := draw_lt (drawS S 8) (m := b + 1) (by omega); omega
  · have := draw_lt (drawS S 8) (m := a + 1) (by omega); omega
def intLoop : Nat → Src → Int → Int × Src
  | 0, S, v => (v, S)
  | n + 1, S, v => intLoop n (drawS S 1000000000) (v * 1000000000 + draw S 1000000000)
def integer (S : Src) (ch : Int) : Int × Src :=
  let kind := draw S 8
  let S1 := drawS S 8
  if kind = 0 then (0, S1) else if kind < 5 then (draw S1 9 - 4, drawS S1 9) else if kind = 5 then (draw S1 2001 - 1000, drawS S1 2001) else
  let p := intLoop (1 + draw S1 ch).toNat (drawS S1 ch) 0
  (p.1 - 2 * p.1 * draw p.2 2, drawS p.2 2)

/-! ### promises -/
def R_ring_number : W → List Ag → W → D → Prop := fun w as w' r => w = [] ∧ w' = [] ∧ ∃ a b c d k : Int, 0 ≤ k ∧ as = [.dat (.int a), .dat (.int b), .dat (.int c), .dat (.int d), .dat (.int k)] ∧ r = (ringN a b c d k).D
theorem r_ring_number {a b c d k : Int} (h : 0 ≤ k := by walk_at "side") : R_ring_number [] [.dat (.int a), .dat (.int b), .dat (.int c), .dat (.int d), .dat (.int k)] [] (ringN a b c d k).D := ⟨rfl, rfl, a, b, c, d, k, h, rfl, rfl⟩
def R__law_draw : W → List Ag → W → D → Prop := fun w as w' r => ∃ (p : Addr) (S : Src) (m : Int), w = [(p, S.L)] ∧ w' = [(p, (drawS S m).L)] ∧ as = [.own p, .dat (.int m)] ∧ (0 < m ∧ m < 1073741824) ∧ r = .int (draw S m)
theorem r__law_draw {p : Addr} {S : Src} {m : Int} (h : 0 < m ∧ m < 1073741824 := by walk_at "side") : R__law_draw [(p, S.L)] [.own p, .dat (.int m)] [(p, (drawS S m).L)] (.int (draw S m)) := ⟨p, S, m, rfl, rfl, rfl, h, rfl⟩
def R__law_many : W → List Ag → W → D → Prop := fun w as w' r => ∃ (p : Addr) (S : Src) (a b : Int), w = [(p, S.L)] ∧ w' = [(p, (manyS S a b).L)] ∧ as = [.own p, .dat (.int a), .dat (.int b)] ∧ (0 ≤ a ∧ a < 1000000 ∧ 0 ≤ b ∧ b < 1000000) ∧ r = .int (many S a b)
theorem r__law_many {p : Addr} {S : Src} {a b : Int} (h : 0 ≤ a ∧ a < 1000000 ∧ 0 ≤ b ∧ b < 1000000 := by walk_at "side") : R__law_many [(p, S.L)] [.own p, .dat (.int a), .dat (.int b)] [(p, (manyS S a b).L)] (.int (many S a b)) := ⟨p, S, a, b, rfl, rfl, rfl, h, rfl⟩
def R__law_integer : W → List Ag → W → D → Prop := fun w as w' r => ∃ (p : Addr) (S : Src) (ch : Int), w = [(p, S.L)] ∧ w' = [(p, (integer S ch).2.L)] ∧ as = [.own p, .dat (.int ch)] ∧ (0 < ch ∧ ch < 1000) ∧ r = .int (integer S ch).1
theorem r__law_integer {p : Addr} {S : Src} {ch : Int} (h : 0 < ch ∧ ch < 1000 := by walk_at "side") : R__law_integer [(p, S.L)] [.own p, .dat (.int ch)] [(p, (integer S ch).2.L)] (.int (integer S ch).1) := ⟨p, S, ch, rfl, rfl, rfl, h, rfl⟩

section
variable {P : Program} {wd : World} {K : PySem.W.Frag} {mg : Str → Option Value} {base : Heap}
theorem ok_ring_number {f : Addr} {fd : FuncData} (F : Fun K "ring_number" "ring_number" s_ring_number f fd) (G_ZERO : Glob K mg "ZERO" (num 0 0 0 0 0)) : FnOk P wd K mg base CX0 1 f fd ["a", "b", "c", "d", "k"] (spG K 5 R_ring_number) := by
  refine fn_ok F sc_ring_number fun cdv A outer s H E hr w as w' r hl dm h => ?_
  obtain ⟨rfl, rfl, a, b, c, d, k, hk, rfl, rfl⟩ := h
  have hN := sc_ring_number.nd
  refine Ws.cons (Wt.ite (EvT.chain (Ev.var 0 rfl) (ChT.link (Ev.var 1 rfl) (by walk_at "od") fun h3 => (ChT.link (Ev.var 2 rfl) (by walk_at "od") fun h4 => (ChT.link (Ev.var 3 rfl) (by walk_at "od") fun h5 => (ChT.last Ev.int (by walk_at "od")))))) (fun h1 => ?_) (fun h2 => ?_))
  ·
    refine Ws.cons (Wt.ret (Ev.globC G_ZERO) ⟨?_, rfl⟩)
    simp only [Bool.and_eq_true, decide_eq_true_eq] at h1
    unfold ringN
    rw [if_pos (by omega)]
  ·
    refine Ws.nil ?_
    have e0 : ringN a b c d k = redN k.toNat a b c d := by
      simp only [Bool.and_eq_false_iff, decide_eq_false_iff_not] at h2
      unfold ringN
      rw [if_neg (by omega)]
    rw [e0]
    obtain ⟨n, rfl⟩ : ∃ n : Nat, k = n := ⟨k.toNat, by omega⟩
    refine Ws.cons (Wt.while (fun m ρ w => w = [] ∧ ∃ a' b' c' d' : Int, ρ = [.dat (.int a'), .dat (.int b'), .dat (.int c'), .dat (.int d'), .dat (.int m)] ∧ redN m a' b' c' d' = redN n a b c d) n ⟨rfl, a, b, c, d, rfl, rfl⟩ ?_ .never)
    · rintro m ρ w ⟨rfl, a', b', c', d', rfl, e⟩
      refine ⟨_, _, (EvT.of (EvW.and (EvT.cmp (Ev.var 4 rfl) Ev.int (by walk_at "od")) fun h6 => (EvW.and (EvT.cmp (Ev.bin (Ev.bin (Ev.var 0 rfl) (Ev.var 2 rfl) (by walk_at "od")) Ev.int (by walk_at "od")) Ev.int (by walk_at "od")) fun h7 => (EvW.and1 (EvT.cmp (Ev.bin (Ev.bin (Ev.var 1 rfl) (Ev.var 3 rfl) (by walk_at "od")) Ev.int (by walk_at "od")) Ev.int (by walk_at "od")))))), fun h8 => ?_, fun h9 => ?_⟩
      ·
        simp only [Bool.and_eq_true, decide_eq_true_eq] at h8
        obtain ⟨h81, h82, h83⟩ := h8
        obtain ⟨q, rfl⟩ : ∃ q, m = q + 1 := ⟨m - 1, by omega⟩
        refine Ws.cons (Wt.unT (is := [0, 1, 2, 3]) (Ev.tup (ds := [_, _, _, _]) (EvA.cons (Ev.bin (Ev.bin (Ev.var 1 rfl) (Ev.var 3 rfl) (by walk_at "od")) Ev.int (by walk_at "od")) (EvA.cons (Ev.bin (Ev.bin (Ev.var 0 rfl) (Ev.var 2 rfl) (by walk_at "od")) Ev.int (by walk_at "od")) (EvA.cons (Ev.bin (Ev.bin (Ev.var 1 rfl) (Ev.var 3 rfl) (by walk_at "od")) Ev.int (by walk_at "od")) (EvA.cons (Ev.bin (Ev.bin (Ev.var 2 rfl) (Ev.var 0 rfl) (by walk_at "od")) Ev.int (by walk_at "od")) EvA.nil))))) ?_ hN rfl (.cons (i := 0) rfl (.inl rfl) (.inr rfl) rfl (.cons (i := 1) rfl (.inl rfl) (.inr rfl) rfl (.cons (i := 2) rfl (.inl rfl) (.inr rfl) rfl (.cons (i := 3) rfl (.inl rfl) (.inr rfl) rfl .nil)))))
        refine Ws.cons (Wt.set 4 (Ev.bin (Ev.var 4 rfl) Ev.int (by walk_at "od")) ?_ hN)
        refine Ws.nil ?_
        refine ⟨q, Nat.lt_succ_self q, rfl, (b' - d') / 2, (a' + c') / 2, (b' + d') / 2, (c' - a') / 2, ?_, ?_⟩
        · have ez : ((q + 1 : Nat) : Int) - 1 = (q : Int) := by omega
          rw [ez]
          rfl
        · rw [← e]
          show _ = (if (a' + c') % 2 = 0 ∧ (b' + d') % 2 = 0 then _ else _)
          rw [if_pos ⟨h82, h83⟩]
      ·
        refine Ws.cons (Wt.ret (Ev.tup (ds := [_, _, _, _, _]) (EvA.cons (Ev.var 0 rfl) (EvA.cons (Ev.var 1 rfl) (EvA.cons (Ev.var 2 rfl) (EvA.cons (Ev.var 3 rfl) (EvA.cons (Ev.var 4 rfl) EvA.nil)))))) ⟨?_, rfl⟩)
        rw [Int.toNat_natCast, ← e]
        cases m with
        | zero => rfl
        | succ q =>
          simp only [Bool.and_eq_false_iff, decide_eq_false_iff_not] at h9
          show _ = Q5.D (if (a' + c') % 2 = 0 ∧ (b' + d') % 2 = 0 then _ else _)
          rw [if_neg (by omega)]
          rfl

theorem mem_len {S : Src} : (S.L).length = 3 := rfl
theorem ok__law_draw {f : Addr} {fd : FuncData} (F : Fun K "_law_draw" "_law_draw" s__law_draw f fd) (m_int : mg "int" = none) : FnOk P wd K mg base CX0 1 f fd ["source", "many"] (spG K 2 R__law_draw) := by
  refine fn_ok F sc__law_draw fun cdv A outer s H E hr w as w' r hl dm h => ?_
  obtain ⟨p, S, m, rfl, rfl, rfl, hm, rfl⟩ := h
  have hN := sc__law_draw.nd
  refine Ws.cons (Wt.ite (EvT.cmp (Ev.ixO 0 0 rfl rfl Ev.int rfl) Ev.int (by walk_at "od")) (fun h1 => ?_) (fun h2 => ?_))
  ·
    have h1' : 0 < S.g := of_decide_eq_true h1
    refine Ws.cons (Wt.set 2 (Ev.bin (Ev.intC (Ev.ixO 0 0 rfl rfl Ev.int rfl) m_int) (Ev.var 1 rfl) (by walk_at "od")) ?_ hN)
    refine Ws.cons (Wt.setIx 0 0 rfl (Ev.bin (Ev.ixO 0 0 rfl rfl Ev.int rfl) (Ev.var 1 rfl) (by walk_at "od")) Ev.int rfl rfl ?_)
    refine Ws.cons (Wt.ret (Ev.var 2 rfl) ⟨?_, ?_⟩)
    · unfold draw
      rw [if_pos h1']
    · unfold drawS
      rw [if_pos h1']
      rfl
  ·
    have h2' : ¬ 0 < S.g := of_decide_eq_false h2
    refine Ws.nil ?_
    refine Ws.cons (Wt.setIx 0 0 rfl (Ev.bin (Ev.ixO 0 0 rfl rfl Ev.int rfl) Ev.int (by walk_at "od")) Ev.int rfl rfl ?_)
    refine Ws.cons (Wt.set 3 (Ev.bin (Ev.intC (Ev.bin (Ev.ixO 0 0 rfl rfl Ev.int rfl) (Ev.bin (Ev.ixO 0 0 rfl rfl Ev.int rfl) Ev.int (by walk_at "od")) (by walk_at "od")) m_int) Ev.int (by walk_at "od")) ?_ hN)
    refine Ws.cons (Wt.set 3 (Ev.bin (Ev.intC (Ev.bin (Ev.bin (Ev.bin (Ev.var 3 rfl) (Ev.var 3 rfl) (by walk_at "od")) (Ev.bin Ev.int (Ev.ixO 0 0 rfl rfl Ev.int rfl) (by walk_at "od")) (by walk_at "od")) Ev.int (by walk_at "od")) m_int) Ev.int (by walk_at "od")) ?_ hN)
    refine Ws.cons (Wt.set 3 (Ev.bin (Ev.intC (Ev.bin (Ev.bin (Ev.bin (Ev.var 3 rfl) (Ev.var 3 rfl) (by walk_at "od")) (Ev.bin Ev.int (Ev.var 3 rfl) (by walk_at "od")) (by walk_at "od")) (Ev.ixO 0 0 rfl rfl Ev.int rfl) (by walk_at "od")) m_int) Ev.int (by walk_at "od")) ?_ hN)
    refine Ws.cons (Wt.ret (Ev.bin (Ev.intC (Ev.bin (Ev.var 3 rfl) Ev.int (by walk_at "od")) m_int) (Ev.var 1 rfl) (by walk_at "od")) ⟨?_, ?_⟩)
    · unfold draw
      rw [if_neg h2']
      rfl
    · unfold drawS
      rw [if_neg h2']
      rfl
theorem ok__law_many {f : Addr} {fd : FuncData} (F : Fun K "_law_many" "_law_many" s__law_many f fd) (C__law_draw : Cal P wd K mg base 1 "_law_draw" 2 R__law_draw) : FnOk P wd K mg base CX0 2 f fd ["source", "small", "most"] (spG K 3 R__law_many) := by
  refine fn_ok F sc__law_many fun cdv A outer s H E hr w as w' r hl dm h => ?_
  obtain ⟨p, S, a, b, rfl, rfl, rfl, hm, rfl⟩ := h
  have hN := sc__law_many.nd
  refine Ws.cons (Wt.ite (EvT.cmp (Ev.callCS 0 C__law_draw hr (EvA.own 0 rfl (EvA.cons Ev.int EvA.nil)) rfl (r__law_draw)) Ev.int (by walk_at "od")) (fun h1 => ?_) (fun h2 => ?_))
  ·
    have h1' : draw S 8 = 7 := of_decide_eq_true h1
    refine Ws.cons (Wt.ret (Ev.callCS 0 C__law_draw hr (EvA.own 0 rfl (EvA.cons (Ev.bin (Ev.var 2 rfl) Ev.int (by walk_at "od")) EvA.nil)) rfl (r__law_draw)) ⟨?_, ?_⟩)
    · unfold many
      rw [if_pos h1']
    · unfold manyS
      rw [if_pos h1']
      rfl
  ·
    have h2' : ¬ draw S 8 = 7 := of_decide_eq_false h2
    refine Ws.nil ?_
    refine Ws.cons (Wt.ret (Ev.callCS 0 C__law_draw hr (EvA.own 0 rfl (EvA.cons (Ev.bin (Ev.var 1 rfl) Ev.int (by walk_at "od")) EvA.nil)) rfl (r__law_draw)) ⟨?_, ?_⟩)
    · unfold many
      rw [if_neg h2']
    · unfold manyS
      rw [if_neg h2']
      rfl
theorem ok__law_integer {f : Addr} {fd : FuncData} (F : Fun K "_law_integer" "_law_integer" s__law_integer f fd) (C__law_draw : Cal P wd K mg base 1 "_law_draw" 2 R__law_draw) (m_range : mg "range" = none) : FnOk P wd K mg base CX0 2 f fd ["source", "chunks"] (spG K 2 R__law_integer) := by
  refine fn_ok F sc__law_integer fun cdv A outer s H E hr w as w' r hl dm h => ?_
  obtain ⟨p, S, ch, rfl, rfl, rfl, hm, rfl⟩ := h
  have hN := sc__law_integer.nd
  refine Ws.cons (Wt.set 2 (Ev.callCS 0 C__law_draw hr (EvA.own 0 rfl (EvA.cons Ev.int EvA.nil)) rfl (r__law_draw)) ?_ hN)
  refine Ws.cons (Wt.ite (EvT.cmp (Ev.var 2 rfl) Ev.int (by walk_at "od")) (fun h1 => ?_) (fun h2 => ?_))
  ·
    have h1' : draw S 8 = 0 := of_decide_eq_true h1
    refine Ws.cons (Wt.ret Ev.int ⟨?_, ?_⟩) <;> (unfold integer; simp only [h1', if_true]) <;> rfl
  ·
    have h2' : ¬ draw S 8 = 0 := of_decide_eq_false h2
    refine Ws.nil ?_
    refine Ws.cons (Wt.ite (EvT.cmp (Ev.var 2 rfl) Ev.int (by walk_at "od")) (fun h3 => ?_) (fun h4 => ?_))
    ·
      have h3' : draw S 8 < 5 := of_decide_eq_true h3
      refine Ws.cons (Wt.ret (Ev.bin (Ev.callCS 0 C__law_draw hr (EvA.own 0 rfl (EvA.cons Ev.int EvA.nil)) rfl (r__law_draw)) Ev.int (by walk_at "od")) ⟨?_, ?_⟩) <;> (unfold integer; simp only [h2', h3', if_true, if_false]) <;> rfl
    ·
      have h4' : ¬ draw S 8 < 5 := of_decide_eq_false h4
      refine Ws.nil ?_
      refine Ws.cons (Wt.ite (EvT.cmp (Ev.var 2 rfl) Ev.int (by walk_at "od")) (fun h5 => ?_) (fun h6 => ?_))
      ·
        have h5' : draw S 8 = 5 := of_decide_eq_true h5
        refine Ws.cons (Wt.ret (Ev.bin (Ev.callCS 0 C__law_draw hr (EvA.own 0 rfl (EvA.cons Ev.int EvA.nil)) rfl (r__law_draw)) Ev.int (by walk_at "od")) ⟨?_, ?_⟩) <;> (unfold integer; simp only [h2', h4', h5', if_true, if_false]) <;> rfl
      ·
        have h6' : ¬ draw S 8 = 5 := of_decide_eq_false h6
        refine Ws.nil ?_
        refine Ws.cons (Wt.set 3 Ev.int ?_ hN)
        have hd := draw_lt (drawS S 8) (m := ch) (by omega)
        refine Ws.cons (Wt.forR1 4 (fun i ρ w => ∃ S' v x, ρ = [.own p, .dat (.int ch), .dat (.int (draw S 8)), .dat (.int v), x] ∧ w = [(p, Src.L S')] ∧ intLoop ((1 + draw (drawS S 8) ch).toNat - i) S' v = intLoop (1 + draw (drawS S 8) ch).toNat (drawS (drawS S 8) ch) 0) (EvA.cons (Ev.bin Ev.int (Ev.callCS 0 C__law_draw hr (EvA.own 0 rfl (EvA.cons (Ev.var 1 rfl) EvA.nil)) rfl (r__law_draw)) (by walk_at "od")) EvA.nil) ⟨by omega, by omega⟩ ⟨_, _, _, rfl, rfl, rfl⟩ ?_ ?_ .never rfl hN m_range)
        · rintro i ρ w hi ⟨S', v, x, rfl, rfl, e⟩
          refine Ws.cons (Wt.set 3 (Ev.bin (Ev.bin (Ev.var 3 rfl) (Ev.bin Ev.int Ev.int (by walk_at "od")) (by walk_at "od")) (Ev.callCS 0 C__law_draw hr (EvA.own 0 rfl (EvA.cons (Ev.bin Ev.int Ev.int (by walk_at "od")) EvA.nil)) rfl (r__law_draw)) (by walk_at "od")) ?_ hN)
          refine Ws.nil ?_
          refine ⟨_, _, _, rfl, rfl, ?_⟩
          rw [← e, show (1 + draw (drawS S 8) ch).toNat - i = ((1 + draw (drawS S 8) ch).toNat - (i + 1)) + 1 by omega]
          rfl
        · rintro ρ w ⟨S', v, x, rfl, rfl, e⟩
          rw [Nat.sub_self] at e
          have e1 : integer S ch = (let p := intLoop (1 + draw (drawS S 8) ch).toNat (drawS (drawS S 8) ch) 0; (p.1 - 2 * p.1 * draw p.2 2, drawS p.2 2)) := by
            unfold integer
            simp only [h2', h4', h6', if_false]
          rw [← e] at e1
          have hb := draw_lt S' (m := 2) (by decide)
          refine Ws.cons (Wt.ret (Ev.bin (Ev.var 3 rfl) (Ev.bin (Ev.bin Ev.int (Ev.var 3 rfl) (by walk_at "od")) (Ev.callCS 0 C__law_draw hr (EvA.own 0 rfl (EvA.cons Ev.int EvA.nil)) rfl (r__law_draw)) (by walk_at "od")) (by walk_at "od")) ⟨?_, ?_⟩) <;> rw [e1] <;> rfl

/-! ### the script's source -/
def seedL : List D → Int → Int
  | .int z :: r, s => seedL r ((s * 1000003 + z % 2147483647 + 1) % 4294967291)
  | _, s => s
def greatOf : List Int → Int
  | [] => 0
  | n :: _ => if 1000000000000000000 ≤ (if n < 0 then -n else n) then (if n < 0 then -n else n) - 1000000000000000000 else 0
def srcOf (ns : List Int) : Src := ⟨greatOf ns, seedL (cutP (ns.map PyData.int) none (some 63)) 0, 0⟩
def R__law_source : W → List Ag → W → List D → Prop := fun w as w' r => w = [] ∧ w' = [] ∧ ∃ ns : List Int, as = [.dat (.list (ns.map PyData.int))] ∧ r = (srcOf ns).L
theorem r__law_source {ns : List Int} : R__law_source [] [.dat (.list (ns.map PyData.int))] [] (srcOf ns).L := ⟨rfl, rfl, ns, rfl, rfl⟩
theorem cut_mem {ds : List D} {lo hi : Option Int} {y : D} (h : y ∈ cutP ds lo hi) : y ∈ ds := by
  unfold cutP at h
  exact List.mem_of_mem_drop (List.mem_of_mem_take h)
theorem ok__law_source {f : Addr} {fd : FuncData} (F : Fun K "_law_source" "_law_source" s__law_source f fd) (m_int : mg "int" = none) (m_len : mg "len" = none) (m_abs : mg "abs" = none) : FnOk P wd K mg base CX0 1 f fd ["script"] (spN K 1 R__law_source) := by
  refine fn_okN F sc__law_source fun cdv A outer s H E hr w as w' r hl dm h => ?_
  obtain ⟨rfl, rfl, ns, rfl, rfl⟩ := h
  have hN := sc__law_source.nd
  refine Ws.cons (Wt.set 1 Ev.int ?_ hN)
  refine Ws.cons (Wt.forL 2 (fun i ρ w => w = [] ∧ ∃ z x, ρ = [.dat (.list (ns.map PyData.int)), .dat (.int z), x, .none] ∧ seedL ((cutP (ns.map PyData.int) none (some 63)).drop i) z = seedL (cutP (ns.map PyData.int) none (some 63)) 0) (EvN.ev (EvN.slL (Ev.var 0 rfl) EvP.none (EvP.some Ev.int))) ⟨rfl, _, _, rfl, rfl⟩ ?_ ?_ .never rfl hN)
  · rintro i y ρ w hi ⟨rfl, z, x, rfl, e⟩
    obtain ⟨v, _, rfl⟩ := List.mem_map.mp (cut_mem (List.mem_of_getElem? hi))
    refine Ws.cons (Wt.set 1 (Ev.bin (Ev.intC (Ev.bin (Ev.bin (Ev.bin (Ev.var 1 rfl) Ev.int (by walk_at "od")) (Ev.bin (Ev.intC (Ev.var 2 rfl) m_int) Ev.int (by walk_at "od")) (by walk_at "od")) Ev.int (by walk_at "od")) m_int) Ev.int (by walk_at "od")) ?_ hN)
    refine Ws.nil ?_
    refine ⟨rfl, _, _, rfl, ?_⟩
    rw [← e]
    obtain ⟨hlt, ei⟩ := List.getElem?_eq_some_iff.mp hi
    rw [List.drop_eq_getElem_cons hlt, ei]
    rfl
  · rintro ρ w ⟨rfl, z, x, rfl, e⟩
    have e2 : seedL (cutP (ns.map PyData.int) none (some 63)) 0 = z := by
      rw [← e, List.drop_length]
      rfl
    refine Ws.cons (Wt.set 3 Ev.int ?_ hN)
    cases ns with
    | nil =>
      refine Ws.cons (Wt.skip (EvT.to (EvT.of (EvW.and (j := false) (EvT.cmp (Ev.lenC (Ev.var 0 rfl) m_len) Ev.int (by walk_at "od")) fun h3 => absurd (of_decide_eq_true h3) (by simp))) (Bool.and_false _)) ?_)
      refine Ws.cons (Wt.retNew (EvN.lst (ds := [_, _, _]) (EvA.cons (Ev.var 3 rfl) (EvA.cons (Ev.var 1 rfl) (EvA.cons Ev.int EvA.nil)))) ⟨?_, rfl⟩)
      unfold srcOf
      rw [e2]
      rfl
    | cons n ns =>
      refine Ws.cons (Wt.ite (EvT.of (EvW.and (EvT.cmp (Ev.lenC (Ev.var 0 rfl) m_len) Ev.int (by walk_at "od")) fun h3 => (EvW.and1 (EvT.cmp (Ev.absC (Ev.ix (Ev.var 0 rfl) Ev.int (item_natL (i := 0) rfl)) m_abs) (Ev.bin Ev.int Ev.int (by walk_at "od")) (by walk_at "od"))))) (fun h1 => ?_) (fun h2 => ?_))
      ·
        refine Ws.cons (Wt.set 3 (Ev.bin (Ev.absC (Ev.ix (Ev.var 0 rfl) Ev.int (item_natL (i := 0) rfl)) m_abs) (Ev.bin Ev.int Ev.int (by walk_at "od")) (by walk_at "od")) ?_ hN)
        refine Ws.nil ?_
        refine Ws.cons (Wt.retNew (EvN.lst (ds := [_, _, _]) (EvA.cons (Ev.var 3 rfl) (EvA.cons (Ev.var 1 rfl) (EvA.cons Ev.int EvA.nil)))) ⟨?_, rfl⟩)
        unfold srcOf
        rw [e2]
        have h1' : (1000000000000000000 : Int) ≤ (if n < 0 then -n else n) := of_decide_eq_true ((Bool.and_eq_true_iff.mp h1).2)
        have eg : greatOf (n :: ns) = (if n < 0 then -n else n) - 1000000000000000000 := if_pos h1'
        rw [eg]
        rfl
      ·
        refine Ws.nil ?_
        refine Ws.cons (Wt.retNew (EvN.lst (ds := [_, _, _]) (EvA.cons (Ev.var 3 rfl) (EvA.cons (Ev.var 1 rfl) (EvA.cons Ev.int EvA.nil)))) ⟨?_, rfl⟩)
        unfold srcOf
        rw [e2]
        have hl0 : decide ((0 : Int) < (((n :: ns).map PyData.int).length : Nat)) = true := decide_eq_true (by rw [List.length_map, List.length_cons]; omega)
        have h2' : ¬ (1000000000000000000 : Int) ≤ (if n < 0 then -n else n) := of_decide_eq_false (by
          rcases Bool.and_eq_false_iff.mp h2 with z | z
          · exact absurd hl0 (by rw [z]; decide)
          · exact z)
        have eg : greatOf (n :: ns) = 0 := if_neg h2'
        rw [eg]

/-! ### the same -/
def Okd : Nat → D → Prop
  | _, .int _ => True
  | n + 1, .tuple ds => ds.length ≤ 1000 ∧ ∀ x ∈ ds, Okd n x
  | _, _ => False
def R__law_same (n : Nat) : W → List Ag → W → D → Prop := fun w as w' r => w = [] ∧ w' = [] ∧ ∃ d, Okd n d ∧ as = [.dat d, .dat d] ∧ r = .bool true
theorem r__law_same {n : Nat} {d : D} (h : Okd n d) : R__law_same n [] [.dat d, .dat d] [] (.bool true) := ⟨rfl, rfl, d, h, rfl, rfl⟩
structure Blt (mg : Str → Option Value) : Prop where
  isinstance : mg "isinstance" = none
  int : mg "int" = none
  bool : mg "bool" = none
  str : mg "str" = none
  tuple : mg "tuple" = none
  list : mg "list" = none
  len : mg "len" = none
  range : mg "range" = none
theorem ok__law_same {f : Addr} {fd : FuncData} (F : Fun K "_law_same" "_law_same" s__law_same f fd) (M : Blt mg) (n : Nat) (C__law_same : ∀ m, n = m + 1 → Cal P wd K mg base n "_law_same" 2 (R__law_same m)) : FnOk P wd K mg base CX0 (n + 1) f fd ["told", "due"] (spG K 2 (R__law_same n)) := by
  refine fn_ok F sc__law_same fun cdv A outer s H E hr w as w' r hl dm h => ?_
  obtain ⟨rfl, rfl, d, hd, rfl, rfl⟩ := h
  have hN := sc__law_same.nd
  cases d with
  | int i =>
    refine Ws.cons (Wt.skip (EvT.cmp (Ev.var 1 rfl) Ev.non od_isN) ?_)
    refine Ws.cons (Wt.skip (EvT.cmp (Ev.var 1 rfl) Ev.bl od_isB) ?_)
    refine Ws.cons (Wt.skip (EvT.cmp (Ev.var 1 rfl) Ev.bl od_isB) ?_)
    refine Ws.cons (Wt.iteT (EvT.val (Ev.isi (T := "int") (Ev.var 1 rfl) kit_int_int M.isinstance M.int bt_int)) ?_)
    refine Ws.cons (Wt.ret (Ev.and (Ev.isi (k := true) (T := "int") (Ev.var 0 rfl) kit_int_int M.isinstance M.int bt_int) fun h9 => (Ev.and (Ev.not (Ev.isi (k := false) (T := "bool") (Ev.var 0 rfl) kit_int_bool M.isinstance M.bool bt_bool)) fun h10 => (Ev.bone (Ev.cmp (Ev.var 0 rfl) (Ev.var 1 rfl) (by walk_at "od"))))) ⟨?_, rfl⟩)
    simp
  | tuple ds =>
    cases n with
    | zero => exact hd.elim
    | succ m =>
      have C := C__law_same m rfl
      obtain ⟨hz, hd⟩ := hd
      refine Ws.cons (Wt.skip (EvT.cmp (Ev.var 1 rfl) Ev.non od_isN) ?_)
      refine Ws.cons (Wt.skip (EvT.cmp (Ev.var 1 rfl) Ev.bl od_isB) ?_)
      refine Ws.cons (Wt.skip (EvT.cmp (Ev.var 1 rfl) Ev.bl od_isB) ?_)
      refine Ws.cons (Wt.skip (EvT.val (Ev.isi (T := "int") (Ev.var 1 rfl) kit_tuple_int M.isinstance M.int bt_int)) ?_)
      refine Ws.cons (Wt.skip (EvT.val (Ev.isi (T := "str") (Ev.var 1 rfl) kit_tuple_str M.isinstance M.str bt_str)) ?_)
      refine Ws.cons (Wt.iteT (EvT.val (Ev.isi (T := "tuple") (Ev.var 1 rfl) kit_tuple_tuple M.isinstance M.tuple bt_tuple)) ?_)
      refine Ws.cons (Wt.skip (EvT.to (EvT.of (EvW.or (EvT.not (EvT.val (Ev.isi (k := true) (T := "tuple") (Ev.var 0 rfl) kit_tuple_tuple M.isinstance M.tuple bt_tuple))) fun h18 => (EvW.or1 (EvT.cmp (Ev.lenC (Ev.var 0 rfl) M.len) (Ev.lenC (Ev.var 1 rfl) M.len) (by walk_at "od"))))) (by simp)) ?_)
      refine Ws.nil ?_
      refine Ws.cons (Wt.forR1 2 (fun i ρ w => w = [] ∧ ∃ x, ρ = [.dat (.tuple ds), .dat (.tuple ds), x]) (EvA.cons (Ev.lenC (Ev.var 1 rfl) M.len) EvA.nil) ⟨by omega, by omega⟩ ⟨rfl, _, rfl⟩ ?_ ?_ .never rfl hN M.range)
      · rintro i ρ w hi ⟨rfl, x, rfl⟩
        have hi' : i < ds.length := by omega
        have hx : itemD (.tuple ds) (i : Int) = some ds[i] := item_nat (List.getElem?_eq_getElem hi')
        refine Ws.cons (Wt.skip (EvT.not (EvT.val (Ev.callC C hr (EvA.cons (Ev.ix (Ev.var 0 rfl) (Ev.var 2 rfl) hx) (EvA.cons (Ev.ix (Ev.var 1 rfl) (Ev.var 2 rfl) hx) EvA.nil)) (r__law_same (hd _ (List.getElem_mem hi'))) rfl (Nat.le_refl _)))) ?_)
        exact Ws.nil ⟨rfl, _, rfl⟩
      · rintro ρ w ⟨rfl, x, rfl⟩
        exact Ws.cons (Wt.ret Ev.bl ⟨rfl, rfl⟩)
  | none => cases n <;> exact hd.elim
  | bool _ => cases n <;> exact hd.elim
  | str _ => cases n <;> exact hd.elim
  | list _ => cases n <;> exact hd.elim
  | dict _ => cases n <;> exact hd.elim
end
end Q

namespace Q
open PySem PySem.Spec PyProof.Rows L2 Evl Pm
/-! ### four parts -/
structure Q4 where
  a : Int
  b : Int
  c : Int
  d : Int
theorem Q4.eq {x y : Q4} (h1 : x.a = y.a) (h2 : x.b = y.b) (h3 : x.c = y.c) (h4 : x.d = y.d) : x = y := by
  cases x
  cases y
  dsimp only at h1 h2 h3 h4
  subst h1 h2 h3 h4
  rfl
abbrev Q4.L (x : Q4) : List D := [.int x.a, .int x.b, .int x.c, .int x.d]
abbrev Q4.T (x : Q4) : D := .tuple x.L
def Q5.q (x : Q5) : Q4 := ⟨x.a, x.b, x.c, x.d⟩
theorem Q5.eq {x y : Q5} (h1 : x.q = y.q) (h2 : x.k = y.k) : x = y := by
  cases x
  cases y
  unfold Q5.q at h1
  dsimp only at h1 h2
  injection h1 with e1 e2 e3 e4
  subst e1 e2 e3 e4 h2
  rfl
def zero4 : Q4 := ⟨0, 0, 0, 0⟩
def one4 : Q4 := ⟨1, 0, 0, 0⟩
def add4 (x y : Q4) : Q4 := ⟨x.a + y.a, x.b + y.b, x.c + y.c, x.d + y.d⟩
def sub4 (x y : Q4) : Q4 := ⟨x.a - y.a, x.b - y.b, x.c - y.c, x.d - y.d⟩
def neg4 (x : Q4) : Q4 := ⟨-x.a, -x.b, -x.c, -x.d⟩
def mul4 (x y : Q4) : Q4 :=
  ⟨x.a * y.a - x.b * y.d - x.c * y.c - x.d * y.b, x.a * y.b + x.b * y.a - x.c * y.d - x.d * y.c, x.a * y.c + x.b * y.b + x.c * y.a - x.d * y.d, x.a * y.d + x.b * y.c + x.c * y.b + x.d * y.a⟩
def conj4 (x : Q4) : Q4 := ⟨x.a, -x.d, -x.c, -x.b⟩
def sis4 (x : Q4) : Q4 := ⟨x.a, -x.b, x.c, -x.d⟩
def scale4 (n : Int) (x : Q4) : Q4 := ⟨x.a * n, x.b * n, x.c * n, x.d * n⟩
def turn4 (x : Q4) : Q4 := ⟨0 - x.d, x.a, x.b, x.c⟩
def rootS (x : Q4) : Q4 := ⟨x.b - x.d, x.a + x.c, x.b + x.d, x.c - x.a⟩
def rootN : Nat → Q4 → Q4
  | 0, x => x
  | n + 1, x => rootN n (rootS x)
def turnN : Nat → Q4 → Q4
  | 0, x => x
  | n + 1, x => turnN n (turn4 x)
theorem rootN_add : ∀ (n m : Nat) (x : Q4), rootN (n + m) x = rootN m (rootN n x)
  | 0, m, x => by rw [Nat.zero_add]; rfl
  | n + 1, m, x => by
    rw [show n + 1 + m = (n + m) + 1 by omega]
    exact rootN_add n m (rootS x)
theorem rootN_succ (n : Nat) (x : Q4) : rootN (n + 1) x = rootS (rootN n x) := rootN_add n 1 x
theorem rootS_add (x y : Q4) : rootS (add4 x y) = add4 (rootS x) (rootS y) := by
  apply Q4.eq <;> (unfold rootS add4; dsimp only; omega)
theorem rootS_sub (x y : Q4) : rootS (sub4 x y) = sub4 (rootS x) (rootS y) := by
  apply Q4.eq <;> (unfold rootS sub4; dsimp only; omega)
theorem rootS_neg (x : Q4) : rootS (neg4 x) = neg4 (rootS x) := by
  apply Q4.eq <;> (unfold rootS neg4; dsimp only; omega)
theorem rootS_conj (x : Q4) : rootS (conj4 x) = conj4 (rootS x) := by
  apply Q4.eq <;> (unfold rootS conj4; dsimp only; omega)
theorem rootS_sis (x : Q4) : sis4 (rootS x) = neg4 (rootS (sis4 x)) := by
  apply Q4.eq <;> (unfold rootS sis4 neg4; dsimp only; try omega)
theorem rootS_mul (x y : Q4) : mul4 (rootS x) y = rootS (mul4 x y) := by
  apply Q4.eq <;> (unfold rootS mul4; dsimp only; grind)
theorem mul4_comm (x y : Q4) : mul4 x y = mul4 y x := by
  apply Q4.eq <;> (unfold mul4; dsimp only; grind)
theorem rootN_addQ : ∀ (n : Nat) (x y : Q4), rootN n (add4 x y) = add4 (rootN n x) (rootN n y)
  | 0, _, _ => rfl
  | n + 1, x, y => by
    show rootN n (rootS (add4 x y)) = _
    rw [rootS_add]
    exact rootN_addQ n _ _
theorem rootN_subQ : ∀ (n : Nat) (x y : Q4), rootN n (sub4 x y) = sub4 (rootN n x) (rootN n y)
  | 0, _, _ => rfl
  | n + 1, x, y => by
    show rootN n (rootS (sub4 x y)) = _
    rw [rootS_sub]
    exact rootN_subQ n _ _
theorem rootN_neg : ∀ (n : Nat) (x : Q4), rootN n (neg4 x) = neg4 (rootN n x)
  | 0, _ => rfl
  | n + 1, x => by
    show rootN n (rootS (neg4 x)) = _
    rw [rootS_neg]
    exact rootN_neg n _
theorem rootN_conj : ∀ (n : Nat) (x : Q4), rootN n (conj4 x) = conj4 (rootN n x)
  | 0, _ => rfl
  | n + 1, x => by
    show rootN n (rootS (conj4 x)) = _
    rw [rootS_conj]
    exact rootN_conj n _
theorem rootN_mul : ∀ (n : Nat) (x y : Q4), mul4 (rootN n x) y = rootN n (mul4 x y)
  | 0, _, _ => rfl
  | n + 1, x, y => by
    show mul4 (rootN n (rootS x)) y = rootN n (rootS (mul4 x y))
    rw [rootN_mul n, rootS_mul]
theorem rootN_mul2 (n : Nat) (x y : Q4) : mul4 x (rootN n y) = rootN n (mul4 x y) := by rw [mul4_comm, rootN_mul, mul4_comm]
theorem rootN_mulm (n m : Nat) (x y : Q4) : mul4 (rootN n x) (rootN m y) = rootN (n + m) (mul4 x y) := by rw [rootN_mul, rootN_mul2, ← rootN_add, Nat.add_comm]
theorem rootN_zero : ∀ n : Nat, rootN n zero4 = zero4
  | 0 => rfl
  | n + 1 => rootN_zero n
theorem neg_neg4 (x : Q4) : neg4 (neg4 x) = x := by apply Q4.eq <;> (unfold neg4; dsimp only; omega)
/-- the sister over a power: its sign goes with the exponent -/
def sisN (n : Nat) (x : Q4) : Q4 := if n % 2 = 1 then neg4 (sis4 x) else sis4 x
theorem sis_root : ∀ (n : Nat) (x : Q4), sis4 (rootN n x) = (if n % 2 = 1 then neg4 (rootN n (sis4 x)) else rootN n (sis4 x))
  | 0, _ => rfl
  | n + 1, x => by
    show sis4 (rootN n (rootS x)) = _
    rw [sis_root n (rootS x), rootS_sis]
    show _ = (if (n + 1) % 2 = 1 then neg4 (rootN n (rootS (sis4 x))) else rootN n (rootS (sis4 x)))
    rw [rootN_neg]
    by_cases h : n % 2 = 1
    · rw [if_pos h, if_neg (by omega), neg_neg4]
    · rw [if_neg h, if_pos (by omega)]
/-- two roots double -/
theorem rootN_two (x : Q4) : rootS (rootS x) = scale4 2 x := by
  apply Q4.eq <;> (unfold rootS scale4; dsimp only; omega)
theorem scale_scale (n m : Int) (x : Q4) : scale4 n (scale4 m x) = scale4 (m * n) x := by
  apply Q4.eq <;> (unfold scale4; dsimp only; rw [Int.mul_assoc])
theorem scale_one (x : Q4) : scale4 1 x = x := by
  apply Q4.eq <;> (unfold scale4; dsimp only; omega)
theorem rootN_pow : ∀ (m : Nat) (x : Q4), rootN (2 * m) x = scale4 (2 ^ m) x
  | 0, x => (scale_one x).symm
  | m + 1, x => by
    show rootN (2 * m) (rootS (rootS x)) = _
    rw [rootN_pow m, rootN_two, scale_scale, Int.pow_succ, Int.mul_comm]
theorem rootN_pow1 (m : Nat) (x : Q4) : rootN (2 * m + 1) x = scale4 (2 ^ m) (rootS x) := rootN_pow m (rootS x)
/-! ### the reduction -/
def redQ (k : Nat) (x : Q4) : Q5 := redN k x.a x.b x.c x.d
theorem redQ_succ (k : Nat) (x : Q4) : redQ (k + 1) x = if (x.a + x.c) % 2 = 0 ∧ (x.b + x.d) % 2 = 0 then redQ k ⟨(x.b - x.d) / 2, (x.a + x.c) / 2, (x.b + x.d) / 2, (x.c - x.a) / 2⟩ else ⟨x.a, x.b, x.c, x.d, (k : Int) + 1⟩ := rfl
def ringQ (x : Q4) (k : Int) : Q5 := ringN x.a x.b x.c x.d k
theorem ringQ_eq (x : Q4) (k : Int) : ringQ x k = if x.a = 0 ∧ x.b = 0 ∧ x.c = 0 ∧ x.d = 0 then ⟨0, 0, 0, 0, 0⟩ else redQ k.toNat x := rfl
theorem red_zero : ∀ k : Nat, redQ k zero4 = ⟨0, 0, 0, 0, 0⟩
  | 0 => rfl
  | k + 1 => by
    rw [redQ_succ, if_pos ⟨rfl, rfl⟩]
    exact red_zero k
theorem ring_red (x : Q4) (k : Int) : ringQ x k = redQ k.toNat x := by
  rw [ringQ_eq]
  split
  · rename_i h
    have e : x = zero4 := Q4.eq h.1 h.2.1 h.2.2.1 h.2.2.2
    rw [e, red_zero]
  · rfl
def One (x : Q5) : Prop := 0 ≤ x.k ∧ (x.k = 0 ∨ ¬ ((x.a + x.c) % 2 = 0 ∧ (x.b + x.d) % 2 = 0))
theorem red_one : ∀ (k : Nat) (x : Q4), One (redQ k x)
  | 0, x => ⟨Int.le_refl 0, .inl rfl⟩
  | k + 1, x => by
    rw [redQ_succ]
    split
    · exact red_one k _
    · rename_i h
      exact ⟨by dsimp only; omega, .inr h⟩
theorem red_le : ∀ (k : Nat) (x : Q4), (redQ k x).k ≤ k
  | 0, x => Int.le_refl 0
  | k + 1, x => by
    rw [redQ_succ]
    split
    · have := red_le k ⟨(x.b - x.d) / 2, (x.a + x.c) / 2, (x.b + x.d) / 2, (x.c - x.a) / 2⟩
      omega
    · dsimp only; omega
theorem red_back : ∀ (k : Nat) (x : Q4), rootN ((k : Int) - (redQ k x).k).toNat (redQ k x).q = x
  | 0, x => rfl
  | k + 1, x => by
    rw [redQ_succ]
    split
    · rename_i h
      have ih := red_back k ⟨(x.b - x.d) / 2, (x.a + x.c) / 2, (x.b + x.d) / 2, (x.c - x.a) / 2⟩
      have hl := red_le k ⟨(x.b - x.d) / 2, (x.a + x.c) / 2, (x.b + x.d) / 2, (x.c - x.a) / 2⟩
      rw [show ((k + 1 : Nat) : Int) - (redQ k ⟨(x.b - x.d) / 2, (x.a + x.c) / 2, (x.b + x.d) / 2, (x.c - x.a) / 2⟩).k = ((k : Int) - (redQ k ⟨(x.b - x.d) / 2, (x.a + x.c) / 2, (x.b + x.d) / 2, (x.c - x.a) / 2⟩).k) + 1 by omega,
        show (((k : Int) - (redQ k ⟨(x.b - x.d) / 2, (x.a + x.c) / 2, (x.b + x.d) / 2, (x.c - x.a) / 2⟩).k) + 1).toNat = ((k : Int) - (redQ k ⟨(x.b - x.d) / 2, (x.a + x.c) / 2, (x.b + x.d) / 2, (x.c - x.a) / 2⟩).k).toNat + 1 by omega, rootN_succ, ih]
      apply Q4.eq <;> (unfold rootS; dsimp only; omega)
    · dsimp only
      rw [show ((k + 1 : Nat) : Int) - ((k : Int) + 1) = 0 by omega]
      rfl
theorem red_root (k : Nat) (x : Q4) : redQ (k + 1) (rootS x) = redQ k x := by
  rw [redQ_succ]
  unfold rootS
  rw [if_pos (by dsimp only; omega)]
  congr 1
  apply Q4.eq <;> (dsimp only; omega)
theorem red_rootN : ∀ (n k : Nat) (x : Q4), redQ (k + n) (rootN n x) = redQ k x
  | 0, k, x => rfl
  | n + 1, k, x => by
    show redQ (k + (n + 1)) (rootN n (rootS x)) = _
    rw [show k + (n + 1) = (k + 1) + n by omega, red_rootN n (k + 1) (rootS x), red_root]
theorem red_stay {x : Q5} (h : One x) : redQ x.k.toNat x.q = x := by
  obtain ⟨h0, h1⟩ := h
  cases x with
  | mk a b c d k =>
    dsimp only at h0 h1 ⊢
    obtain ⟨n, rfl⟩ : ∃ n : Nat, k = n := ⟨k.toNat, by omega⟩
    rw [Int.toNat_natCast]
    cases n with
    | zero => rfl
    | succ n =>
      show (if (a + c) % 2 = 0 ∧ (b + d) % 2 = 0 then _ else _) = _
      rw [if_neg (by omega)]
      rfl
/-! ### a number's value: its parts over a power -/
structure Val (t : Q5) (p : Q4) (k : Int) : Prop where
  one : One t
  le : t.k ≤ k
  eq : rootN (k - t.k).toNat t.q = p
theorem Val.nn {t : Q5} {p : Q4} {k : Int} (h : Val t p k) : 0 ≤ k := Int.le_trans h.one.1 h.le
theorem Val.self {t : Q5} (h : One t) : Val t t.q t.k := ⟨h, Int.le_refl _, by rw [Int.sub_self]; rfl⟩
theorem Val.of_red {p : Q4} (k : Nat) : Val (redQ k p) p k := ⟨red_one k p, red_le k p, red_back k p⟩
theorem Val.ring {p : Q4} {k : Int} (h : 0 ≤ k) : Val (ringQ p k) p k := by
  rw [ring_red]
  have z := Val.of_red (p := p) k.toNat
  rw [show (k.toNat : Int) = k by omega] at z
  exact z
theorem Val.is {t : Q5} {p : Q4} {k : Int} (h : Val t p k) : redQ k.toNat p = t := by
  obtain ⟨h1, h2, h3⟩ := h
  have h0 := h1.1
  rw [← h3, show k.toNat = t.k.toNat + (k - t.k).toNat by omega, red_rootN, red_stay h1]
theorem Val.inj {t u : Q5} {p : Q4} {k : Int} (h : Val t p k) (g : Val u p k) : t = u := h.is.symm.trans g.is
theorem Val.up {t : Q5} {p : Q4} {k : Int} (h : Val t p k) (n : Nat) : Val t (rootN n p) (k + n) := by
  refine ⟨h.one, by have := h.le; omega, ?_⟩
  have := h.le
  rw [show (k + n - t.k).toNat = (k - t.k).toNat + n by omega, rootN_add, h.eq]
theorem Val.to {t : Q5} {p : Q4} {k m : Int} (h : Val t p k) (hm : k ≤ m) : Val t (rootN (m - k).toNat p) m := by
  have z := h.up (m - k).toNat
  rw [show k + ((m - k).toNat : Int) = m by omega] at z
  exact z
theorem Val.cong {t : Q5} {p q : Q4} {k : Int} (h : Val t p k) (e : p = q) : Val t q k := e ▸ h
theorem Val.congK {t : Q5} {p : Q4} {k m : Int} (h : Val t p k) (e : k = m) : Val t p m := e ▸ h
/-! ### the operations -/
def negQ (x : Q5) : Q5 := ⟨-x.a, -x.b, -x.c, -x.d, x.k⟩
def conjQ (x : Q5) : Q5 := ⟨x.a, -x.d, -x.c, -x.b, x.k⟩
def sisQ (x : Q5) : Q5 := if x.k % 2 = 1 then ⟨-x.a, x.b, -x.c, x.d, x.k⟩ else ⟨x.a, -x.b, x.c, -x.d, x.k⟩
def sumQ (x y : Q5) : Q5 := if x.k < y.k then ringQ (add4 y.q (rootN (y.k - x.k).toNat x.q)) y.k else ringQ (add4 x.q (rootN (x.k - y.k).toNat y.q)) x.k
def prodQ (x y : Q5) : Q5 := ringQ (mul4 x.q y.q) (x.k + y.k)
theorem add4_comm (x y : Q4) : add4 x y = add4 y x := by apply Q4.eq <;> (unfold add4; dsimp only; omega)
theorem Val.sum {x y : Q5} {p q : Q4} {k : Int} (h : Val x p k) (g : Val y q k) : Val (sumQ x y) (add4 p q) k := by
  have hk := h.le
  have gk := g.le
  have h0 := h.one.1
  have g0 := g.one.1
  unfold sumQ
  by_cases c : x.k < y.k
  · rw [if_pos c]
    have z := (Val.ring (p := add4 y.q (rootN (y.k - x.k).toNat x.q)) g0).to gk
    refine z.cong ?_
    rw [rootN_addQ, ← rootN_add, g.eq, show (y.k - x.k).toNat + (k - y.k).toNat = (k - x.k).toNat by omega, h.eq, add4_comm]
  · rw [if_neg c]
    have z := (Val.ring (p := add4 x.q (rootN (x.k - y.k).toNat y.q)) h0).to hk
    refine z.cong ?_
    rw [rootN_addQ, ← rootN_add, h.eq, show (x.k - y.k).toNat + (k - x.k).toNat = (k - y.k).toNat by omega, g.eq]
theorem Val.neg {x : Q5} {p : Q4} {k : Int} (h : Val x p k) : Val (negQ x) (neg4 p) k := by
  refine ⟨⟨h.one.1, ?_⟩, h.le, ?_⟩
  · rcases h.one.2 with z | z
    · exact .inl z
    · refine .inr ?_
      show ¬ ((-x.a + -x.c) % 2 = 0 ∧ (-x.b + -x.d) % 2 = 0)
      omega
  · show rootN (k - x.k).toNat (neg4 x.q) = _
    rw [rootN_neg, h.eq]
theorem Val.conj {x : Q5} {p : Q4} {k : Int} (h : Val x p k) : Val (conjQ x) (conj4 p) k := by
  refine ⟨⟨h.one.1, ?_⟩, h.le, ?_⟩
  · rcases h.one.2 with z | z
    · exact .inl z
    · refine .inr ?_
      show ¬ ((x.a + -x.c) % 2 = 0 ∧ (-x.d + -x.b) % 2 = 0)
      omega
  · show rootN (k - x.k).toNat (conj4 x.q) = _
    rw [rootN_conj, h.eq]
theorem sisQ_q (x : Q5) : (sisQ x).q = (if x.k % 2 = 1 then neg4 (sis4 x.q) else sis4 x.q) ∧ (sisQ x).k = x.k := by
  unfold sisQ
  by_cases c : x.k % 2 = 1
  · rw [if_pos c, if_pos c]
    refine ⟨?_, rfl⟩
    apply Q4.eq
    · rfl
    · show x.b = -(-x.b); omega
    · rfl
    · show x.d = -(-x.d); omega
  · rw [if_neg c, if_neg c]
    exact ⟨rfl, rfl⟩
theorem Val.sis {x : Q5} {p : Q4} {k : Int} (h : Val x p k) : Val (sisQ x) (if k % 2 = 1 then neg4 (sis4 p) else sis4 p) k := by
  have h0 := h.one.1
  have hl := h.le
  refine ⟨⟨?_, ?_⟩, ?_, ?_⟩
  · rw [(sisQ_q x).2]; exact h0
  · unfold sisQ
    rcases h.one.2 with z | z
    · left
      split <;> exact z
    · right
      split
      · show ¬ ((-x.a + -x.c) % 2 = 0 ∧ (x.b + x.d) % 2 = 0)
        omega
      · show ¬ ((x.a + x.c) % 2 = 0 ∧ (-x.b + -x.d) % 2 = 0)
        omega
  · rw [(sisQ_q x).2]; exact hl
  · rw [(sisQ_q x).2, (sisQ_q x).1, ← h.eq, sis_root]
    by_cases c : x.k % 2 = 1 <;> by_cases c2 : k % 2 = 1
    · rw [if_pos c, if_pos c2, if_neg (show ¬ (k - x.k).toNat % 2 = 1 by omega), rootN_neg]
    · rw [if_pos c, if_neg c2, if_pos (show (k - x.k).toNat % 2 = 1 by omega), rootN_neg]
    · rw [if_neg c, if_pos c2, if_pos (show (k - x.k).toNat % 2 = 1 by omega), neg_neg4]
    · rw [if_neg c, if_neg c2, if_neg (show ¬ (k - x.k).toNat % 2 = 1 by omega)]
theorem Val.prod {x y : Q5} {p q : Q4} {k m : Int} (h : Val x p k) (g : Val y q m) : Val (prodQ x y) (mul4 p q) (k + m) := by
  have h0 := h.one.1
  have g0 := g.one.1
  have hl := h.le
  have gl := g.le
  unfold prodQ
  refine ((Val.ring (p := mul4 x.q y.q) (k := x.k + y.k) (by omega)).to (m := k + m) (by omega)).cong ?_
  rw [← h.eq, ← g.eq, rootN_mulm]
  congr 1
  omega
theorem Val.zero {k : Int} (h : 0 ≤ k) : Val ⟨0, 0, 0, 0, 0⟩ zero4 k := ⟨⟨Int.le_refl 0, .inl rfl⟩, h, rootN_zero _⟩
/-! ### sizes -/
def Bd (n : Nat) (x : Q4) : Prop := x.a.natAbs < 2 ^ n ∧ x.b.natAbs < 2 ^ n ∧ x.c.natAbs < 2 ^ n ∧ x.d.natAbs < 2 ^ n
theorem Bd.mono {n m : Nat} {x : Q4} (h : Bd n x) (l : n ≤ m) : Bd m x := by
  have e : 2 ^ n ≤ 2 ^ m := Nat.pow_le_pow_right (by decide) l
  obtain ⟨h1, h2, h3, h4⟩ := h
  exact ⟨by omega, by omega, by omega, by omega⟩
theorem Bd.add {n : Nat} {x y : Q4} (h : Bd n x) (g : Bd n y) : Bd (n + 1) (add4 x y) := by
  obtain ⟨h1, h2, h3, h4⟩ := h
  obtain ⟨g1, g2, g3, g4⟩ := g
  have e : 2 ^ (n + 1) = 2 * 2 ^ n := by rw [Nat.pow_succ]; omega
  unfold Bd add4
  dsimp only
  rw [e]
  exact ⟨by omega, by omega, by omega, by omega⟩
theorem Bd.sub {n : Nat} {x y : Q4} (h : Bd n x) (g : Bd n y) : Bd (n + 1) (sub4 x y) := by
  obtain ⟨h1, h2, h3, h4⟩ := h
  obtain ⟨g1, g2, g3, g4⟩ := g
  have e : 2 ^ (n + 1) = 2 * 2 ^ n := by rw [Nat.pow_succ]; omega
  unfold Bd sub4
  dsimp only
  rw [e]
  exact ⟨by omega, by omega, by omega, by omega⟩
theorem Bd.neg {n : Nat} {x : Q4} (h : Bd n x) : Bd n (neg4 x) := by
  obtain ⟨h1, h2, h3, h4⟩ := h
  unfold Bd neg4
  dsimp only
  exact ⟨by omega, by omega, by omega, by omega⟩
theorem Bd.conj {n : Nat} {x : Q4} (h : Bd n x) : Bd n (conj4 x) := by
  obtain ⟨h1, h2, h3, h4⟩ := h
  unfold Bd conj4
  dsimp only
  exact ⟨by omega, by omega, by omega, by omega⟩
theorem Bd.root {n : Nat} {x : Q4} (h : Bd n x) : Bd (n + 1) (rootS x) := by
  obtain ⟨h1, h2, h3, h4⟩ := h
  have e : 2 ^ (n + 1) = 2 * 2 ^ n := by rw [Nat.pow_succ]; omega
  unfold Bd rootS
  dsimp only
  rw [e]
  exact ⟨by omega, by omega, by omega, by omega⟩
theorem Bd.rootN {n : Nat} : ∀ (m : Nat) {x : Q4}, Bd n x → Bd (n + m) (rootN m x)
  | 0, _, h => h
  | m + 1, x, h => by
    rw [rootN_succ]
    exact (Bd.rootN m h).root
theorem mul_abs {n m : Nat} {x y : Int} (h : x.natAbs < 2 ^ n) (g : y.natAbs < 2 ^ m) : (x * y).natAbs < 2 ^ (n + m) := by
  rw [Int.natAbs_mul, Nat.pow_add]
  exact Nat.mul_lt_mul'' h g
theorem abs4 {M : Nat} {p q r s : Int} (hp : p.natAbs < M) (hq : q.natAbs < M) (hr : r.natAbs < M) (hs : s.natAbs < M) : (p - q - r - s).natAbs < 4 * M ∧ (p + q - r - s).natAbs < 4 * M ∧ (p + q + r - s).natAbs < 4 * M ∧ (p + q + r + s).natAbs < 4 * M := by omega
theorem Bd.mul {n m : Nat} {x y : Q4} (h : Bd n x) (g : Bd m y) : Bd (n + m + 2) (mul4 x y) := by
  obtain ⟨h1, h2, h3, h4⟩ := h
  obtain ⟨g1, g2, g3, g4⟩ := g
  have e : 2 ^ (n + m + 2) = 4 * 2 ^ (n + m) := by rw [Nat.pow_add _ (n + m), Nat.mul_comm]
  unfold Bd mul4
  dsimp only
  rw [e]
  exact ⟨(abs4 (mul_abs h1 g1) (mul_abs h2 g4) (mul_abs h3 g3) (mul_abs h4 g2)).1, (abs4 (mul_abs h1 g2) (mul_abs h2 g1) (mul_abs h3 g4) (mul_abs h4 g3)).2.1,
    (abs4 (mul_abs h1 g3) (mul_abs h2 g2) (mul_abs h3 g1) (mul_abs h4 g4)).2.2.1, (abs4 (mul_abs h1 g4) (mul_abs h2 g3) (mul_abs h3 g2) (mul_abs h4 g1)).2.2.2⟩
theorem Bd.red {n : Nat} : ∀ (k : Nat) {x : Q4}, Bd n x → Bd n (redQ k x).q
  | 0, _, h => h
  | k + 1, x, h => by
    rw [redQ_succ]
    split
    · rename_i hp
      refine Bd.red k ?_
      obtain ⟨h1, h2, h3, h4⟩ := h
      unfold Bd
      dsimp only
      exact ⟨by omega, by omega, by omega, by omega⟩
    · exact h
theorem Bd.ring {n : Nat} {x : Q4} (h : Bd n x) (k : Int) : Bd n (ringQ x k).q := by
  rw [ring_red]
  exact Bd.red _ h
theorem Bd.sum {n : Nat} {x y : Q5} (h : Bd n x.q) (g : Bd n y.q) (hx : 0 ≤ x.k) (hy : 0 ≤ y.k) (kx : x.k ≤ 100000) (ky : y.k ≤ 100000) : Bd (n + 100001) (sumQ x y).q := by
  unfold sumQ
  split
  · refine Bd.ring ?_ _
    exact ((g.mono (by omega)).add ((h.rootN _).mono (show n + (y.k - x.k).toNat ≤ n + 100000 by omega))).mono (by omega)
  · refine Bd.ring ?_ _
    exact ((h.mono (by omega)).add ((g.rootN _).mono (show n + (x.k - y.k).toNat ≤ n + 100000 by omega))).mono (by omega)
theorem Bd.prod {n m : Nat} {x y : Q5} (h : Bd n x.q) (g : Bd m y.q) : Bd (n + m + 2) (prodQ x y).q := Bd.ring (h.mul g) _
/-- factors of that size may be multiplied -/
theorem bits_le {x : Int} {n : Nat} (h : x.natAbs < 2 ^ n) : Builtin.Int.intBits x ≤ n + 1 := by
  have h1 : Builtin.Int.intBits x ≤ x.natAbs.log2 + 1 := by
    unfold Builtin.Int.intBits
    split <;> omega
  by_cases hn : n = 0
  · subst hn
    have e : x = 0 := by omega
    subst e
    exact h1
  · have := PySem.Flt.log2_lt_of (by omega) h
    omega
theorem mulx_of {x y : Int} {n m : Nat} (h : x.natAbs < 2 ^ n) (g : y.natAbs < 2 ^ m) (l : n + m ≤ 134000000) : CMulX x y := by
  have a := bits_le h
  have b := bits_le g
  show (Builtin.Int.intBits x : Int) + (Builtin.Int.intBits y : Int) ≤ 134217728
  omega
end Q

namespace Q
open PySem PySem.Spec PyProof.Rows L2 Evl Pm
local macro_rules | `(tactic| walk_at "side") => `(tactic| first | omega | decide | assumption | (refine ⟨?_, ?_⟩ <;> omega) | (refine ⟨?_, ?_⟩ <;> decide))
def R_parts_over : W → List Ag → W → D → Prop := fun w as w' r => w = [] ∧ w' = [] ∧ ∃ (x : Q5) (k : Int) (n : Nat), as = [.dat x.D, .dat (.int k)] ∧ (x.k ≤ k ∧ k - x.k ≤ 100000) ∧ n ≤ 1000000 ∧ Bd n x.q ∧ r = (rootN (k - x.k).toNat x.q).T
theorem r_parts_over {x : Q5} {k : Int} {n : Nat} (h : x.k ≤ k ∧ k - x.k ≤ 100000) (hn : n ≤ 1000000) (hx : Bd n x.q) : R_parts_over [] [.dat x.D, .dat (.int k)] [] (rootN (k - x.k).toNat x.q).T := ⟨rfl, rfl, x, k, n, rfl, h, hn, hx, rfl⟩
def R_parts_product : W → List Ag → W → D → Prop := fun w as w' r => w = [] ∧ w' = [] ∧ ∃ (x y : Q5) (n m : Nat), as = [.dat x.D, .dat y.D] ∧ n ≤ 1000000 ∧ m ≤ 1000000 ∧ Bd n x.q ∧ Bd m y.q ∧ r = (mul4 x.q y.q).T
theorem r_parts_product {x y : Q5} {n m : Nat} (hn : n ≤ 1000000) (hm : m ≤ 1000000) (hx : Bd n x.q) (hy : Bd m y.q) : R_parts_product [] [.dat x.D, .dat y.D] [] (mul4 x.q y.q).T := ⟨rfl, rfl, x, y, n, m, rfl, hn, hm, hx, hy, rfl⟩
def R_ring_sum : W → List Ag → W → D → Prop := fun w as w' r => w = [] ∧ w' = [] ∧ ∃ (x y : Q5) (n : Nat), as = [.dat x.D, .dat y.D] ∧ n ≤ 1000000 ∧ One x ∧ One y ∧ x.k ≤ 100000 ∧ y.k ≤ 100000 ∧ Bd n x.q ∧ Bd n y.q ∧ r = (sumQ x y).D
theorem r_ring_sum {x y : Q5} {n : Nat} (hn : n ≤ 1000000) (ox : One x) (oy : One y) (kx : x.k ≤ 100000) (ky : y.k ≤ 100000) (hx : Bd n x.q) (hy : Bd n y.q) : R_ring_sum [] [.dat x.D, .dat y.D] [] (sumQ x y).D := ⟨rfl, rfl, x, y, n, rfl, hn, ox, oy, kx, ky, hx, hy, rfl⟩
def R_ring_difference : W → List Ag → W → D → Prop := fun w as w' r => w = [] ∧ w' = [] ∧ ∃ (x y : Q5) (n : Nat), as = [.dat x.D, .dat y.D] ∧ n ≤ 1000000 ∧ One x ∧ One y ∧ x.k ≤ 100000 ∧ y.k ≤ 100000 ∧ Bd n x.q ∧ Bd n y.q ∧ r = (sumQ x (negQ y)).D
theorem r_ring_difference {x y : Q5} {n : Nat} (hn : n ≤ 1000000) (ox : One x) (oy : One y) (kx : x.k ≤ 100000) (ky : y.k ≤ 100000) (hx : Bd n x.q) (hy : Bd n y.q) : R_ring_difference [] [.dat x.D, .dat y.D] [] (sumQ x (negQ y)).D := ⟨rfl, rfl, x, y, n, rfl, hn, ox, oy, kx, ky, hx, hy, rfl⟩
def R_ring_product : W → List Ag → W → D → Prop := fun w as w' r => w = [] ∧ w' = [] ∧ ∃ (x y : Q5) (n m : Nat), as = [.dat x.D, .dat y.D] ∧ n ≤ 1000000 ∧ m ≤ 1000000 ∧ 0 ≤ x.k + y.k ∧ Bd n x.q ∧ Bd m y.q ∧ r = (prodQ x y).D
theorem r_ring_product {x y : Q5} {n m : Nat} (hn : n ≤ 1000000) (hm : m ≤ 1000000) (hk : 0 ≤ x.k + y.k) (hx : Bd n x.q) (hy : Bd m y.q) : R_ring_product [] [.dat x.D, .dat y.D] [] (prodQ x y).D := ⟨rfl, rfl, x, y, n, m, rfl, hn, hm, hk, hx, hy, rfl⟩
def R_ring_negative : W → List Ag → W → D → Prop := fun w as w' r => w = [] ∧ w' = [] ∧ ∃ (x : Q5), as = [.dat x.D] ∧ r = (negQ x).D
theorem r_ring_negative {x : Q5} : R_ring_negative [] [.dat x.D] [] (negQ x).D := ⟨rfl, rfl, x, rfl, rfl⟩
def R_ring_conjugate : W → List Ag → W → D → Prop := fun w as w' r => w = [] ∧ w' = [] ∧ ∃ (x : Q5), as = [.dat x.D] ∧ r = (conjQ x).D
theorem r_ring_conjugate {x : Q5} : R_ring_conjugate [] [.dat x.D] [] (conjQ x).D := ⟨rfl, rfl, x, rfl, rfl⟩
def R_ring_sister : W → List Ag → W → D → Prop := fun w as w' r => w = [] ∧ w' = [] ∧ ∃ (x : Q5), as = [.dat x.D] ∧ r = (sisQ x).D
theorem r_ring_sister {x : Q5} : R_ring_sister [] [.dat x.D] [] (sisQ x).D := ⟨rfl, rfl, x, rfl, rfl⟩
def R_ring_norm : W → List Ag → W → D → Prop := fun w as w' r => w = [] ∧ w' = [] ∧ ∃ (x : Q5) (n : Nat), as = [.dat x.D] ∧ n ≤ 1000000 ∧ 0 ≤ x.k ∧ Bd n x.q ∧ r = (prodQ x (conjQ x)).D
theorem r_ring_norm {x : Q5} {n : Nat} (hn : n ≤ 1000000) (hk : 0 ≤ x.k) (hx : Bd n x.q) : R_ring_norm [] [.dat x.D] [] (prodQ x (conjQ x)).D := ⟨rfl, rfl, x, n, rfl, hn, hk, hx, rfl⟩
def R_ring_exponent : W → List Ag → W → D → Prop := fun w as w' r => w = [] ∧ w' = [] ∧ ∃ (x : Q5), as = [.dat x.D] ∧ r = .int x.k
theorem r_ring_exponent {x : Q5} : R_ring_exponent [] [.dat x.D] [] (.int x.k) := ⟨rfl, rfl, x, rfl, rfl⟩
def omegas : List Q5 := [⟨1, 0, 0, 0, 0⟩, ⟨0, 1, 0, 0, 0⟩, ⟨0, 0, 1, 0, 0⟩, ⟨0, 0, 0, 1, 0⟩, ⟨-1, 0, 0, 0, 0⟩, ⟨0, -1, 0, 0, 0⟩, ⟨0, 0, -1, 0, 0⟩, ⟨0, 0, 0, -1, 0⟩]
abbrev omegasD : D := .tuple [num 1 0 0 0 0, num 0 1 0 0 0, num 0 0 1 0 0, num 0 0 0 1 0, num (-1) 0 0 0 0, num 0 (-1) 0 0 0, num 0 0 (-1) 0 0, num 0 0 0 (-1) 0]
def omegaQ (j : Int) : Q5 := omegas.getD (j % 8).toNat ⟨0, 0, 0, 0, 0⟩
theorem omega_item (j : Int) : itemD omegasD (j % 8) = some (omegaQ j).D := by
  unfold omegaQ
  rcases (by omega : j % 8 = 0 ∨ j % 8 = 1 ∨ j % 8 = 2 ∨ j % 8 = 3 ∨ j % 8 = 4 ∨ j % 8 = 5 ∨ j % 8 = 6 ∨ j % 8 = 7) with h | h | h | h | h | h | h | h <;> rw [h] <;> rfl
def R_omega_power : W → List Ag → W → D → Prop := fun w as w' r => w = [] ∧ w' = [] ∧ ∃ (j : Int), as = [.dat (.int j)] ∧ r = (omegaQ j).D
theorem r_omega_power {j : Int} : R_omega_power [] [.dat (.int j)] [] (omegaQ j).D := ⟨rfl, rfl, j, rfl, rfl⟩
def rootP (j : Int) : Q5 := if j < 0 then ⟨1, 0, 0, 0, -j⟩ else if j % 2 = 1 then ⟨0, 1 * 2 ^ (j / 2).toNat, 0, -(1 * 2 ^ (j / 2).toNat), 0⟩ else ⟨1 * 2 ^ (j / 2).toNat, 0, 0, 0, 0⟩
def R_root_power : W → List Ag → W → D → Prop := fun w as w' r => w = [] ∧ w' = [] ∧ ∃ (j : Int), as = [.dat (.int j)] ∧ j ≤ 100000 ∧ r = (rootP j).D
theorem r_root_power {j : Int} (hj : j ≤ 100000) : R_root_power [] [.dat (.int j)] [] (rootP j).D := ⟨rfl, rfl, j, rfl, hj, rfl⟩
theorem shaped5 (a b c d k : Int) : SeqAt.shaped (num a b c d k) = true := rfl
theorem eqv5 (x y : Q5) : PyData.eqv x.D y.D = decide (x = y) := by
  have e : PyData.eqv x.D y.D = (x.a == y.a && (x.b == y.b && (x.c == y.c && (x.d == y.d && (x.k == y.k && true))))) := by
    simp only [PyData.eqv, PyData.eqvAll]
  rw [e, Bool.eq_iff_iff]
  cases x
  cases y
  simp
theorem sum_zero_left {y : Q5} (h : One y) : sumQ ⟨0, 0, 0, 0, 0⟩ y = y := by
  refine ((Val.zero h.1).sum (Val.self h)).inj ((Val.self h).cong ?_)
  apply Q4.eq <;> (unfold add4 zero4; dsimp only; omega)
theorem sum_zero_right {x : Q5} (h : One x) : sumQ x ⟨0, 0, 0, 0, 0⟩ = x := by
  refine ((Val.self h).sum (Val.zero h.1)).inj ((Val.self h).cong ?_)
  apply Q4.eq <;> (unfold add4 zero4; dsimp only; omega)
section
variable {P : Program} {wd : World} {K : PySem.W.Frag} {mg : Str → Option Value} {base : Heap}
theorem ok_parts_over {f : Addr} {fd : FuncData} (F : Fun K "parts_over" "parts_over" s_parts_over f fd) : FnOk P wd K mg base CX0 1 f fd ["x", "k"] (spG K 2 R_parts_over) := by
  refine fn_ok F sc_parts_over fun cdv A outer s H E hr w as w' r hl dm h => ?_
  obtain ⟨rfl, rfl, x, k, n, rfl, hk, hn, hx, rfl⟩ := h
  clear hl dm
  have hN := sc_parts_over.nd
  have hl1 : n + (((k - x.k) / 2).toNat + 1) ≤ 134000000 := by omega
  have hl2 : n + 1 + (((k - x.k) / 2).toNat + 1) ≤ 134000000 := by omega
  obtain ⟨xa, xb, xc, xd⟩ := hx
  have hs : CShl 1 ((k - x.k) / 2) := ⟨by omega, by show (Builtin.Int.intBits 1 : Int) + (k - x.k) / 2 ≤ 2 ^ 27; have : (Builtin.Int.intBits 1 : Int) = 1 := by decide
                                                    omega⟩
  have hf : ((1 : Int) * 2 ^ ((k - x.k) / 2).toNat).natAbs < 2 ^ (((k - x.k) / 2).toNat + 1) := by
    rw [Int.one_mul, Int.natAbs_pow]
    exact Nat.pow_lt_pow_right (by decide) (by omega)
  refine Ws.rho (ρ' := [_, _, _, _, _, _, _, _, _]) rfl ?_
  refine Ws.cons (Wt.unT (is := [2, 3, 4, 5, 6]) (Ev.var 0 rfl) ?_ hN rfl (.cons (i := 2) rfl (.inl rfl) (.inr rfl) rfl (.cons (i := 3) rfl (.inl rfl) (.inr rfl) rfl (.cons (i := 4) rfl (.inl rfl) (.inr rfl) rfl (.cons (i := 5) rfl (.inl rfl) (.inr rfl) rfl (.cons (i := 6) rfl (.inl rfl) (.inr rfl) rfl .nil))))))
  refine Ws.rho (ρ' := [_, _, _, _, _, _, _, _, _]) rfl ?_
  refine Ws.cons (Wt.set 7 (Ev.bin (Ev.var 1 rfl) (Ev.var 6 rfl) od_sub) ?_ hN)
  refine Ws.rho (ρ' := [_, _, _, _, _, _, _, _, _]) rfl ?_
  refine Ws.cons (Wt.ite (EvT.cmp (Ev.bin (Ev.var 7 rfl) Ev.int (od_mod (by walk_at "side"))) Ev.int od_eq) (fun h1 => ?_) (fun h2 => ?_))
  ·
    have h1' : (k - x.k) % 2 = 1 := of_decide_eq_true h1
    obtain ⟨ya, yb, yc, yd⟩ := Bd.root (x := x.q) ⟨xa, xb, xc, xd⟩
    have ee : rootN (k - x.k).toNat x.q = scale4 (1 * 2 ^ ((k - x.k) / 2).toNat) (rootS x.q) := by
      rw [show (k - x.k).toNat = 2 * ((k - x.k) / 2).toNat + 1 by omega, rootN_pow1, Int.one_mul]
    refine Ws.cons (Wt.unT (is := [2, 3, 4, 5]) (Ev.tup (ds := [_, _, _, _]) (EvA.cons (Ev.bin (Ev.var 3 rfl) (Ev.var 5 rfl) od_sub) (EvA.cons (Ev.bin (Ev.var 2 rfl) (Ev.var 4 rfl) od_add) (EvA.cons (Ev.bin (Ev.var 3 rfl) (Ev.var 5 rfl) od_add) (EvA.cons (Ev.bin (Ev.var 4 rfl) (Ev.var 2 rfl) od_sub) EvA.nil))))) ?_ hN rfl (.cons (i := 2) rfl (.inl rfl) (.inr rfl) rfl (.cons (i := 3) rfl (.inl rfl) (.inr rfl) rfl (.cons (i := 4) rfl (.inl rfl) (.inr rfl) rfl (.cons (i := 5) rfl (.inl rfl) (.inr rfl) rfl .nil)))))
    refine Ws.nil ?_
    refine Ws.rho (ρ' := [_, _, _, _, _, _, _, _, _]) rfl ?_
    refine Ws.cons (Wt.set 8 (Ev.bin Ev.int (Ev.bin (Ev.var 7 rfl) Ev.int (od_div (by walk_at "side"))) (od_shlW hs)) ?_ hN)
    refine Ws.rho (ρ' := [_, _, _, _, _, _, _, _, _]) rfl ?_
    refine Ws.cons (Wt.ret (Ev.tup (ds := [_, _, _, _]) (EvA.cons (Ev.bin (Ev.var 2 rfl) (Ev.var 8 rfl) (od_mulX (mulx_of ya hf hl2))) (EvA.cons (Ev.bin (Ev.var 3 rfl) (Ev.var 8 rfl) (od_mulX (mulx_of yb hf hl2))) (EvA.cons (Ev.bin (Ev.var 4 rfl) (Ev.var 8 rfl) (od_mulX (mulx_of yc hf hl2))) (EvA.cons (Ev.bin (Ev.var 5 rfl) (Ev.var 8 rfl) (od_mulX (mulx_of yd hf hl2))) EvA.nil))))) ⟨by rw [ee]; rfl, rfl⟩)
  ·
    have h2' : ¬ (k - x.k) % 2 = 1 := of_decide_eq_false h2
    have ee : rootN (k - x.k).toNat x.q = scale4 (1 * 2 ^ ((k - x.k) / 2).toNat) x.q := by
      rw [show (k - x.k).toNat = 2 * ((k - x.k) / 2).toNat by omega, rootN_pow, Int.one_mul]
    refine Ws.nil ?_
    refine Ws.rho (ρ' := [_, _, _, _, _, _, _, _, _]) rfl ?_
    refine Ws.cons (Wt.set 8 (Ev.bin Ev.int (Ev.bin (Ev.var 7 rfl) Ev.int (od_div (by walk_at "side"))) (od_shlW hs)) ?_ hN)
    refine Ws.rho (ρ' := [_, _, _, _, _, _, _, _, _]) rfl ?_
    refine Ws.cons (Wt.ret (Ev.tup (ds := [_, _, _, _]) (EvA.cons (Ev.bin (Ev.var 2 rfl) (Ev.var 8 rfl) (od_mulX (mulx_of xa hf hl1))) (EvA.cons (Ev.bin (Ev.var 3 rfl) (Ev.var 8 rfl) (od_mulX (mulx_of xb hf hl1))) (EvA.cons (Ev.bin (Ev.var 4 rfl) (Ev.var 8 rfl) (od_mulX (mulx_of xc hf hl1))) (EvA.cons (Ev.bin (Ev.var 5 rfl) (Ev.var 8 rfl) (od_mulX (mulx_of xd hf hl1))) EvA.nil))))) ⟨by rw [ee]; rfl, rfl⟩)

theorem ok_parts_product {f : Addr} {fd : FuncData} (F : Fun K "parts_product" "parts_product" s_parts_product f fd) : FnOk P wd K mg base CX0 1 f fd ["x", "y"] (spG K 2 R_parts_product) := by
  refine fn_ok F sc_parts_product fun cdv A outer s H E hr w as w' r hl dm h => ?_
  obtain ⟨rfl, rfl, x, y, n, m, rfl, hn, hm, hx, hy, rfl⟩ := h
  clear hl dm
  have hN := sc_parts_product.nd
  have hl2 : n + m ≤ 134000000 := by omega
  obtain ⟨xa, xb, xc, xd⟩ := hx
  obtain ⟨ya, yb, yc, yd⟩ := hy
  refine Ws.rho (ρ' := [_, _, _, _, _, _, _, _, _, _, _]) rfl ?_
  refine Ws.cons (Wt.unT (is := [2, 3, 4, 5, 6]) (Ev.var 0 rfl) ?_ hN rfl (.cons (i := 2) rfl (.inl rfl) (.inr rfl) rfl (.cons (i := 3) rfl (.inl rfl) (.inr rfl) rfl (.cons (i := 4) rfl (.inl rfl) (.inr rfl) rfl (.cons (i := 5) rfl (.inl rfl) (.inr rfl) rfl (.cons (i := 6) rfl (.inl rfl) (.inr rfl) rfl .nil))))))
  refine Ws.rho (ρ' := [_, _, _, _, _, _, _, _, _, _, _]) rfl ?_
  refine Ws.cons (Wt.unT (is := [7, 8, 9, 10, 6]) (Ev.var 1 rfl) ?_ hN rfl (.cons (i := 7) rfl (.inl rfl) (.inr rfl) rfl (.cons (i := 8) rfl (.inl rfl) (.inr rfl) rfl (.cons (i := 9) rfl (.inl rfl) (.inr rfl) rfl (.cons (i := 10) rfl (.inl rfl) (.inr rfl) rfl (.cons (i := 6) rfl (.inl rfl) (.inr rfl) rfl .nil))))))
  refine Ws.rho (ρ' := [_, _, _, _, _, _, _, _, _, _, _]) rfl ?_
  refine Ws.cons (Wt.ret (Ev.tup (ds := [_, _, _, _]) (EvA.cons (Ev.bin (Ev.bin (Ev.bin (Ev.bin (Ev.var 2 rfl) (Ev.var 7 rfl) (od_mulX (mulx_of xa ya hl2))) (Ev.bin (Ev.var 3 rfl) (Ev.var 10 rfl) (od_mulX (mulx_of xb yd hl2))) od_sub) (Ev.bin (Ev.var 4 rfl) (Ev.var 9 rfl) (od_mulX (mulx_of xc yc hl2))) od_sub) (Ev.bin (Ev.var 5 rfl) (Ev.var 8 rfl) (od_mulX (mulx_of xd yb hl2))) od_sub) (EvA.cons (Ev.bin (Ev.bin (Ev.bin (Ev.bin (Ev.var 2 rfl) (Ev.var 8 rfl) (od_mulX (mulx_of xa yb hl2))) (Ev.bin (Ev.var 3 rfl) (Ev.var 7 rfl) (od_mulX (mulx_of xb ya hl2))) od_add) (Ev.bin (Ev.var 4 rfl) (Ev.var 10 rfl) (od_mulX (mulx_of xc yd hl2))) od_sub) (Ev.bin (Ev.var 5 rfl) (Ev.var 9 rfl) (od_mulX (mulx_of xd yc hl2))) od_sub) (EvA.cons (Ev.bin (Ev.bin (Ev.bin (Ev.bin (Ev.var 2 rfl) (Ev.var 9 rfl) (od_mulX (mulx_of xa yc hl2))) (Ev.bin (Ev.var 3 rfl) (Ev.var 8 rfl) (od_mulX (mulx_of xb yb hl2))) od_add) (Ev.bin (Ev.var 4 rfl) (Ev.var 7 rfl) (od_mulX (mulx_of xc ya hl2))) od_add) (Ev.bin (Ev.var 5 rfl) (Ev.var 10 rfl) (od_mulX (mulx_of xd yd hl2))) od_sub) (EvA.cons (Ev.bin (Ev.bin (Ev.bin (Ev.bin (Ev.var 2 rfl) (Ev.var 10 rfl) (od_mulX (mulx_of xa yd hl2))) (Ev.bin (Ev.var 3 rfl) (Ev.var 9 rfl) (od_mulX (mulx_of xb yc hl2))) od_add) (Ev.bin (Ev.var 4 rfl) (Ev.var 8 rfl) (od_mulX (mulx_of xc yb hl2))) od_add) (Ev.bin (Ev.var 5 rfl) (Ev.var 7 rfl) (od_mulX (mulx_of xd ya hl2))) od_add) EvA.nil))))) ⟨rfl, rfl⟩)

theorem ok_ring_sum {f : Addr} {fd : FuncData} (F : Fun K "ring_sum" "ring_sum" s_ring_sum f fd) (G_ZERO : Glob K mg "ZERO" (num 0 0 0 0 0)) (C_parts_over : Cal P wd K mg base 1 "parts_over" 2 R_parts_over) (C_ring_number : Cal P wd K mg base 1 "ring_number" 5 R_ring_number) : FnOk P wd K mg base CX0 2 f fd ["x", "y"] (spG K 2 R_ring_sum) := by
  refine fn_ok F sc_ring_sum fun cdv A outer s H E hr w as w' r hl dm h => ?_
  obtain ⟨rfl, rfl, x, y, n, rfl, hn, ox, oy, kx, ky, hx, hy, rfl⟩ := h
  clear hl dm
  have hN := sc_ring_sum.nd
  have x0 := ox.1
  have y0 := oy.1
  refine Ws.rho (ρ' := [_, _, _, _, _, _, _, _, _, _, _]) rfl ?_
  refine Ws.cons (Wt.ite (EvT.cmp (Ev.var 0 rfl) (Ev.globC G_ZERO) (od_eqD hr.units (shaped5 _ _ _ _ _) (shaped5 _ _ _ _ _))) (fun h1 => ?_) (fun h2 => ?_))
  ·
    replace h1 : PyData.eqv x.D (Q5.D ⟨0, 0, 0, 0, 0⟩) = true := h1
    rw [eqv5] at h1
    have e : x = ⟨0, 0, 0, 0, 0⟩ := of_decide_eq_true h1
    refine Ws.cons (Wt.ret (Ev.var 1 rfl) ⟨?_, rfl⟩)
    rw [e, sum_zero_left oy]
  ·
    refine Ws.nil ?_
    refine Ws.rho (ρ' := [_, _, _, _, _, _, _, _, _, _, _]) rfl ?_
    refine Ws.cons (Wt.ite (EvT.cmp (Ev.var 1 rfl) (Ev.globC G_ZERO) (od_eqD hr.units (shaped5 _ _ _ _ _) (shaped5 _ _ _ _ _))) (fun h3 => ?_) (fun h4 => ?_))
    ·
      replace h3 : PyData.eqv y.D (Q5.D ⟨0, 0, 0, 0, 0⟩) = true := h3
      rw [eqv5] at h3
      have e : y = ⟨0, 0, 0, 0, 0⟩ := of_decide_eq_true h3
      refine Ws.cons (Wt.ret (Ev.var 0 rfl) ⟨?_, rfl⟩)
      rw [e, sum_zero_right ox]
    ·
      refine Ws.nil ?_
      refine Ws.rho (ρ' := [_, _, _, _, _, _, _, _, _, _, _]) rfl ?_
      refine Ws.cons (Wt.ite (EvT.cmp (Ev.ix (Ev.var 0 rfl) Ev.int) (Ev.ix (Ev.var 1 rfl) Ev.int) od_lt) (fun h5 => ?_) (fun h6 => ?_))
      ·
        have h5' : x.k < y.k := of_decide_eq_true h5
        have es : sumQ x y = ringQ (add4 y.q (rootN (y.k - x.k).toNat x.q)) y.k := if_pos h5'
        rw [es]
        refine Ws.cons (Wt.par 0 1 (Ev.var 1 rfl) (Ev.var 0 rfl) ?_ rfl hN)
        refine Ws.nil ?_
        refine Ws.rho (ρ' := [_, _, _, _, _, _, _, _, _, _, _]) rfl ?_
        refine Ws.cons (Wt.unT (is := [2, 3, 4, 5, 6]) (Ev.var 0 rfl) ?_ hN rfl (.cons (i := 2) rfl (.inl rfl) (.inr rfl) rfl (.cons (i := 3) rfl (.inl rfl) (.inr rfl) rfl (.cons (i := 4) rfl (.inl rfl) (.inr rfl) rfl (.cons (i := 5) rfl (.inl rfl) (.inr rfl) rfl (.cons (i := 6) rfl (.inl rfl) (.inr rfl) rfl .nil))))))
        refine Ws.rho (ρ' := [_, _, _, _, _, _, _, _, _, _, _]) rfl ?_
        refine Ws.cons (Wt.unT (is := [7, 8, 9, 10]) (Ev.callC C_parts_over hr (EvA.cons (Ev.var 1 rfl) (EvA.cons (Ev.var 6 rfl) EvA.nil)) (r_parts_over (x := x) (k := y.k) (n := n) ⟨by omega, by omega⟩ hn hx)) ?_ hN rfl (.cons (i := 7) rfl (.inl rfl) (.inr rfl) rfl (.cons (i := 8) rfl (.inl rfl) (.inr rfl) rfl (.cons (i := 9) rfl (.inl rfl) (.inr rfl) rfl (.cons (i := 10) rfl (.inl rfl) (.inr rfl) rfl .nil)))))
        refine Ws.rho (ρ' := [_, _, _, _, _, _, _, _, _, _, _]) rfl ?_
        generalize rootN (y.k - x.k).toNat x.q = z
        refine Ws.cons (Wt.ret (Ev.callC C_ring_number hr (EvA.cons (Ev.bin (Ev.var 2 rfl) (Ev.var 7 rfl) od_add) (EvA.cons (Ev.bin (Ev.var 3 rfl) (Ev.var 8 rfl) od_add) (EvA.cons (Ev.bin (Ev.var 4 rfl) (Ev.var 9 rfl) od_add) (EvA.cons (Ev.bin (Ev.var 5 rfl) (Ev.var 10 rfl) od_add) (EvA.cons (Ev.var 6 rfl) EvA.nil))))) (r_ring_number oy.1)) ⟨rfl, rfl⟩)
      ·
        have h6' : ¬ x.k < y.k := of_decide_eq_false h6
        have es : sumQ x y = ringQ (add4 x.q (rootN (x.k - y.k).toNat y.q)) x.k := if_neg h6'
        rw [es]
        refine Ws.nil ?_
        refine Ws.cons (Wt.unT (is := [2, 3, 4, 5, 6]) (Ev.var 0 rfl) ?_ hN rfl (.cons (i := 2) rfl (.inl rfl) (.inr rfl) rfl (.cons (i := 3) rfl (.inl rfl) (.inr rfl) rfl (.cons (i := 4) rfl (.inl rfl) (.inr rfl) rfl (.cons (i := 5) rfl (.inl rfl) (.inr rfl) rfl (.cons (i := 6) rfl (.inl rfl) (.inr rfl) rfl .nil))))))
        refine Ws.rho (ρ' := [_, _, _, _, _, _, _, _, _, _, _]) rfl ?_
        refine Ws.cons (Wt.unT (is := [7, 8, 9, 10]) (Ev.callC C_parts_over hr (EvA.cons (Ev.var 1 rfl) (EvA.cons (Ev.var 6 rfl) EvA.nil)) (r_parts_over (x := y) (k := x.k) (n := n) ⟨by omega, by omega⟩ hn hy)) ?_ hN rfl (.cons (i := 7) rfl (.inl rfl) (.inr rfl) rfl (.cons (i := 8) rfl (.inl rfl) (.inr rfl) rfl (.cons (i := 9) rfl (.inl rfl) (.inr rfl) rfl (.cons (i := 10) rfl (.inl rfl) (.inr rfl) rfl .nil)))))
        refine Ws.rho (ρ' := [_, _, _, _, _, _, _, _, _, _, _]) rfl ?_
        generalize rootN (x.k - y.k).toNat y.q = z
        refine Ws.cons (Wt.ret (Ev.callC C_ring_number hr (EvA.cons (Ev.bin (Ev.var 2 rfl) (Ev.var 7 rfl) od_add) (EvA.cons (Ev.bin (Ev.var 3 rfl) (Ev.var 8 rfl) od_add) (EvA.cons (Ev.bin (Ev.var 4 rfl) (Ev.var 9 rfl) od_add) (EvA.cons (Ev.bin (Ev.var 5 rfl) (Ev.var 10 rfl) od_add) (EvA.cons (Ev.var 6 rfl) EvA.nil))))) (r_ring_number ox.1)) ⟨rfl, rfl⟩)

theorem ok_ring_negative {f : Addr} {fd : FuncData} (F : Fun K "ring_negative" "ring_negative" s_ring_negative f fd) : FnOk P wd K mg base CX0 1 f fd ["x"] (spG K 1 R_ring_negative) := by
  refine fn_ok F sc_ring_negative fun cdv A outer s H E hr w as w' r hl dm h => ?_
  obtain ⟨rfl, rfl, x, rfl, rfl⟩ := h
  clear hl dm
  have hN := sc_ring_negative.nd
  refine Ws.rho (ρ' := [_, _, _, _, _, _]) rfl ?_
  refine Ws.cons (Wt.unT (is := [1, 2, 3, 4, 5]) (Ev.var 0 rfl) ?_ hN rfl (.cons (i := 1) rfl (.inl rfl) (.inr rfl) rfl (.cons (i := 2) rfl (.inl rfl) (.inr rfl) rfl (.cons (i := 3) rfl (.inl rfl) (.inr rfl) rfl (.cons (i := 4) rfl (.inl rfl) (.inr rfl) rfl (.cons (i := 5) rfl (.inl rfl) (.inr rfl) rfl .nil))))))
  refine Ws.rho (ρ' := [_, _, _, _, _, _]) rfl ?_
  refine Ws.cons (Wt.ret (Ev.tup (ds := [_, _, _, _, _]) (EvA.cons (Ev.neg (Ev.var 1 rfl)) (EvA.cons (Ev.neg (Ev.var 2 rfl)) (EvA.cons (Ev.neg (Ev.var 3 rfl)) (EvA.cons (Ev.neg (Ev.var 4 rfl)) (EvA.cons (Ev.var 5 rfl) EvA.nil)))))) ⟨rfl, rfl⟩)

theorem ok_ring_conjugate {f : Addr} {fd : FuncData} (F : Fun K "ring_conjugate" "ring_conjugate" s_ring_conjugate f fd) : FnOk P wd K mg base CX0 1 f fd ["x"] (spG K 1 R_ring_conjugate) := by
  refine fn_ok F sc_ring_conjugate fun cdv A outer s H E hr w as w' r hl dm h => ?_
  obtain ⟨rfl, rfl, x, rfl, rfl⟩ := h
  clear hl dm
  have hN := sc_ring_conjugate.nd
  refine Ws.rho (ρ' := [_, _, _, _, _, _]) rfl ?_
  refine Ws.cons (Wt.unT (is := [1, 2, 3, 4, 5]) (Ev.var 0 rfl) ?_ hN rfl (.cons (i := 1) rfl (.inl rfl) (.inr rfl) rfl (.cons (i := 2) rfl (.inl rfl) (.inr rfl) rfl (.cons (i := 3) rfl (.inl rfl) (.inr rfl) rfl (.cons (i := 4) rfl (.inl rfl) (.inr rfl) rfl (.cons (i := 5) rfl (.inl rfl) (.inr rfl) rfl .nil))))))
  refine Ws.rho (ρ' := [_, _, _, _, _, _]) rfl ?_
  refine Ws.cons (Wt.ret (Ev.tup (ds := [_, _, _, _, _]) (EvA.cons (Ev.var 1 rfl) (EvA.cons (Ev.neg (Ev.var 4 rfl)) (EvA.cons (Ev.neg (Ev.var 3 rfl)) (EvA.cons (Ev.neg (Ev.var 2 rfl)) (EvA.cons (Ev.var 5 rfl) EvA.nil)))))) ⟨rfl, rfl⟩)

theorem ok_ring_sister {f : Addr} {fd : FuncData} (F : Fun K "ring_sister" "ring_sister" s_ring_sister f fd) : FnOk P wd K mg base CX0 1 f fd ["x"] (spG K 1 R_ring_sister) := by
  refine fn_ok F sc_ring_sister fun cdv A outer s H E hr w as w' r hl dm h => ?_
  obtain ⟨rfl, rfl, x, rfl, rfl⟩ := h
  clear hl dm
  have hN := sc_ring_sister.nd
  refine Ws.rho (ρ' := [_, _, _, _, _, _]) rfl ?_
  refine Ws.cons (Wt.unT (is := [1, 2, 3, 4, 5]) (Ev.var 0 rfl) ?_ hN rfl (.cons (i := 1) rfl (.inl rfl) (.inr rfl) rfl (.cons (i := 2) rfl (.inl rfl) (.inr rfl) rfl (.cons (i := 3) rfl (.inl rfl) (.inr rfl) rfl (.cons (i := 4) rfl (.inl rfl) (.inr rfl) rfl (.cons (i := 5) rfl (.inl rfl) (.inr rfl) rfl .nil))))))
  refine Ws.rho (ρ' := [_, _, _, _, _, _]) rfl ?_
  refine Ws.cons (Wt.ite (EvT.cmp (Ev.bin (Ev.var 5 rfl) Ev.int (od_mod (by walk_at "side"))) Ev.int od_eq) (fun h1 => ?_) (fun h2 => ?_))
  ·
    refine Ws.cons (Wt.ret (Ev.tup (ds := [_, _, _, _, _]) (EvA.cons (Ev.neg (Ev.var 1 rfl)) (EvA.cons (Ev.var 2 rfl) (EvA.cons (Ev.neg (Ev.var 3 rfl)) (EvA.cons (Ev.var 4 rfl) (EvA.cons (Ev.var 5 rfl) EvA.nil)))))) ⟨?_, rfl⟩)
    unfold sisQ
    rw [if_pos (of_decide_eq_true h1)]
  ·
    refine Ws.nil ?_
    refine Ws.rho (ρ' := [_, _, _, _, _, _]) rfl ?_
    refine Ws.cons (Wt.ret (Ev.tup (ds := [_, _, _, _, _]) (EvA.cons (Ev.var 1 rfl) (EvA.cons (Ev.neg (Ev.var 2 rfl)) (EvA.cons (Ev.var 3 rfl) (EvA.cons (Ev.neg (Ev.var 4 rfl)) (EvA.cons (Ev.var 5 rfl) EvA.nil)))))) ⟨?_, rfl⟩)
    unfold sisQ
    rw [if_neg (of_decide_eq_false h2)]

theorem ok_ring_difference {f : Addr} {fd : FuncData} (F : Fun K "ring_difference" "ring_difference" s_ring_difference f fd) (C_ring_sum : Cal P wd K mg base 2 "ring_sum" 2 R_ring_sum) (C_ring_negative : Cal P wd K mg base 1 "ring_negative" 1 R_ring_negative) : FnOk P wd K mg base CX0 3 f fd ["x", "y"] (spG K 2 R_ring_difference) := by
  refine fn_ok F sc_ring_difference fun cdv A outer s H E hr w as w' r hl dm h => ?_
  obtain ⟨rfl, rfl, x, y, n, rfl, hn, ox, oy, kx, ky, hx, hy, rfl⟩ := h
  clear hl dm
  have hN := sc_ring_difference.nd
  refine Ws.rho (ρ' := [_, _]) rfl ?_
  refine Ws.cons (Wt.ret (Ev.callC C_ring_sum hr (EvA.cons (Ev.var 0 rfl) (EvA.cons (Ev.callC C_ring_negative hr (EvA.cons (Ev.var 1 rfl) EvA.nil) (r_ring_negative)) EvA.nil)) (r_ring_sum (y := negQ y) hn ox (Val.self oy).neg.one kx ky hx (Bd.neg (x := y.q) hy))) ⟨rfl, rfl⟩)

theorem ok_ring_product {f : Addr} {fd : FuncData} (F : Fun K "ring_product" "ring_product" s_ring_product f fd) (C_parts_product : Cal P wd K mg base 1 "parts_product" 2 R_parts_product) (C_ring_number : Cal P wd K mg base 1 "ring_number" 5 R_ring_number) : FnOk P wd K mg base CX0 2 f fd ["x", "y"] (spG K 2 R_ring_product) := by
  refine fn_ok F sc_ring_product fun cdv A outer s H E hr w as w' r hl dm h => ?_
  obtain ⟨rfl, rfl, x, y, n, m, rfl, hn, hm, hk, hx, hy, rfl⟩ := h
  clear hl dm
  have hN := sc_ring_product.nd
  refine Ws.rho (ρ' := [_, _, _, _, _, _]) rfl ?_
  refine Ws.cons (Wt.unT (is := [2, 3, 4, 5]) (Ev.callC C_parts_product hr (EvA.cons (Ev.var 0 rfl) (EvA.cons (Ev.var 1 rfl) EvA.nil)) (r_parts_product hn hm hx hy)) ?_ hN rfl (.cons (i := 2) rfl (.inl rfl) (.inr rfl) rfl (.cons (i := 3) rfl (.inl rfl) (.inr rfl) rfl (.cons (i := 4) rfl (.inl rfl) (.inr rfl) rfl (.cons (i := 5) rfl (.inl rfl) (.inr rfl) rfl .nil)))))
  refine Ws.rho (ρ' := [_, _, _, _, _, _]) rfl ?_
  refine Ws.cons (Wt.ret (Ev.callC C_ring_number hr (EvA.cons (Ev.var 2 rfl) (EvA.cons (Ev.var 3 rfl) (EvA.cons (Ev.var 4 rfl) (EvA.cons (Ev.var 5 rfl) (EvA.cons (Ev.bin (Ev.ix (Ev.var 0 rfl) Ev.int) (Ev.ix (Ev.var 1 rfl) Ev.int) od_add) EvA.nil))))) (r_ring_number hk)) ⟨rfl, rfl⟩)

theorem ok_ring_norm {f : Addr} {fd : FuncData} (F : Fun K "ring_norm" "ring_norm" s_ring_norm f fd) (C_ring_product : Cal P wd K mg base 2 "ring_product" 2 R_ring_product) (C_ring_conjugate : Cal P wd K mg base 1 "ring_conjugate" 1 R_ring_conjugate) : FnOk P wd K mg base CX0 3 f fd ["x"] (spG K 1 R_ring_norm) := by
  refine fn_ok F sc_ring_norm fun cdv A outer s H E hr w as w' r hl dm h => ?_
  obtain ⟨rfl, rfl, x, n, rfl, hn, hk, hx, rfl⟩ := h
  clear hl dm
  have hN := sc_ring_norm.nd
  refine Ws.rho (ρ' := [_]) rfl ?_
  refine Ws.cons (Wt.ret (Ev.callC C_ring_product hr (EvA.cons (Ev.var 0 rfl) (EvA.cons (Ev.callC C_ring_conjugate hr (EvA.cons (Ev.var 0 rfl) EvA.nil) (r_ring_conjugate)) EvA.nil)) (r_ring_product (x := x) (y := conjQ x) hn hn (by show 0 ≤ x.k + x.k; omega) hx (Bd.conj (x := x.q) hx))) ⟨rfl, rfl⟩)

theorem ok_ring_exponent {f : Addr} {fd : FuncData} (F : Fun K "ring_exponent" "ring_exponent" s_ring_exponent f fd) : FnOk P wd K mg base CX0 1 f fd ["x"] (spG K 1 R_ring_exponent) := by
  refine fn_ok F sc_ring_exponent fun cdv A outer s H E hr w as w' r hl dm h => ?_
  obtain ⟨rfl, rfl, x, rfl, rfl⟩ := h
  clear hl dm
  have hN := sc_ring_exponent.nd
  refine Ws.rho (ρ' := [_]) rfl ?_
  refine Ws.cons (Wt.ret (Ev.ix (Ev.var 0 rfl) Ev.int) ⟨rfl, rfl⟩)

theorem ok_omega_power {f : Addr} {fd : FuncData} (F : Fun K "omega_power" "omega_power" s_omega_power f fd) (G__OMEGA_POWERS : Glob K mg "_OMEGA_POWERS" omegasD) : FnOk P wd K mg base CX0 1 f fd ["j"] (spG K 1 R_omega_power) := by
  refine fn_ok F sc_omega_power fun cdv A outer s H E hr w as w' r hl dm h => ?_
  obtain ⟨rfl, rfl, j, rfl, rfl⟩ := h
  clear hl dm
  have hN := sc_omega_power.nd
  refine Ws.rho (ρ' := [_]) rfl ?_
  refine Ws.cons (Wt.ret (Ev.ix (Ev.globC G__OMEGA_POWERS) (Ev.bin (Ev.var 0 rfl) Ev.int (od_mod (by decide))) (omega_item j)) ⟨rfl, rfl⟩)

theorem ok_root_power {f : Addr} {fd : FuncData} (F : Fun K "root_power" "root_power" s_root_power f fd) : FnOk P wd K mg base CX0 1 f fd ["j"] (spG K 1 R_root_power) := by
  refine fn_ok F sc_root_power fun cdv A outer s H E hr w as w' r hl dm h => ?_
  obtain ⟨rfl, rfl, j, rfl, hj, rfl⟩ := h
  clear hl dm
  have hN := sc_root_power.nd
  refine Ws.rho (ρ' := [_, _]) rfl ?_
  refine Ws.cons (Wt.ite (EvT.cmp (Ev.var 0 rfl) Ev.int od_lt) (fun h1 => ?_) (fun h2 => ?_))
  ·
    have h1' : j < 0 := of_decide_eq_true h1
    have er : rootP j = ⟨1, 0, 0, 0, -j⟩ := if_pos h1'
    rw [er]
    refine Ws.cons (Wt.ret (Ev.tup (ds := [_, _, _, _, _]) (EvA.cons Ev.int (EvA.cons Ev.int (EvA.cons Ev.int (EvA.cons Ev.int (EvA.cons (Ev.neg (Ev.var 0 rfl)) EvA.nil)))))) ⟨rfl, rfl⟩)
  ·
    have h2' : ¬ j < 0 := of_decide_eq_false h2
    have hs : CShl 1 (j / 2) := ⟨by omega, by show (Builtin.Int.intBits 1 : Int) + j / 2 ≤ 2 ^ 27; have : (Builtin.Int.intBits 1 : Int) = 1 := by decide
                                              omega⟩
    refine Ws.nil ?_
    refine Ws.rho (ρ' := [_, _]) rfl ?_
    refine Ws.cons (Wt.set 1 (Ev.bin Ev.int (Ev.bin (Ev.var 0 rfl) Ev.int (od_div (by walk_at "side"))) (od_shlW hs)) ?_ hN)
    refine Ws.rho (ρ' := [_, _]) rfl ?_
    refine Ws.cons (Wt.ite (EvT.cmp (Ev.bin (Ev.var 0 rfl) Ev.int (od_mod (by walk_at "side"))) Ev.int od_eq) (fun h3 => ?_) (fun h4 => ?_))
    ·
      have er : rootP j = ⟨0, 1 * 2 ^ (j / 2).toNat, 0, -(1 * 2 ^ (j / 2).toNat), 0⟩ := (if_neg h2').trans (if_pos (of_decide_eq_true h3))
      rw [er]
      refine Ws.cons (Wt.ret (Ev.tup (ds := [_, _, _, _, _]) (EvA.cons Ev.int (EvA.cons (Ev.var 1 rfl) (EvA.cons Ev.int (EvA.cons (Ev.neg (Ev.var 1 rfl)) (EvA.cons Ev.int EvA.nil)))))) ⟨rfl, rfl⟩)
    ·
      have er : rootP j = ⟨1 * 2 ^ (j / 2).toNat, 0, 0, 0, 0⟩ := (if_neg h2').trans (if_neg (of_decide_eq_false h4))
      rw [er]
      refine Ws.nil ?_
      refine Ws.rho (ρ' := [_, _]) rfl ?_
      refine Ws.cons (Wt.ret (Ev.tup (ds := [_, _, _, _, _]) (EvA.cons (Ev.var 1 rfl) (EvA.cons Ev.int (EvA.cons Ev.int (EvA.cons Ev.int (EvA.cons Ev.int EvA.nil)))))) ⟨rfl, rfl⟩)
end
end Q

namespace Q
open PySem PySem.Spec PyProof.Rows L2 Evl Pm
local macro_rules | `(tactic| walk_at "side") => `(tactic| first | omega | decide | assumption | (refine ⟨?_, ?_⟩ <;> omega) | (refine ⟨?_, ?_⟩ <;> decide))
/-- the first four items -/
def Its (d : D) (x : Q4) : Prop := itemD d 0 = some (.int x.a) ∧ itemD d 1 = some (.int x.b) ∧ itemD d 2 = some (.int x.c) ∧ itemD d 3 = some (.int x.d)
theorem its4 (x : Q4) : Its x.T x := ⟨rfl, rfl, rfl, rfl⟩
theorem its5 (x : Q5) : Its x.D x.q := ⟨rfl, rfl, rfl, rfl⟩
def R__law_form : W → List Ag → W → D → Prop := fun w as w' r => w = [] ∧ w' = [] ∧ ∃ (a b c d k : Int), as = [.dat (.int a), .dat (.int b), .dat (.int c), .dat (.int d), .dat (.int k)] ∧ (0 ≤ k ∧ k ≤ 100000) ∧ r = (redQ k.toNat ⟨a, b, c, d⟩).D
theorem r__law_form {a b c d k : Int} (h : 0 ≤ k ∧ k ≤ 100000) : R__law_form [] [.dat (.int a), .dat (.int b), .dat (.int c), .dat (.int d), .dat (.int k)] [] (redQ k.toNat ⟨a, b, c, d⟩).D := ⟨rfl, rfl, a, b, c, d, k, rfl, h, rfl⟩
def R__law_add : W → List Ag → W → D → Prop := fun w as w' r => w = [] ∧ w' = [] ∧ ∃ (x y : Q4), as = [.dat x.T, .dat y.T] ∧ r = (add4 x y).T
theorem r__law_add {x y : Q4} : R__law_add [] [.dat x.T, .dat y.T] [] (add4 x y).T := ⟨rfl, rfl, x, y, rfl, rfl⟩
def R__law_sub : W → List Ag → W → D → Prop := fun w as w' r => w = [] ∧ w' = [] ∧ ∃ (p q : D) (x y : Q4), as = [.dat p, .dat q] ∧ Its p x ∧ Its q y ∧ r = (sub4 x y).T
theorem r__law_sub {p q : D} {x y : Q4} (hp : Its p x) (hq : Its q y) : R__law_sub [] [.dat p, .dat q] [] (sub4 x y).T := ⟨rfl, rfl, p, q, x, y, rfl, hp, hq, rfl⟩
def R__law_turned : W → List Ag → W → D → Prop := fun w as w' r => w = [] ∧ w' = [] ∧ ∃ (p : D) (x : Q4) (j : Int), as = [.dat p, .dat (.int j)] ∧ Its p x ∧ r = (turnN (j % 8).toNat x).T
theorem r__law_turned {p : D} {x : Q4} {j : Int} (hp : Its p x) : R__law_turned [] [.dat p, .dat (.int j)] [] (turnN (j % 8).toNat x).T := ⟨rfl, rfl, p, x, j, rfl, hp, rfl⟩
def R__law_root : W → List Ag → W → D → Prop := fun w as w' r => w = [] ∧ w' = [] ∧ ∃ (p : D) (x : Q4) (n : Int), as = [.dat p, .dat (.int n)] ∧ Its p x ∧ (0 ≤ n ∧ n ≤ 1000000) ∧ r = (rootN n.toNat x).T
theorem r__law_root {p : D} {x : Q4} {n : Int} (hp : Its p x) (hn : 0 ≤ n ∧ n ≤ 1000000) : R__law_root [] [.dat p, .dat (.int n)] [] (rootN n.toNat x).T := ⟨rfl, rfl, p, x, n, rfl, hp, hn, rfl⟩
def R__law_product : W → List Ag → W → D → Prop := fun w as w' r => w = [] ∧ w' = [] ∧ ∃ (p q : D) (x y : Q4) (n m : Nat), as = [.dat p, .dat q] ∧ Its p x ∧ Its q y ∧ n + m ≤ 134000000 ∧ Bd n x ∧ Bd m y ∧ r = (mul4 x y).T
theorem r__law_product {p q : D} {x y : Q4} {n m : Nat} (hp : Its p x) (hq : Its q y) (h : n + m ≤ 134000000) (hx : Bd n x) (hy : Bd m y) : R__law_product [] [.dat p, .dat q] [] (mul4 x y).T := ⟨rfl, rfl, p, q, x, y, n, m, rfl, hp, hq, h, hx, hy, rfl⟩
def R__law_sent : W → List Ag → W → D → Prop := fun w as w' r => w = [] ∧ w' = [] ∧ ∃ (p : D) (x : Q4), Its p x ∧ ((as = [.dat p, .dat (.int 7)] ∧ r = (conj4 x).T) ∨ (as = [.dat p, .dat (.int 5)] ∧ r = (sis4 x).T))
theorem r__law_sent7 {p : D} {x : Q4} (hp : Its p x) : R__law_sent [] [.dat p, .dat (.int 7)] [] (conj4 x).T := ⟨rfl, rfl, p, x, hp, .inl ⟨rfl, rfl⟩⟩
theorem r__law_sent5 {p : D} {x : Q4} (hp : Its p x) : R__law_sent [] [.dat p, .dat (.int 5)] [] (sis4 x).T := ⟨rfl, rfl, p, x, hp, .inr ⟨rfl, rfl⟩⟩
def R__law_is : W → List Ag → W → D → Prop := fun w as w' r => w = [] ∧ w' = [] ∧ ∃ (t : Q5) (p : Q4) (k : Int), as = [.dat t.D, .dat p.T, .dat (.int k)] ∧ Val t p k ∧ k ≤ 1000000 ∧ r = .bool true
theorem r__law_is {t : Q5} {p : Q4} {k : Int} (h : Val t p k) (hk : k ≤ 1000000) : R__law_is [] [.dat t.D, .dat p.T, .dat (.int k)] [] (.bool true) := ⟨rfl, rfl, t, p, k, rfl, h, hk, rfl⟩
def seqS (S : Src) : Nat → Src
  | 0 => S
  | n + 1 => (integer (seqS S n) 22).2
def valI (S : Src) (i : Nat) : Int := (integer (seqS S i) 22).1
def numQ (S : Src) : Q5 := redQ (many (seqS S 4) 9 1000).toNat ⟨valI S 0, valI S 1, valI S 2, valI S 3⟩
def numS (S : Src) : Src := manyS (seqS S 4) 9 1000
def R__law_number : W → List Ag → W → D → Prop := fun w as w' r => ∃ (p : Addr) (S : Src), w = [(p, S.L)] ∧ w' = [(p, (numS S).L)] ∧ as = [.own p] ∧ r = (numQ S).D
theorem r__law_number {p : Addr} {S : Src} : R__law_number [(p, S.L)] [.own p] [(p, (numS S).L)] (numQ S).D := ⟨p, S, rfl, rfl, rfl, rfl⟩
def setQ (x : Q5) (sp v : Int) : Q4 := ⟨if sp = 0 then x.a + 1 + v else x.a, if sp = 1 then x.b + 1 + v else x.b, if sp = 2 then x.c + 1 + v else x.c, if sp = 3 then x.d + 1 + v else x.d⟩
def partQ (S : Src) (x : Q5) : Q5 :=
  if draw S 6 = 0 then x else if draw S 6 = 1 then negQ x else if draw S 6 = 2 then redQ x.k.toNat (setQ x (draw (drawS S 6) 4) (draw (drawS (drawS S 6) 4) 3)) else numQ (drawS S 6)
def partS (S : Src) (x : Q5) : Src :=
  if draw S 6 = 0 then drawS S 6 else if draw S 6 = 1 then drawS S 6 else if draw S 6 = 2 then drawS (drawS (drawS S 6) 4) 3 else numS (drawS S 6)
def R__law_partner : W → List Ag → W → D → Prop := fun w as w' r => ∃ (p : Addr) (S : Src) (x : Q5), w = [(p, S.L)] ∧ w' = [(p, (partS S x).L)] ∧ as = [.own p, .dat x.D] ∧ (0 ≤ x.k ∧ x.k ≤ 100000) ∧ r = (partQ S x).D
theorem r__law_partner {p : Addr} {S : Src} {x : Q5} (h : 0 ≤ x.k ∧ x.k ≤ 100000) : R__law_partner [(p, S.L)] [.own p, .dat x.D] [(p, (partS S x).L)] (partQ S x).D := ⟨p, S, x, rfl, rfl, rfl, h, rfl⟩
section
variable {P : Program} {wd : World} {K : PySem.W.Frag} {mg : Str → Option Value} {base : Heap}
theorem ok__law_form {f : Addr} {fd : FuncData} (F : Fun K "_law_form" "_law_form" s__law_form f fd) (M : Blt mg) : FnOk P wd K mg base CX0 1 f fd ["a", "b", "c", "d", "k"] (spG K 5 R__law_form) := by
  refine fn_ok F sc__law_form fun cdv A outer s H E hr w as w' r hl dm h => ?_
  obtain ⟨rfl, rfl, a, b, c, d, k, rfl, hk, rfl⟩ := h
  clear hl dm
  have hN := sc__law_form.nd
  refine Ws.rho (ρ' := [_, _, _, _, _, _]) rfl ?_
  refine Ws.cons (Wt.cut (fun ρ w => w = [] ∧ ∃ (y : Q5) (x : Pm.Slot), ρ = [.dat (.int y.a), .dat (.int y.b), .dat (.int y.c), .dat (.int y.d), .dat (.int y.k), x] ∧ redQ k.toNat ⟨a, b, c, d⟩ = y)
    (Wt.forR1 5 (fun i ρ w => w = [] ∧ ∃ (y : Q4) (x : Pm.Slot), ρ = [.dat (.int y.a), .dat (.int y.b), .dat (.int y.c), .dat (.int y.d), .dat (.int (k - i)), x] ∧ redQ (k.toNat - i) y = redQ k.toNat ⟨a, b, c, d⟩) (EvA.cons (Ev.var 4 rfl) EvA.nil) ⟨by omega, by omega⟩ ⟨rfl, ⟨a, b, c, d⟩, _, by rw [show k - ((0 : Nat) : Int) = k by omega]; rfl, rfl⟩ ?_ ?_ .never rfl hN M.range) ?_)
  · rintro i ρ w hi ⟨rfl, y, x, rfl, e⟩
    refine Ws.rho (ρ' := [_, _, _, _, _, _]) rfl ?_
    rw [show k.toNat - i = (k.toNat - (i + 1)) + 1 by omega, redQ_succ] at e
    refine Ws.cons (Wt.ite (EvT.of (EvW.or (EvT.cmp (Ev.bin (Ev.intC (Ev.bin (Ev.var 0 rfl) (Ev.var 2 rfl) od_add) M.int) Ev.int (od_mod (by decide))) Ev.int od_eq) fun h3 => (EvW.or1 (EvT.cmp (Ev.bin (Ev.intC (Ev.bin (Ev.var 1 rfl) (Ev.var 3 rfl) od_add) M.int) Ev.int (od_mod (by decide))) Ev.int od_eq)))) (fun h1 => ?_) (fun h2 => ?_))
    · simp only [Bool.or_eq_true, decide_eq_true_eq] at h1
      rw [if_neg (by omega)] at e
      refine Ws.cons (Wt.brk ⟨rfl, ⟨y.a, y.b, y.c, y.d, k - i⟩, _, rfl, ?_⟩)
      rw [← e]
      congr 1
      omega
    · simp only [Bool.or_eq_false_iff, decide_eq_false_iff_not] at h2
      rw [if_pos (by omega)] at e
      refine Ws.nil ?_
      refine Ws.rho (ρ' := [_, _, _, _, _, _]) rfl ?_
      refine Ws.cons (Wt.unT (is := [0, 1, 2, 3, 4]) (Ev.tup (ds := [_, _, _, _, _]) (EvA.cons (Ev.bin (Ev.bin (Ev.var 1 rfl) (Ev.var 3 rfl) od_sub) Ev.int (od_div (by decide))) (EvA.cons (Ev.bin (Ev.bin (Ev.var 0 rfl) (Ev.var 2 rfl) od_add) Ev.int (od_div (by decide))) (EvA.cons (Ev.bin (Ev.bin (Ev.var 1 rfl) (Ev.var 3 rfl) od_add) Ev.int (od_div (by decide))) (EvA.cons (Ev.bin (Ev.bin (Ev.var 2 rfl) (Ev.var 0 rfl) od_sub) Ev.int (od_div (by decide))) (EvA.cons (Ev.bin (Ev.var 4 rfl) Ev.int od_sub) EvA.nil)))))) ?_ hN rfl (.cons (i := 0) rfl (.inl rfl) (.inr rfl) rfl (.cons (i := 1) rfl (.inl rfl) (.inr rfl) rfl (.cons (i := 2) rfl (.inl rfl) (.inr rfl) rfl (.cons (i := 3) rfl (.inl rfl) (.inr rfl) rfl (.cons (i := 4) rfl (.inl rfl) (.inr rfl) rfl .nil))))))
      refine Ws.nil ⟨rfl, ⟨(y.b - y.d) / 2, (y.a + y.c) / 2, (y.b + y.d) / 2, (y.c - y.a) / 2⟩, .dat (.int i), ?_, e⟩
      rw [show k - ((i + 1 : Nat) : Int) = k - i - 1 by omega]
      rfl
  · rintro ρ w ⟨rfl, y, x, rfl, e⟩
    rw [Nat.sub_self] at e
    refine ⟨rfl, ⟨y.a, y.b, y.c, y.d, 0⟩, x, ?_, e.symm⟩
    rw [show k - (k.toNat : Int) = 0 by omega]
  · rintro ρ w ⟨rfl, y, x, rfl, e⟩
    refine Ws.cons (Wt.ret (Ev.tup (ds := [_, _, _, _, _]) (EvA.cons (Ev.var 0 rfl) (EvA.cons (Ev.var 1 rfl) (EvA.cons (Ev.var 2 rfl) (EvA.cons (Ev.var 3 rfl) (EvA.cons (Ev.var 4 rfl) EvA.nil)))))) ⟨by rw [e], rfl⟩)
theorem ok__law_add {f : Addr} {fd : FuncData} (F : Fun K "_law_add" "_law_add" s__law_add f fd) : FnOk P wd K mg base CX0 1 f fd ["x", "y"] (spG K 2 R__law_add) := by
  refine fn_ok F sc__law_add fun cdv A outer s H E hr w as w' r hl dm h => ?_
  obtain ⟨rfl, rfl, x, y, rfl, rfl⟩ := h
  clear hl dm
  refine Ws.rho (ρ' := [_, _]) rfl ?_
  refine Ws.cons (Wt.ret (Ev.tup (ds := [_, _, _, _]) (EvA.cons (Ev.bin (Ev.ix (Ev.var 0 rfl) Ev.int) (Ev.ix (Ev.var 1 rfl) Ev.int) od_add) (EvA.cons (Ev.bin (Ev.ix (Ev.var 0 rfl) Ev.int) (Ev.ix (Ev.var 1 rfl) Ev.int) od_add) (EvA.cons (Ev.bin (Ev.ix (Ev.var 0 rfl) Ev.int) (Ev.ix (Ev.var 1 rfl) Ev.int) od_add) (EvA.cons (Ev.bin (Ev.ix (Ev.var 0 rfl) Ev.int) (Ev.ix (Ev.var 1 rfl) Ev.int) od_add) EvA.nil))))) ⟨rfl, rfl⟩)
theorem ok__law_sub {f : Addr} {fd : FuncData} (F : Fun K "_law_sub" "_law_sub" s__law_sub f fd) : FnOk P wd K mg base CX0 1 f fd ["x", "y"] (spG K 2 R__law_sub) := by
  refine fn_ok F sc__law_sub fun cdv A outer s H E hr w as w' r hl dm h => ?_
  obtain ⟨rfl, rfl, p, q, x, y, rfl, ⟨x0, x1, x2, x3⟩, ⟨y0, y1, y2, y3⟩, rfl⟩ := h
  clear hl dm
  refine Ws.rho (ρ' := [_, _]) rfl ?_
  refine Ws.cons (Wt.ret (Ev.tup (ds := [_, _, _, _]) (EvA.cons (Ev.bin (Ev.ix (Ev.var 0 rfl) Ev.int x0) (Ev.ix (Ev.var 1 rfl) Ev.int y0) od_sub) (EvA.cons (Ev.bin (Ev.ix (Ev.var 0 rfl) Ev.int x1) (Ev.ix (Ev.var 1 rfl) Ev.int y1) od_sub) (EvA.cons (Ev.bin (Ev.ix (Ev.var 0 rfl) Ev.int x2) (Ev.ix (Ev.var 1 rfl) Ev.int y2) od_sub) (EvA.cons (Ev.bin (Ev.ix (Ev.var 0 rfl) Ev.int x3) (Ev.ix (Ev.var 1 rfl) Ev.int y3) od_sub) EvA.nil))))) ⟨rfl, rfl⟩)
theorem ok__law_turned {f : Addr} {fd : FuncData} (F : Fun K "_law_turned" "_law_turned" s__law_turned f fd) (M : Blt mg) : FnOk P wd K mg base CX0 1 f fd ["x", "j"] (spG K 2 R__law_turned) := by
  refine fn_ok F sc__law_turned fun cdv A outer s H E hr w as w' r hl dm h => ?_
  obtain ⟨rfl, rfl, p, x, j, rfl, ⟨x0, x1, x2, x3⟩, rfl⟩ := h
  clear hl dm
  have hN := sc__law_turned.nd
  refine Ws.rho (ρ' := [_, _, _, _]) rfl ?_
  refine Ws.cons (Wt.set 2 (EvN.ev (EvN.lst (ds := [_, _, _, _]) (EvA.cons (Ev.ix (Ev.var 0 rfl) Ev.int x0) (EvA.cons (Ev.ix (Ev.var 0 rfl) Ev.int x1) (EvA.cons (Ev.ix (Ev.var 0 rfl) Ev.int x2) (EvA.cons (Ev.ix (Ev.var 0 rfl) Ev.int x3) EvA.nil)))))) ?_ hN)
  refine Ws.rho (ρ' := [_, _, _, _]) rfl ?_
  refine Ws.cons (Wt.forR1 3 (fun i ρ w => w = [] ∧ ∃ (y : Q4) (z : Pm.Slot), ρ = [.dat p, .dat (.int j), .dat (.list y.L), z] ∧ turnN ((j % 8).toNat - i) y = turnN (j % 8).toNat x) (EvA.cons (Ev.bin (Ev.intC (Ev.var 1 rfl) M.int) Ev.int (od_mod (by decide))) EvA.nil) ⟨by omega, by omega⟩ ⟨rfl, x, _, rfl, rfl⟩ ?_ ?_ .never rfl hN M.range)
  · rintro i ρ w hi ⟨rfl, y, z, rfl, e⟩
    refine Ws.rho (ρ' := [_, _, _, _]) rfl ?_
    refine Ws.cons (Wt.set 2 (EvN.ev (EvN.lst (ds := [_, _, _, _]) (EvA.cons (Ev.bin Ev.int (Ev.ix (Ev.var 2 rfl) Ev.int) od_sub) (EvA.cons (Ev.ix (Ev.var 2 rfl) Ev.int) (EvA.cons (Ev.ix (Ev.var 2 rfl) Ev.int) (EvA.cons (Ev.ix (Ev.var 2 rfl) Ev.int) EvA.nil)))))) ?_ hN)
    refine Ws.nil ⟨rfl, turn4 y, _, rfl, ?_⟩
    rw [← e, show (j % 8).toNat - i = ((j % 8).toNat - (i + 1)) + 1 by omega]
    rfl
  · rintro ρ w ⟨rfl, y, z, rfl, e⟩
    rw [Nat.sub_self] at e
    refine Ws.cons (Wt.ret (Ev.tup (ds := [_, _, _, _]) (EvA.cons (Ev.ix (Ev.var 2 rfl) Ev.int) (EvA.cons (Ev.ix (Ev.var 2 rfl) Ev.int) (EvA.cons (Ev.ix (Ev.var 2 rfl) Ev.int) (EvA.cons (Ev.ix (Ev.var 2 rfl) Ev.int) EvA.nil))))) ⟨?_, rfl⟩)
    rw [← e]
    rfl
theorem ok__law_root {f : Addr} {fd : FuncData} (F : Fun K "_law_root" "_law_root" s__law_root f fd) (M : Blt mg) : FnOk P wd K mg base CX0 1 f fd ["x", "n"] (spG K 2 R__law_root) := by
  refine fn_ok F sc__law_root fun cdv A outer s H E hr w as w' r hl dm h => ?_
  obtain ⟨rfl, rfl, p, x, n, rfl, ⟨x0, x1, x2, x3⟩, hn, rfl⟩ := h
  clear hl dm
  have hN := sc__law_root.nd
  refine Ws.rho (ρ' := [_, _, _, _]) rfl ?_
  refine Ws.cons (Wt.set 2 (EvN.ev (EvN.lst (ds := [_, _, _, _]) (EvA.cons (Ev.ix (Ev.var 0 rfl) Ev.int x0) (EvA.cons (Ev.ix (Ev.var 0 rfl) Ev.int x1) (EvA.cons (Ev.ix (Ev.var 0 rfl) Ev.int x2) (EvA.cons (Ev.ix (Ev.var 0 rfl) Ev.int x3) EvA.nil)))))) ?_ hN)
  refine Ws.rho (ρ' := [_, _, _, _]) rfl ?_
  refine Ws.cons (Wt.forR1 3 (fun i ρ w => w = [] ∧ ∃ (y : Q4) (z : Pm.Slot), ρ = [.dat p, .dat (.int n), .dat (.list y.L), z] ∧ rootN (n.toNat - i) y = rootN n.toNat x) (EvA.cons (Ev.var 1 rfl) EvA.nil) ⟨by omega, by omega⟩ ⟨rfl, x, _, rfl, rfl⟩ ?_ ?_ .never rfl hN M.range)
  · rintro i ρ w hi ⟨rfl, y, z, rfl, e⟩
    refine Ws.rho (ρ' := [_, _, _, _]) rfl ?_
    refine Ws.cons (Wt.set 2 (EvN.ev (EvN.lst (ds := [_, _, _, _]) (EvA.cons (Ev.bin (Ev.ix (Ev.var 2 rfl) Ev.int) (Ev.ix (Ev.var 2 rfl) Ev.int) od_sub) (EvA.cons (Ev.bin (Ev.ix (Ev.var 2 rfl) Ev.int) (Ev.ix (Ev.var 2 rfl) Ev.int) od_add) (EvA.cons (Ev.bin (Ev.ix (Ev.var 2 rfl) Ev.int) (Ev.ix (Ev.var 2 rfl) Ev.int) od_add) (EvA.cons (Ev.bin (Ev.ix (Ev.var 2 rfl) Ev.int) (Ev.ix (Ev.var 2 rfl) Ev.int) od_sub) EvA.nil)))))) ?_ hN)
    refine Ws.nil ⟨rfl, rootS y, _, rfl, ?_⟩
    rw [← e, show n.toNat - i = (n.toNat - (i + 1)) + 1 by omega]
    rfl
  · rintro ρ w ⟨rfl, y, z, rfl, e⟩
    rw [Nat.sub_self] at e
    refine Ws.cons (Wt.ret (Ev.tup (ds := [_, _, _, _]) (EvA.cons (Ev.ix (Ev.var 2 rfl) Ev.int) (EvA.cons (Ev.ix (Ev.var 2 rfl) Ev.int) (EvA.cons (Ev.ix (Ev.var 2 rfl) Ev.int) (EvA.cons (Ev.ix (Ev.var 2 rfl) Ev.int) EvA.nil))))) ⟨?_, rfl⟩)
    rw [← e]
    rfl
theorem eqvT (x y : Q4) : PyData.eqv x.T y.T = decide (x.a = y.a ∧ x.b = y.b ∧ x.c = y.c ∧ x.d = y.d) := by
  have e : PyData.eqv x.T y.T = (x.a == y.a && (x.b == y.b && (x.c == y.c && (x.d == y.d && true)))) := by
    simp only [PyData.eqv, PyData.eqvAll]
  rw [e, Bool.eq_iff_iff]
  simp
theorem ok__law_is {f : Addr} {fd : FuncData} (F : Fun K "_law_is" "_law_is" s__law_is f fd) (M : Blt mg) (C__law_root : Cal P wd K mg base 1 "_law_root" 2 R__law_root) : FnOk P wd K mg base CX0 2 f fd ["told", "parts", "k"] (spG K 3 R__law_is) := by
  refine fn_ok F sc__law_is fun cdv A outer s H E hr w as w' r hl dm h => ?_
  obtain ⟨rfl, rfl, t, p, k, rfl, hv, hk, rfl⟩ := h
  clear hl dm
  have hN := sc__law_is.nd
  obtain ⟨⟨v1, v2⟩, v3, v4⟩ := hv
  refine Ws.rho (ρ' := [_, _, _, _]) rfl ?_
  refine Ws.cons (Wt.skip (EvT.to (EvT.of (EvW.or (EvT.not (EvT.val (Ev.isi (k := true) (T := "tuple") (Ev.var 0 rfl) kit_tuple_tuple M.isinstance M.tuple bt_tuple))) fun h3 => (EvW.or1 (EvT.cmp (Ev.lenC (Ev.var 0 rfl) M.len) Ev.int od_ne)))) (by simp)) ?_)
  refine Ws.cons (Wt.forT 3 (fun i ρ w => w = [] ∧ ∃ (z : Pm.Slot), ρ = [.dat t.D, .dat p.T, .dat (.int k), z]) (Ev.var 0 rfl) ⟨rfl, _, rfl⟩ ?_ ?_ .never rfl hN)
  · rintro i y ρ w hi ⟨rfl, z, rfl⟩
    obtain ⟨n, rfl⟩ : ∃ n : Int, y = .int n := by
      have hm := List.mem_of_getElem? hi
      simp only [List.mem_cons, List.not_mem_nil, or_false] at hm
      rcases hm with rfl | rfl | rfl | rfl | rfl <;> exact ⟨_, rfl⟩
    refine Ws.rho (ρ' := [_, _, _, _]) rfl ?_
    refine Ws.cons (Wt.skip (EvT.to (EvT.of (EvW.or (EvT.not (EvT.val (Ev.isi (k := true) (T := "int") (Ev.var 3 rfl) kit_int_int M.isinstance M.int bt_int))) fun h6 => (EvW.or1 (EvT.val (Ev.isi (k := false) (T := "bool") (Ev.var 3 rfl) kit_int_bool M.isinstance M.bool bt_bool))))) (by simp)) ?_)
    exact Ws.nil ⟨rfl, _, rfl⟩
  · rintro ρ w ⟨rfl, z, rfl⟩
    refine Ws.cons (Wt.skip (EvT.to (EvT.not (EvT.chain Ev.int (ChT.link (Ev.ix (Ev.var 0 rfl) Ev.int) od_le fun h9 => (ChT.last (Ev.var 2 rfl) od_le)))) (by rw [decide_eq_true v1, decide_eq_true v3]; rfl)) ?_)
    refine Ws.cons (Wt.skip (EvT.to (EvT.of (EvW.and (EvT.cmp (Ev.ix (Ev.var 0 rfl) Ev.int) Ev.int od_gt) fun h12 => (EvW.and (EvT.cmp (Ev.bin (Ev.intC (Ev.bin (Ev.ix (Ev.var 0 rfl) Ev.int) (Ev.ix (Ev.var 0 rfl) Ev.int) od_add) M.int) Ev.int (od_mod (by decide))) Ev.int od_eq) fun h13 => (EvW.and1 (EvT.cmp (Ev.bin (Ev.intC (Ev.bin (Ev.ix (Ev.var 0 rfl) Ev.int) (Ev.ix (Ev.var 0 rfl) Ev.int) od_add) M.int) Ev.int (od_mod (by decide))) Ev.int od_eq))))) ?_) ?_)
    · rw [Bool.eq_false_iff]
      intro hh
      simp only [Bool.and_eq_true, decide_eq_true_eq] at hh
      omega
    · refine Ws.cons (Wt.ret (Ev.cmp (Ev.callC C__law_root hr (EvA.cons (Ev.var 0 rfl) (EvA.cons (Ev.bin (Ev.var 2 rfl) (Ev.ix (Ev.var 0 rfl) Ev.int) od_sub) EvA.nil)) (r__law_root (its5 t) ⟨by omega, by omega⟩)) (Ev.var 1 rfl) (od_eqD hr.units rfl rfl)) ⟨?_, rfl⟩)
      rw [eqvT, v4]
      simp
theorem ok__law_number {f : Addr} {fd : FuncData} (F : Fun K "_law_number" "_law_number" s__law_number f fd) (M : Blt mg) (C__law_integer : Cal P wd K mg base 2 "_law_integer" 2 R__law_integer) (C__law_many : Cal P wd K mg base 2 "_law_many" 3 R__law_many) (C__law_form : Cal P wd K mg base 1 "_law_form" 5 R__law_form) : FnOk P wd K mg base CX0 3 f fd ["source"] (spG K 1 R__law_number) := by
  refine fn_ok F sc__law_number fun cdv A outer s H E hr w as w' r hl dm h => ?_
  obtain ⟨ad, S, rfl, rfl, rfl, rfl⟩ := h
  clear hl dm
  have hN := sc__law_number.nd
  have hb := many_lt (seqS S 4) (a := 9) (b := 1000) (by decide) (by decide)
  refine Ws.rho (ρ' := [_, _, _]) rfl ?_
  refine Ws.cons (Wt.setRd 1 (compR_run 2 (ws := fun i => [(ad, (seqS S i).L)]) (ys := fun i => .int (valI S i)) (EvA.cons Ev.int EvA.nil) (by decide) (by decide) rfl (fun _ => rfl) (fun i hi s H0 C cl fp => (Ev.callCS 0 C__law_integer hr (EvA.own 0 rfl (EvA.cons Ev.int EvA.nil)) rfl (r__law_integer ⟨by decide, by decide⟩)))) (ps_compR 1 2 (blkOk_by (N := N__law_number) (sc := defScope s__law_number) (by decide +kernel)) rfl hN M.range) ?_)
  refine Ws.rho (ρ' := [_, .dat (.list [.int (valI S 0), .int (valI S 1), .int (valI S 2), .int (valI S 3)]), _]) rfl ?_
  refine Ws.wld (w' := [(ad, (seqS S 4).L)]) rfl ?_
  refine Ws.cons (Wt.ret (Ev.callC C__law_form hr (EvA.cons (Ev.ix (Ev.var 1 rfl) Ev.int) (EvA.cons (Ev.ix (Ev.var 1 rfl) Ev.int) (EvA.cons (Ev.ix (Ev.var 1 rfl) Ev.int) (EvA.cons (Ev.ix (Ev.var 1 rfl) Ev.int) (EvA.cons (Ev.callCS 0 C__law_many hr (EvA.own 0 rfl (EvA.cons Ev.int (EvA.cons Ev.int EvA.nil))) rfl (r__law_many ⟨by decide, by decide, by decide, by decide⟩)) EvA.nil))))) (r__law_form ⟨by omega, by omega⟩)) ⟨rfl, rfl⟩)
end
end Q

namespace Q
open PySem PySem.Spec PyProof.Rows L2 Evl Pm
theorem Unr.succ {X : Cx} {body : List Stmt} {E : DE} {j m i : Nat} {ρ : List Pm.Slot} {w : W} (h : Ws X body { E with nx := fun ρ w => Unr X body E j m (i + 1) ρ w, ct := fun ρ w => Unr X body E j m (i + 1) ρ w, bk := E.nx } (ρ.set j (.dat (.int (i : Int)))) w) : Unr X body E j (m + 1) i ρ w := h
theorem Unr.zero {X : Cx} {body : List Stmt} {E : DE} {j i : Nat} {ρ : List Pm.Slot} {w : W} (h : E.nx ρ w) : Unr X body E j 0 i ρ w := h
theorem T_eq {a b c d a' b' c' d' : Int} (h1 : a = a') (h2 : b = b') (h3 : c = c') (h4 : d = d') : (PyData.tuple [.int a, .int b, .int c, .int d]) = .tuple [.int a', .int b', .int c', .int d'] := by
  rw [h1, h2, h3, h4]
section
variable {P : Program} {wd : World} {K : PySem.W.Frag} {mg : Str → Option Value} {base : Heap}
theorem ok__law_product {f : Addr} {fd : FuncData} (F : Fun K "_law_product" "_law_product" s__law_product f fd) (M : Blt mg) : FnOk P wd K mg base CX0 1 f fd ["x", "y"] (spG K 2 R__law_product) := by
  refine fn_okT F sc__law_product fun cdv A outer s H E hr w as w' r hl dm h => ?_
  obtain ⟨rfl, rfl, p, q, x, y, n, m, rfl, ⟨x0, x1, x2, x3⟩, ⟨y0, y1, y2, y3⟩, hnm, ⟨b0, b1, b2, b3⟩, ⟨c0, c1, c2, c3⟩, rfl⟩ := h
  clear hl dm
  have hN := sc__law_product.nd
  refine Ws.rho (ρ' := [.dat p, .dat q, .none, .none, .none]) rfl ?_
  refine Ws.cons (Wt.new 2 (EvN.lst (ds := [_, _, _, _, _, _, _, _]) (EvA.cons Ev.int (EvA.cons Ev.int (EvA.cons Ev.int (EvA.cons Ev.int (EvA.cons Ev.int (EvA.cons Ev.int (EvA.cons Ev.int (EvA.cons Ev.int EvA.nil))))))))) (fun ad => ?_) hN)
  refine Ws.rho (ρ' := [.dat p, .dat q, .own ad, .none, .none]) rfl ?_
  refine Ws.wld (w' := [(ad, [.int 0, .int 0, .int 0, .int 0, .int 0, .int 0, .int 0, .int 0])]) rfl ?_
  refine Ws.cons (Wt.forU 3 (n := 4) (EvA.cons Ev.int EvA.nil) (by decide) ?_ .never rfl hN M.range)
  refine Unr.succ (m := 3) ?_
  refine Ws.rho (ρ' := [.dat p, .dat q, .own ad, .dat (.int 0), .none]) rfl ?_
  refine Ws.cons (Wt.forU 4 (n := 4) (EvA.cons Ev.int EvA.nil) (by decide) ?_ .never rfl hN M.range)
  refine Unr.succ (m := 3) ?_
  refine Ws.rho (ρ' := [.dat p, .dat q, .own ad, .dat (.int 0), .dat (.int 0)]) rfl ?_
  refine Ws.cons (Wt.setIx 0 2 rfl (Ev.bin (Ev.ixO 0 2 rfl rfl (Ev.bin (Ev.var 3 rfl) (Ev.var 4 rfl) od_add) rfl) (Ev.bin (Ev.ix (Ev.var 0 rfl) (Ev.var 3 rfl) x0) (Ev.ix (Ev.var 1 rfl) (Ev.var 4 rfl) y0) (od_mulX (mulx_of b0 c0 hnm))) od_add) (Ev.bin (Ev.var 3 rfl) (Ev.var 4 rfl) od_add) rfl rfl ?_)
  refine Ws.wld (w' := [(ad, [.int (0 + x.a * y.a), .int (0), .int (0), .int (0), .int (0), .int (0), .int (0), .int (0)])]) rfl ?_
  refine Ws.nil ?_
  refine Unr.succ (m := 2) ?_
  refine Ws.rho (ρ' := [.dat p, .dat q, .own ad, .dat (.int 0), .dat (.int 1)]) rfl ?_
  refine Ws.cons (Wt.setIx 0 2 rfl (Ev.bin (Ev.ixO 0 2 rfl rfl (Ev.bin (Ev.var 3 rfl) (Ev.var 4 rfl) od_add) rfl) (Ev.bin (Ev.ix (Ev.var 0 rfl) (Ev.var 3 rfl) x0) (Ev.ix (Ev.var 1 rfl) (Ev.var 4 rfl) y1) (od_mulX (mulx_of b0 c1 hnm))) od_add) (Ev.bin (Ev.var 3 rfl) (Ev.var 4 rfl) od_add) rfl rfl ?_)
  refine Ws.wld (w' := [(ad, [.int (0 + x.a * y.a), .int (0 + x.a * y.b), .int (0), .int (0), .int (0), .int (0), .int (0), .int (0)])]) rfl ?_
  refine Ws.nil ?_
  refine Unr.succ (m := 1) ?_
  refine Ws.rho (ρ' := [.dat p, .dat q, .own ad, .dat (.int 0), .dat (.int 2)]) rfl ?_
  refine Ws.cons (Wt.setIx 0 2 rfl (Ev.bin (Ev.ixO 0 2 rfl rfl (Ev.bin (Ev.var 3 rfl) (Ev.var 4 rfl) od_add) rfl) (Ev.bin (Ev.ix (Ev.var 0 rfl) (Ev.var 3 rfl) x0) (Ev.ix (Ev.var 1 rfl) (Ev.var 4 rfl) y2) (od_mulX (mulx_of b0 c2 hnm))) od_add) (Ev.bin (Ev.var 3 rfl) (Ev.var 4 rfl) od_add) rfl rfl ?_)
  refine Ws.wld (w' := [(ad, [.int (0 + x.a * y.a), .int (0 + x.a * y.b), .int (0 + x.a * y.c), .int (0), .int (0), .int (0), .int (0), .int (0)])]) rfl ?_
  refine Ws.nil ?_
  refine Unr.succ (m := 0) ?_
  refine Ws.rho (ρ' := [.dat p, .dat q, .own ad, .dat (.int 0), .dat (.int 3)]) rfl ?_
  refine Ws.cons (Wt.setIx 0 2 rfl (Ev.bin (Ev.ixO 0 2 rfl rfl (Ev.bin (Ev.var 3 rfl) (Ev.var 4 rfl) od_add) rfl) (Ev.bin (Ev.ix (Ev.var 0 rfl) (Ev.var 3 rfl) x0) (Ev.ix (Ev.var 1 rfl) (Ev.var 4 rfl) y3) (od_mulX (mulx_of b0 c3 hnm))) od_add) (Ev.bin (Ev.var 3 rfl) (Ev.var 4 rfl) od_add) rfl rfl ?_)
  refine Ws.wld (w' := [(ad, [.int (0 + x.a * y.a), .int (0 + x.a * y.b), .int (0 + x.a * y.c), .int (0 + x.a * y.d), .int (0), .int (0), .int (0), .int (0)])]) rfl ?_
  refine Ws.nil ?_
  refine Ws.nil ?_
  refine Unr.succ (m := 2) ?_
  refine Ws.rho (ρ' := [.dat p, .dat q, .own ad, .dat (.int 1), .dat (.int 3)]) rfl ?_
  refine Ws.cons (Wt.forU 4 (n := 4) (EvA.cons Ev.int EvA.nil) (by decide) ?_ .never rfl hN M.range)
  refine Unr.succ (m := 3) ?_
  refine Ws.rho (ρ' := [.dat p, .dat q, .own ad, .dat (.int 1), .dat (.int 0)]) rfl ?_
  refine Ws.cons (Wt.setIx 0 2 rfl (Ev.bin (Ev.ixO 0 2 rfl rfl (Ev.bin (Ev.var 3 rfl) (Ev.var 4 rfl) od_add) rfl) (Ev.bin (Ev.ix (Ev.var 0 rfl) (Ev.var 3 rfl) x1) (Ev.ix (Ev.var 1 rfl) (Ev.var 4 rfl) y0) (od_mulX (mulx_of b1 c0 hnm))) od_add) (Ev.bin (Ev.var 3 rfl) (Ev.var 4 rfl) od_add) rfl rfl ?_)
  refine Ws.wld (w' := [(ad, [.int (0 + x.a * y.a), .int (0 + x.a * y.b + x.b * y.a), .int (0 + x.a * y.c), .int (0 + x.a * y.d), .int (0), .int (0), .int (0), .int (0)])]) rfl ?_
  refine Ws.nil ?_
  refine Unr.succ (m := 2) ?_
  refine Ws.rho (ρ' := [.dat p, .dat q, .own ad, .dat (.int 1), .dat (.int 1)]) rfl ?_
  refine Ws.cons (Wt.setIx 0 2 rfl (Ev.bin (Ev.ixO 0 2 rfl rfl (Ev.bin (Ev.var 3 rfl) (Ev.var 4 rfl) od_add) rfl) (Ev.bin (Ev.ix (Ev.var 0 rfl) (Ev.var 3 rfl) x1) (Ev.ix (Ev.var 1 rfl) (Ev.var 4 rfl) y1) (od_mulX (mulx_of b1 c1 hnm))) od_add) (Ev.bin (Ev.var 3 rfl) (Ev.var 4 rfl) od_add) rfl rfl ?_)
  refine Ws.wld (w' := [(ad, [.int (0 + x.a * y.a), .int (0 + x.a * y.b + x.b * y.a), .int (0 + x.a * y.c + x.b * y.b), .int (0 + x.a * y.d), .int (0), .int (0), .int (0), .int (0)])]) rfl ?_
  refine Ws.nil ?_
  refine Unr.succ (m := 1) ?_
  refine Ws.rho (ρ' := [.dat p, .dat q, .own ad, .dat (.int 1), .dat (.int 2)]) rfl ?_
  refine Ws.cons (Wt.setIx 0 2 rfl (Ev.bin (Ev.ixO 0 2 rfl rfl (Ev.bin (Ev.var 3 rfl) (Ev.var 4 rfl) od_add) rfl) (Ev.bin (Ev.ix (Ev.var 0 rfl) (Ev.var 3 rfl) x1) (Ev.ix (Ev.var 1 rfl) (Ev.var 4 rfl) y2) (od_mulX (mulx_of b1 c2 hnm))) od_add) (Ev.bin (Ev.var 3 rfl) (Ev.var 4 rfl) od_add) rfl rfl ?_)
  refine Ws.wld (w' := [(ad, [.int (0 + x.a * y.a), .int (0 + x.a * y.b + x.b * y.a), .int (0 + x.a * y.c + x.b * y.b), .int (0 + x.a * y.d + x.b * y.c), .int (0), .int (0), .int (0), .int (0)])]) rfl ?_
  refine Ws.nil ?_
  refine Unr.succ (m := 0) ?_
  refine Ws.rho (ρ' := [.dat p, .dat q, .own ad, .dat (.int 1), .dat (.int 3)]) rfl ?_
  refine Ws.cons (Wt.setIx 0 2 rfl (Ev.bin (Ev.ixO 0 2 rfl rfl (Ev.bin (Ev.var 3 rfl) (Ev.var 4 rfl) od_add) rfl) (Ev.bin (Ev.ix (Ev.var 0 rfl) (Ev.var 3 rfl) x1) (Ev.ix (Ev.var 1 rfl) (Ev.var 4 rfl) y3) (od_mulX (mulx_of b1 c3 hnm))) od_add) (Ev.bin (Ev.var 3 rfl) (Ev.var 4 rfl) od_add) rfl rfl ?_)
  refine Ws.wld (w' := [(ad, [.int (0 + x.a * y.a), .int (0 + x.a * y.b + x.b * y.a), .int (0 + x.a * y.c + x.b * y.b), .int (0 + x.a * y.d + x.b * y.c), .int (0 + x.b * y.d), .int (0), .int (0), .int (0)])]) rfl ?_
  refine Ws.nil ?_
  refine Ws.nil ?_
  refine Unr.succ (m := 1) ?_
  refine Ws.rho (ρ' := [.dat p, .dat q, .own ad, .dat (.int 2), .dat (.int 3)]) rfl ?_
  refine Ws.cons (Wt.forU 4 (n := 4) (EvA.cons Ev.int EvA.nil) (by decide) ?_ .never rfl hN M.range)
  refine Unr.succ (m := 3) ?_
  refine Ws.rho (ρ' := [.dat p, .dat q, .own ad, .dat (.int 2), .dat (.int 0)]) rfl ?_
  refine Ws.cons (Wt.setIx 0 2 rfl (Ev.bin (Ev.ixO 0 2 rfl rfl (Ev.bin (Ev.var 3 rfl) (Ev.var 4 rfl) od_add) rfl) (Ev.bin (Ev.ix (Ev.var 0 rfl) (Ev.var 3 rfl) x2) (Ev.ix (Ev.var 1 rfl) (Ev.var 4 rfl) y0) (od_mulX (mulx_of b2 c0 hnm))) od_add) (Ev.bin (Ev.var 3 rfl) (Ev.var 4 rfl) od_add) rfl rfl ?_)
  refine Ws.wld (w' := [(ad, [.int (0 + x.a * y.a), .int (0 + x.a * y.b + x.b * y.a), .int (0 + x.a * y.c + x.b * y.b + x.c * y.a), .int (0 + x.a * y.d + x.b * y.c), .int (0 + x.b * y.d), .int (0), .int (0), .int (0)])]) rfl ?_
  refine Ws.nil ?_
  refine Unr.succ (m := 2) ?_
  refine Ws.rho (ρ' := [.dat p, .dat q, .own ad, .dat (.int 2), .dat (.int 1)]) rfl ?_
  refine Ws.cons (Wt.setIx 0 2 rfl (Ev.bin (Ev.ixO 0 2 rfl rfl (Ev.bin (Ev.var 3 rfl) (Ev.var 4 rfl) od_add) rfl) (Ev.bin (Ev.ix (Ev.var 0 rfl) (Ev.var 3 rfl) x2) (Ev.ix (Ev.var 1 rfl) (Ev.var 4 rfl) y1) (od_mulX (mulx_of b2 c1 hnm))) od_add) (Ev.bin (Ev.var 3 rfl) (Ev.var 4 rfl) od_add) rfl rfl ?_)
  refine Ws.wld (w' := [(ad, [.int (0 + x.a * y.a), .int (0 + x.a * y.b + x.b * y.a), .int (0 + x.a * y.c + x.b * y.b + x.c * y.a), .int (0 + x.a * y.d + x.b * y.c + x.c * y.b), .int (0 + x.b * y.d), .int (0), .int (0), .int (0)])]) rfl ?_
  refine Ws.nil ?_
  refine Unr.succ (m := 1) ?_
  refine Ws.rho (ρ' := [.dat p, .dat q, .own ad, .dat (.int 2), .dat (.int 2)]) rfl ?_
  refine Ws.cons (Wt.setIx 0 2 rfl (Ev.bin (Ev.ixO 0 2 rfl rfl (Ev.bin (Ev.var 3 rfl) (Ev.var 4 rfl) od_add) rfl) (Ev.bin (Ev.ix (Ev.var 0 rfl) (Ev.var 3 rfl) x2) (Ev.ix (Ev.var 1 rfl) (Ev.var 4 rfl) y2) (od_mulX (mulx_of b2 c2 hnm))) od_add) (Ev.bin (Ev.var 3 rfl) (Ev.var 4 rfl) od_add) rfl rfl ?_)
  refine Ws.wld (w' := [(ad, [.int (0 + x.a * y.a), .int (0 + x.a * y.b + x.b * y.a), .int (0 + x.a * y.c + x.b * y.b + x.c * y.a), .int (0 + x.a * y.d + x.b * y.c + x.c * y.b), .int (0 + x.b * y.d + x.c * y.c), .int (0), .int (0), .int (0)])]) rfl ?_
  refine Ws.nil ?_
  refine Unr.succ (m := 0) ?_
  refine Ws.rho (ρ' := [.dat p, .dat q, .own ad, .dat (.int 2), .dat (.int 3)]) rfl ?_
  refine Ws.cons (Wt.setIx 0 2 rfl (Ev.bin (Ev.ixO 0 2 rfl rfl (Ev.bin (Ev.var 3 rfl) (Ev.var 4 rfl) od_add) rfl) (Ev.bin (Ev.ix (Ev.var 0 rfl) (Ev.var 3 rfl) x2) (Ev.ix (Ev.var 1 rfl) (Ev.var 4 rfl) y3) (od_mulX (mulx_of b2 c3 hnm))) od_add) (Ev.bin (Ev.var 3 rfl) (Ev.var 4 rfl) od_add) rfl rfl ?_)
  refine Ws.wld (w' := [(ad, [.int (0 + x.a * y.a), .int (0 + x.a * y.b + x.b * y.a), .int (0 + x.a * y.c + x.b * y.b + x.c * y.a), .int (0 + x.a * y.d + x.b * y.c + x.c * y.b), .int (0 + x.b * y.d + x.c * y.c), .int (0 + x.c * y.d), .int (0), .int (0)])]) rfl ?_
  refine Ws.nil ?_
  refine Ws.nil ?_
  refine Unr.succ (m := 0) ?_
  refine Ws.rho (ρ' := [.dat p, .dat q, .own ad, .dat (.int 3), .dat (.int 3)]) rfl ?_
  refine Ws.cons (Wt.forU 4 (n := 4) (EvA.cons Ev.int EvA.nil) (by decide) ?_ .never rfl hN M.range)
  refine Unr.succ (m := 3) ?_
  refine Ws.rho (ρ' := [.dat p, .dat q, .own ad, .dat (.int 3), .dat (.int 0)]) rfl ?_
  refine Ws.cons (Wt.setIx 0 2 rfl (Ev.bin (Ev.ixO 0 2 rfl rfl (Ev.bin (Ev.var 3 rfl) (Ev.var 4 rfl) od_add) rfl) (Ev.bin (Ev.ix (Ev.var 0 rfl) (Ev.var 3 rfl) x3) (Ev.ix (Ev.var 1 rfl) (Ev.var 4 rfl) y0) (od_mulX (mulx_of b3 c0 hnm))) od_add) (Ev.bin (Ev.var 3 rfl) (Ev.var 4 rfl) od_add) rfl rfl ?_)
  refine Ws.wld (w' := [(ad, [.int (0 + x.a * y.a), .int (0 + x.a * y.b + x.b * y.a), .int (0 + x.a * y.c + x.b * y.b + x.c * y.a), .int (0 + x.a * y.d + x.b * y.c + x.c * y.b + x.d * y.a), .int (0 + x.b * y.d + x.c * y.c), .int (0 + x.c * y.d), .int (0), .int (0)])]) rfl ?_
  refine Ws.nil ?_
  refine Unr.succ (m := 2) ?_
  refine Ws.rho (ρ' := [.dat p, .dat q, .own ad, .dat (.int 3), .dat (.int 1)]) rfl ?_
  refine Ws.cons (Wt.setIx 0 2 rfl (Ev.bin (Ev.ixO 0 2 rfl rfl (Ev.bin (Ev.var 3 rfl) (Ev.var 4 rfl) od_add) rfl) (Ev.bin (Ev.ix (Ev.var 0 rfl) (Ev.var 3 rfl) x3) (Ev.ix (Ev.var 1 rfl) (Ev.var 4 rfl) y1) (od_mulX (mulx_of b3 c1 hnm))) od_add) (Ev.bin (Ev.var 3 rfl) (Ev.var 4 rfl) od_add) rfl rfl ?_)
  refine Ws.wld (w' := [(ad, [.int (0 + x.a * y.a), .int (0 + x.a * y.b + x.b * y.a), .int (0 + x.a * y.c + x.b * y.b + x.c * y.a), .int (0 + x.a * y.d + x.b * y.c + x.c * y.b + x.d * y.a), .int (0 + x.b * y.d + x.c * y.c + x.d * y.b), .int (0 + x.c * y.d), .int (0), .int (0)])]) rfl ?_
  refine Ws.nil ?_
  refine Unr.succ (m := 1) ?_
  refine Ws.rho (ρ' := [.dat p, .dat q, .own ad, .dat (.int 3), .dat (.int 2)]) rfl ?_
  refine Ws.cons (Wt.setIx 0 2 rfl (Ev.bin (Ev.ixO 0 2 rfl rfl (Ev.bin (Ev.var 3 rfl) (Ev.var 4 rfl) od_add) rfl) (Ev.bin (Ev.ix (Ev.var 0 rfl) (Ev.var 3 rfl) x3) (Ev.ix (Ev.var 1 rfl) (Ev.var 4 rfl) y2) (od_mulX (mulx_of b3 c2 hnm))) od_add) (Ev.bin (Ev.var 3 rfl) (Ev.var 4 rfl) od_add) rfl rfl ?_)
  refine Ws.wld (w' := [(ad, [.int (0 + x.a * y.a), .int (0 + x.a * y.b + x.b * y.a), .int (0 + x.a * y.c + x.b * y.b + x.c * y.a), .int (0 + x.a * y.d + x.b * y.c + x.c * y.b + x.d * y.a), .int (0 + x.b * y.d + x.c * y.c + x.d * y.b), .int (0 + x.c * y.d + x.d * y.c), .int (0), .int (0)])]) rfl ?_
  refine Ws.nil ?_
  refine Unr.succ (m := 0) ?_
  refine Ws.rho (ρ' := [.dat p, .dat q, .own ad, .dat (.int 3), .dat (.int 3)]) rfl ?_
  refine Ws.cons (Wt.setIx 0 2 rfl (Ev.bin (Ev.ixO 0 2 rfl rfl (Ev.bin (Ev.var 3 rfl) (Ev.var 4 rfl) od_add) rfl) (Ev.bin (Ev.ix (Ev.var 0 rfl) (Ev.var 3 rfl) x3) (Ev.ix (Ev.var 1 rfl) (Ev.var 4 rfl) y3) (od_mulX (mulx_of b3 c3 hnm))) od_add) (Ev.bin (Ev.var 3 rfl) (Ev.var 4 rfl) od_add) rfl rfl ?_)
  refine Ws.wld (w' := [(ad, [.int (0 + x.a * y.a), .int (0 + x.a * y.b + x.b * y.a), .int (0 + x.a * y.c + x.b * y.b + x.c * y.a), .int (0 + x.a * y.d + x.b * y.c + x.c * y.b + x.d * y.a), .int (0 + x.b * y.d + x.c * y.c + x.d * y.b), .int (0 + x.c * y.d + x.d * y.c), .int (0 + x.d * y.d), .int (0)])]) rfl ?_
  refine Ws.nil ?_
  refine Ws.nil ?_
  refine Ws.cons (Wt.ret (Ev.tupleL (EvN.ev (RdN.evn (compR_run 3 (ws := fun _ => [(ad, [.int (0 + x.a * y.a), .int (0 + x.a * y.b + x.b * y.a), .int (0 + x.a * y.c + x.b * y.b + x.c * y.a), .int (0 + x.a * y.d + x.b * y.c + x.c * y.b + x.d * y.a), .int (0 + x.b * y.d + x.c * y.c + x.d * y.b), .int (0 + x.c * y.d + x.d * y.c), .int (0 + x.d * y.d), .int (0)])]) (ys := fun i => ([.int ((0 + x.a * y.a) - (0 + x.b * y.d + x.c * y.c + x.d * y.b)), .int ((0 + x.a * y.b + x.b * y.a) - (0 + x.c * y.d + x.d * y.c)), .int ((0 + x.a * y.c + x.b * y.b + x.c * y.a) - (0 + x.d * y.d)), .int ((0 + x.a * y.d + x.b * y.c + x.c * y.b + x.d * y.a) - (0))] : List D).getD i .none) (EvA.cons Ev.int EvA.nil) (by decide) (by decide) rfl (fun _ => rfl) (fun i hi s H0 C cl fp => ?_)) (pe_compR 3 (blkOk_by (N := N__law_product) (sc := defScope s__law_product) (by decide +kernel)) rfl hN M.range))) M.tuple) ?_)
  · match i, hi with
    | 0, _ => exact (Ev.bin (Ev.ixO 0 2 rfl rfl (Ev.var 3 rfl) rfl) (Ev.ixO 0 2 rfl rfl (Ev.bin (Ev.var 3 rfl) Ev.int od_add) rfl) od_sub)
    | 1, _ => exact (Ev.bin (Ev.ixO 0 2 rfl rfl (Ev.var 3 rfl) rfl) (Ev.ixO 0 2 rfl rfl (Ev.bin (Ev.var 3 rfl) Ev.int od_add) rfl) od_sub)
    | 2, _ => exact (Ev.bin (Ev.ixO 0 2 rfl rfl (Ev.var 3 rfl) rfl) (Ev.ixO 0 2 rfl rfl (Ev.bin (Ev.var 3 rfl) Ev.int od_add) rfl) od_sub)
    | 3, _ => exact (Ev.bin (Ev.ixO 0 2 rfl rfl (Ev.var 3 rfl) rfl) (Ev.ixO 0 2 rfl rfl (Ev.bin (Ev.var 3 rfl) Ev.int od_add) rfl) od_sub)
  · refine ⟨?_, [(ad, _)], rfl⟩
    refine T_eq ?_ ?_ ?_ ?_ <;> (show _ = (_ : Int); dsimp only [mul4]; omega)
theorem ok__law_sent {f : Addr} {fd : FuncData} (F : Fun K "_law_sent" "_law_sent" s__law_sent f fd) (M : Blt mg) : FnOk P wd K mg base CX0 1 f fd ["x", "step"] (spG K 2 R__law_sent) := by
  refine fn_okT F sc__law_sent fun cdv A outer s H E hr w as w' r hl dm h => ?_
  obtain ⟨rfl, rfl, p, x, ⟨x0, x1, x2, x3⟩, h⟩ := h
  clear hl dm
  have hN := sc__law_sent.nd
  rcases h with ⟨rfl, rfl⟩ | ⟨rfl, rfl⟩
  · refine Ws.rho (ρ' := [.dat p, .dat (.int 7), .none, .none, .none]) rfl ?_
    refine Ws.cons (Wt.new 2 (EvN.lst (ds := [_, _, _, _]) (EvA.cons Ev.int (EvA.cons Ev.int (EvA.cons Ev.int (EvA.cons Ev.int EvA.nil))))) (fun ad => ?_) hN)
    refine Ws.rho (ρ' := [.dat p, .dat (.int 7), .own ad, .none, .none]) rfl ?_
    refine Ws.wld (w' := [(ad, [.int 0, .int 0, .int 0, .int 0])]) rfl ?_
    refine Ws.cons (Wt.forU 3 (n := 4) (EvA.cons Ev.int EvA.nil) (by decide) ?_ .never rfl hN M.range)
    refine Unr.succ (m := 3) ?_
    refine Ws.rho (ρ' := [.dat p, .dat (.int 7), .own ad, .dat (.int 0), .none]) rfl ?_
    refine Ws.cons (Wt.set 4 (Ev.bin (Ev.intC (Ev.bin (Ev.var 3 rfl) (Ev.var 1 rfl) (od_mul (.inl (by decide)))) M.int) Ev.int (od_mod (by decide))) ?_ hN)
    refine Ws.rho (ρ' := [.dat p, .dat (.int 7), .own ad, .dat (.int 0), .dat (.int 0)]) rfl ?_
    refine Ws.cons (Wt.setIx 0 2 rfl (Ev.bin (Ev.ix (Ev.var 0 rfl) (Ev.var 3 rfl) x0) (Ev.bin Ev.int (Ev.bin Ev.int (Ev.bin (Ev.var 4 rfl) Ev.int (od_div (by decide))) (od_mul (.inl (by decide)))) od_sub) (od_mul (.inr (by decide)))) (Ev.bin (Ev.var 4 rfl) (Ev.bin Ev.int (Ev.bin (Ev.var 4 rfl) Ev.int (od_div (by decide))) (od_mul (.inl (by decide)))) od_sub) rfl rfl ?_)
    refine Ws.wld (w' := [(ad, [.int (x.a * (1)), .int (0), .int (0), .int (0)])]) rfl ?_
    refine Ws.nil ?_
    refine Unr.succ (m := 2) ?_
    refine Ws.rho (ρ' := [.dat p, .dat (.int 7), .own ad, .dat (.int 1), .dat (.int 0)]) rfl ?_
    refine Ws.cons (Wt.set 4 (Ev.bin (Ev.intC (Ev.bin (Ev.var 3 rfl) (Ev.var 1 rfl) (od_mul (.inl (by decide)))) M.int) Ev.int (od_mod (by decide))) ?_ hN)
    refine Ws.rho (ρ' := [.dat p, .dat (.int 7), .own ad, .dat (.int 1), .dat (.int 7)]) rfl ?_
    refine Ws.cons (Wt.setIx 0 2 rfl (Ev.bin (Ev.ix (Ev.var 0 rfl) (Ev.var 3 rfl) x1) (Ev.bin Ev.int (Ev.bin Ev.int (Ev.bin (Ev.var 4 rfl) Ev.int (od_div (by decide))) (od_mul (.inl (by decide)))) od_sub) (od_mul (.inr (by decide)))) (Ev.bin (Ev.var 4 rfl) (Ev.bin Ev.int (Ev.bin (Ev.var 4 rfl) Ev.int (od_div (by decide))) (od_mul (.inl (by decide)))) od_sub) rfl rfl ?_)
    refine Ws.wld (w' := [(ad, [.int (x.a * (1)), .int (0), .int (0), .int (x.b * (-1))])]) rfl ?_
    refine Ws.nil ?_
    refine Unr.succ (m := 1) ?_
    refine Ws.rho (ρ' := [.dat p, .dat (.int 7), .own ad, .dat (.int 2), .dat (.int 7)]) rfl ?_
    refine Ws.cons (Wt.set 4 (Ev.bin (Ev.intC (Ev.bin (Ev.var 3 rfl) (Ev.var 1 rfl) (od_mul (.inl (by decide)))) M.int) Ev.int (od_mod (by decide))) ?_ hN)
    refine Ws.rho (ρ' := [.dat p, .dat (.int 7), .own ad, .dat (.int 2), .dat (.int 6)]) rfl ?_
    refine Ws.cons (Wt.setIx 0 2 rfl (Ev.bin (Ev.ix (Ev.var 0 rfl) (Ev.var 3 rfl) x2) (Ev.bin Ev.int (Ev.bin Ev.int (Ev.bin (Ev.var 4 rfl) Ev.int (od_div (by decide))) (od_mul (.inl (by decide)))) od_sub) (od_mul (.inr (by decide)))) (Ev.bin (Ev.var 4 rfl) (Ev.bin Ev.int (Ev.bin (Ev.var 4 rfl) Ev.int (od_div (by decide))) (od_mul (.inl (by decide)))) od_sub) rfl rfl ?_)
    refine Ws.wld (w' := [(ad, [.int (x.a * (1)), .int (0), .int (x.c * (-1)), .int (x.b * (-1))])]) rfl ?_
    refine Ws.nil ?_
    refine Unr.succ (m := 0) ?_
    refine Ws.rho (ρ' := [.dat p, .dat (.int 7), .own ad, .dat (.int 3), .dat (.int 6)]) rfl ?_
    refine Ws.cons (Wt.set 4 (Ev.bin (Ev.intC (Ev.bin (Ev.var 3 rfl) (Ev.var 1 rfl) (od_mul (.inl (by decide)))) M.int) Ev.int (od_mod (by decide))) ?_ hN)
    refine Ws.rho (ρ' := [.dat p, .dat (.int 7), .own ad, .dat (.int 3), .dat (.int 5)]) rfl ?_
    refine Ws.cons (Wt.setIx 0 2 rfl (Ev.bin (Ev.ix (Ev.var 0 rfl) (Ev.var 3 rfl) x3) (Ev.bin Ev.int (Ev.bin Ev.int (Ev.bin (Ev.var 4 rfl) Ev.int (od_div (by decide))) (od_mul (.inl (by decide)))) od_sub) (od_mul (.inr (by decide)))) (Ev.bin (Ev.var 4 rfl) (Ev.bin Ev.int (Ev.bin (Ev.var 4 rfl) Ev.int (od_div (by decide))) (od_mul (.inl (by decide)))) od_sub) rfl rfl ?_)
    refine Ws.wld (w' := [(ad, [.int (x.a * (1)), .int (x.d * (-1)), .int (x.c * (-1)), .int (x.b * (-1))])]) rfl ?_
    refine Ws.nil ?_
    refine Ws.cons (Wt.ret (Ev.tup (ds := [_, _, _, _]) (EvA.cons (Ev.ixO 0 2 rfl rfl Ev.int rfl) (EvA.cons (Ev.ixO 0 2 rfl rfl Ev.int rfl) (EvA.cons (Ev.ixO 0 2 rfl rfl Ev.int rfl) (EvA.cons (Ev.ixO 0 2 rfl rfl Ev.int rfl) EvA.nil))))) ?_)
    refine ⟨?_, [(ad, _)], rfl⟩
    refine T_eq ?_ ?_ ?_ ?_ <;> (show _ = (_ : Int); dsimp only [conj4, sis4]; omega)
  · refine Ws.rho (ρ' := [.dat p, .dat (.int 5), .none, .none, .none]) rfl ?_
    refine Ws.cons (Wt.new 2 (EvN.lst (ds := [_, _, _, _]) (EvA.cons Ev.int (EvA.cons Ev.int (EvA.cons Ev.int (EvA.cons Ev.int EvA.nil))))) (fun ad => ?_) hN)
    refine Ws.rho (ρ' := [.dat p, .dat (.int 5), .own ad, .none, .none]) rfl ?_
    refine Ws.wld (w' := [(ad, [.int 0, .int 0, .int 0, .int 0])]) rfl ?_
    refine Ws.cons (Wt.forU 3 (n := 4) (EvA.cons Ev.int EvA.nil) (by decide) ?_ .never rfl hN M.range)
    refine Unr.succ (m := 3) ?_
    refine Ws.rho (ρ' := [.dat p, .dat (.int 5), .own ad, .dat (.int 0), .none]) rfl ?_
    refine Ws.cons (Wt.set 4 (Ev.bin (Ev.intC (Ev.bin (Ev.var 3 rfl) (Ev.var 1 rfl) (od_mul (.inl (by decide)))) M.int) Ev.int (od_mod (by decide))) ?_ hN)
    refine Ws.rho (ρ' := [.dat p, .dat (.int 5), .own ad, .dat (.int 0), .dat (.int 0)]) rfl ?_
    refine Ws.cons (Wt.setIx 0 2 rfl (Ev.bin (Ev.ix (Ev.var 0 rfl) (Ev.var 3 rfl) x0) (Ev.bin Ev.int (Ev.bin Ev.int (Ev.bin (Ev.var 4 rfl) Ev.int (od_div (by decide))) (od_mul (.inl (by decide)))) od_sub) (od_mul (.inr (by decide)))) (Ev.bin (Ev.var 4 rfl) (Ev.bin Ev.int (Ev.bin (Ev.var 4 rfl) Ev.int (od_div (by decide))) (od_mul (.inl (by decide)))) od_sub) rfl rfl ?_)
    refine Ws.wld (w' := [(ad, [.int (x.a * (1)), .int (0), .int (0), .int (0)])]) rfl ?_
    refine Ws.nil ?_
    refine Unr.succ (m := 2) ?_
    refine Ws.rho (ρ' := [.dat p, .dat (.int 5), .own ad, .dat (.int 1), .dat (.int 0)]) rfl ?_
    refine Ws.cons (Wt.set 4 (Ev.bin (Ev.intC (Ev.bin (Ev.var 3 rfl) (Ev.var 1 rfl) (od_mul (.inl (by decide)))) M.int) Ev.int (od_mod (by decide))) ?_ hN)
    refine Ws.rho (ρ' := [.dat p, .dat (.int 5), .own ad, .dat (.int 1), .dat (.int 5)]) rfl ?_
    refine Ws.cons (Wt.setIx 0 2 rfl (Ev.bin (Ev.ix (Ev.var 0 rfl) (Ev.var 3 rfl) x1) (Ev.bin Ev.int (Ev.bin Ev.int (Ev.bin (Ev.var 4 rfl) Ev.int (od_div (by decide))) (od_mul (.inl (by decide)))) od_sub) (od_mul (.inr (by decide)))) (Ev.bin (Ev.var 4 rfl) (Ev.bin Ev.int (Ev.bin (Ev.var 4 rfl) Ev.int (od_div (by decide))) (od_mul (.inl (by decide)))) od_sub) rfl rfl ?_)
    refine Ws.wld (w' := [(ad, [.int (x.a * (1)), .int (x.b * (-1)), .int (0), .int (0)])]) rfl ?_
    refine Ws.nil ?_
    refine Unr.succ (m := 1) ?_
    refine Ws.rho (ρ' := [.dat p, .dat (.int 5), .own ad, .dat (.int 2), .dat (.int 5)]) rfl ?_
    refine Ws.cons (Wt.set 4 (Ev.bin (Ev.intC (Ev.bin (Ev.var 3 rfl) (Ev.var 1 rfl) (od_mul (.inl (by decide)))) M.int) Ev.int (od_mod (by decide))) ?_ hN)
    refine Ws.rho (ρ' := [.dat p, .dat (.int 5), .own ad, .dat (.int 2), .dat (.int 2)]) rfl ?_
    refine Ws.cons (Wt.setIx 0 2 rfl (Ev.bin (Ev.ix (Ev.var 0 rfl) (Ev.var 3 rfl) x2) (Ev.bin Ev.int (Ev.bin Ev.int (Ev.bin (Ev.var 4 rfl) Ev.int (od_div (by decide))) (od_mul (.inl (by decide)))) od_sub) (od_mul (.inr (by decide)))) (Ev.bin (Ev.var 4 rfl) (Ev.bin Ev.int (Ev.bin (Ev.var 4 rfl) Ev.int (od_div (by decide))) (od_mul (.inl (by decide)))) od_sub) rfl rfl ?_)
    refine Ws.wld (w' := [(ad, [.int (x.a * (1)), .int (x.b * (-1)), .int (x.c * (1)), .int (0)])]) rfl ?_
    refine Ws.nil ?_
    refine Unr.succ (m := 0) ?_
    refine Ws.rho (ρ' := [.dat p, .dat (.int 5), .own ad, .dat (.int 3), .dat (.int 2)]) rfl ?_
    refine Ws.cons (Wt.set 4 (Ev.bin (Ev.intC (Ev.bin (Ev.var 3 rfl) (Ev.var 1 rfl) (od_mul (.inl (by decide)))) M.int) Ev.int (od_mod (by decide))) ?_ hN)
    refine Ws.rho (ρ' := [.dat p, .dat (.int 5), .own ad, .dat (.int 3), .dat (.int 7)]) rfl ?_
    refine Ws.cons (Wt.setIx 0 2 rfl (Ev.bin (Ev.ix (Ev.var 0 rfl) (Ev.var 3 rfl) x3) (Ev.bin Ev.int (Ev.bin Ev.int (Ev.bin (Ev.var 4 rfl) Ev.int (od_div (by decide))) (od_mul (.inl (by decide)))) od_sub) (od_mul (.inr (by decide)))) (Ev.bin (Ev.var 4 rfl) (Ev.bin Ev.int (Ev.bin (Ev.var 4 rfl) Ev.int (od_div (by decide))) (od_mul (.inl (by decide)))) od_sub) rfl rfl ?_)
    refine Ws.wld (w' := [(ad, [.int (x.a * (1)), .int (x.b * (-1)), .int (x.c * (1)), .int (x.d * (-1))])]) rfl ?_
    refine Ws.nil ?_
    refine Ws.cons (Wt.ret (Ev.tup (ds := [_, _, _, _]) (EvA.cons (Ev.ixO 0 2 rfl rfl Ev.int rfl) (EvA.cons (Ev.ixO 0 2 rfl rfl Ev.int rfl) (EvA.cons (Ev.ixO 0 2 rfl rfl Ev.int rfl) (EvA.cons (Ev.ixO 0 2 rfl rfl Ev.int rfl) EvA.nil))))) ?_)
    refine ⟨?_, [(ad, _)], rfl⟩
    refine T_eq ?_ ?_ ?_ ?_ <;> (show _ = (_ : Int); dsimp only [conj4, sis4]; omega)
theorem ok__law_partner {f : Addr} {fd : FuncData} (F : Fun K "_law_partner" "_law_partner" s__law_partner f fd) (M : Blt mg) (C__law_draw : Cal P wd K mg base 1 "_law_draw" 2 R__law_draw) (C__law_form : Cal P wd K mg base 1 "_law_form" 5 R__law_form) (C__law_number : Cal P wd K mg base 3 "_law_number" 1 R__law_number) : FnOk P wd K mg base CX0 4 f fd ["source", "x"] (spG K 2 R__law_partner) := by
  refine fn_okT F sc__law_partner fun cdv A outer s H E hr w as w' r hl dm h => ?_
  obtain ⟨ad, S, x, rfl, rfl, rfl, hk, rfl⟩ := h
  clear hl dm
  have hN := sc__law_partner.nd
  refine Ws.rho (ρ' := [.own ad, .dat x.D, .none, .none, .none]) rfl ?_
  refine Ws.cons (Wt.set 2 (Ev.callCS 0 C__law_draw hr (EvA.own 0 rfl (EvA.cons Ev.int EvA.nil)) rfl (r__law_draw ⟨by decide, by decide⟩)) ?_ hN)
  refine Ws.rho (ρ' := [.own ad, .dat x.D, .dat (.int (draw S 6)), .none, .none]) rfl ?_
  refine Ws.wld (w' := [(ad, (drawS S 6).L)]) rfl ?_
  unfold partQ partS
  refine Ws.cons (Wt.ite (EvT.cmp (Ev.var 2 rfl) Ev.int od_eq) (fun h1 => ?_) (fun h2 => ?_))
  · have h1' : draw S 6 = 0 := of_decide_eq_true h1
    rw [if_pos h1', if_pos h1']
    exact Ws.cons (Wt.ret (Ev.var 1 rfl) ⟨rfl, [], rfl⟩)
  · have h2' : ¬ draw S 6 = 0 := of_decide_eq_false h2
    rw [if_neg h2', if_neg h2']
    refine Ws.nil ?_
    refine Ws.cons (Wt.ite (EvT.cmp (Ev.var 2 rfl) Ev.int od_eq) (fun h3 => ?_) (fun h4 => ?_))
    · have h3' : draw S 6 = 1 := of_decide_eq_true h3
      rw [if_pos h3', if_pos h3']
      refine Ws.cons (Wt.ret (Ev.tup (ds := [_, _, _, _, _]) (EvA.cons (Ev.bin Ev.int (Ev.ix (Ev.var 1 rfl) Ev.int) od_sub) (EvA.cons (Ev.bin Ev.int (Ev.ix (Ev.var 1 rfl) Ev.int) od_sub) (EvA.cons (Ev.bin Ev.int (Ev.ix (Ev.var 1 rfl) Ev.int) od_sub) (EvA.cons (Ev.bin Ev.int (Ev.ix (Ev.var 1 rfl) Ev.int) od_sub) (EvA.cons (Ev.ix (Ev.var 1 rfl) Ev.int) EvA.nil)))))) ⟨?_, [], rfl⟩)
      simp only [Int.zero_sub]
      rfl
    · have h4' : ¬ draw S 6 = 1 := of_decide_eq_false h4
      rw [if_neg h4', if_neg h4']
      refine Ws.nil ?_
      refine Ws.cons (Wt.ite (EvT.cmp (Ev.var 2 rfl) Ev.int od_eq) (fun h5 => ?_) (fun h6 => ?_))
      · have h5' : draw S 6 = 2 := of_decide_eq_true h5
        rw [if_pos h5', if_pos h5']
        refine Ws.cons (Wt.new 3 (EvN.listC (Ev.var 1 rfl) M.list) (fun al => ?_) hN)
        refine Ws.rho (ρ' := [.own ad, .dat x.D, .dat (.int (draw S 6)), .own al, .none]) rfl ?_
        refine Ws.wld (w' := [(ad, (drawS S 6).L), (al, [.int x.a, .int x.b, .int x.c, .int x.d, .int x.k])]) rfl ?_
        refine Ws.cons (Wt.set 4 (Ev.callCS 0 C__law_draw hr (EvA.own 0 rfl (EvA.cons Ev.int EvA.nil)) rfl (r__law_draw ⟨by decide, by decide⟩)) ?_ hN)
        have hv := draw_lt (drawS S 6) (m := 4) (by decide)
        generalize draw (drawS S 6) 4 = v at hv ⊢
        refine Ws.rho (ρ' := [.own ad, .dat x.D, .dat (.int (draw S 6)), .own al, .dat (.int v)]) rfl ?_
        refine Ws.wld (w' := [(ad, (drawS (drawS S 6) 4).L), (al, [.int x.a, .int x.b, .int x.c, .int x.d, .int x.k])]) rfl ?_
        have hv' : v = 0 ∨ v = 1 ∨ v = 2 ∨ v = 3 := by omega
        rcases hv' with rfl | rfl | rfl | rfl
        · refine Ws.cons (Wt.setIx 1 3 rfl (Ev.bin (Ev.bin (Ev.ixO 1 3 rfl rfl (Ev.var 4 rfl) rfl) Ev.int od_add) (Ev.callCS 0 C__law_draw hr (EvA.own 0 rfl (EvA.cons Ev.int EvA.nil)) rfl (r__law_draw ⟨by decide, by decide⟩)) od_add) (Ev.var 4 rfl) rfl rfl ?_)
          refine Ws.wld (w' := [(ad, (drawS (drawS (drawS S 6) 4) 3).L), (al, [.int (x.a + 1 + draw (drawS (drawS S 6) 4) 3), .int x.b, .int x.c, .int x.d, .int x.k])]) rfl ?_
          refine Ws.cons (Wt.ret (Ev.callC C__law_form hr (EvA.cons (Ev.ixO 1 3 rfl rfl Ev.int rfl) (EvA.cons (Ev.ixO 1 3 rfl rfl Ev.int rfl) (EvA.cons (Ev.ixO 1 3 rfl rfl Ev.int rfl) (EvA.cons (Ev.ixO 1 3 rfl rfl Ev.int rfl) (EvA.cons (Ev.ixO 1 3 rfl rfl Ev.int rfl) EvA.nil))))) (r__law_form hk)) ⟨rfl, [(al, _)], rfl⟩)
        · refine Ws.cons (Wt.setIx 1 3 rfl (Ev.bin (Ev.bin (Ev.ixO 1 3 rfl rfl (Ev.var 4 rfl) rfl) Ev.int od_add) (Ev.callCS 0 C__law_draw hr (EvA.own 0 rfl (EvA.cons Ev.int EvA.nil)) rfl (r__law_draw ⟨by decide, by decide⟩)) od_add) (Ev.var 4 rfl) rfl rfl ?_)
          refine Ws.wld (w' := [(ad, (drawS (drawS (drawS S 6) 4) 3).L), (al, [.int x.a, .int (x.b + 1 + draw (drawS (drawS S 6) 4) 3), .int x.c, .int x.d, .int x.k])]) rfl ?_
          refine Ws.cons (Wt.ret (Ev.callC C__law_form hr (EvA.cons (Ev.ixO 1 3 rfl rfl Ev.int rfl) (EvA.cons (Ev.ixO 1 3 rfl rfl Ev.int rfl) (EvA.cons (Ev.ixO 1 3 rfl rfl Ev.int rfl) (EvA.cons (Ev.ixO 1 3 rfl rfl Ev.int rfl) (EvA.cons (Ev.ixO 1 3 rfl rfl Ev.int rfl) EvA.nil))))) (r__law_form hk)) ⟨rfl, [(al, _)], rfl⟩)
        · refine Ws.cons (Wt.setIx 1 3 rfl (Ev.bin (Ev.bin (Ev.ixO 1 3 rfl rfl (Ev.var 4 rfl) rfl) Ev.int od_add) (Ev.callCS 0 C__law_draw hr (EvA.own 0 rfl (EvA.cons Ev.int EvA.nil)) rfl (r__law_draw ⟨by decide, by decide⟩)) od_add) (Ev.var 4 rfl) rfl rfl ?_)
          refine Ws.wld (w' := [(ad, (drawS (drawS (drawS S 6) 4) 3).L), (al, [.int x.a, .int x.b, .int (x.c + 1 + draw (drawS (drawS S 6) 4) 3), .int x.d, .int x.k])]) rfl ?_
          refine Ws.cons (Wt.ret (Ev.callC C__law_form hr (EvA.cons (Ev.ixO 1 3 rfl rfl Ev.int rfl) (EvA.cons (Ev.ixO 1 3 rfl rfl Ev.int rfl) (EvA.cons (Ev.ixO 1 3 rfl rfl Ev.int rfl) (EvA.cons (Ev.ixO 1 3 rfl rfl Ev.int rfl) (EvA.cons (Ev.ixO 1 3 rfl rfl Ev.int rfl) EvA.nil))))) (r__law_form hk)) ⟨rfl, [(al, _)], rfl⟩)
        · refine Ws.cons (Wt.setIx 1 3 rfl (Ev.bin (Ev.bin (Ev.ixO 1 3 rfl rfl (Ev.var 4 rfl) rfl) Ev.int od_add) (Ev.callCS 0 C__law_draw hr (EvA.own 0 rfl (EvA.cons Ev.int EvA.nil)) rfl (r__law_draw ⟨by decide, by decide⟩)) od_add) (Ev.var 4 rfl) rfl rfl ?_)
          refine Ws.wld (w' := [(ad, (drawS (drawS (drawS S 6) 4) 3).L), (al, [.int x.a, .int x.b, .int x.c, .int (x.d + 1 + draw (drawS (drawS S 6) 4) 3), .int x.k])]) rfl ?_
          refine Ws.cons (Wt.ret (Ev.callC C__law_form hr (EvA.cons (Ev.ixO 1 3 rfl rfl Ev.int rfl) (EvA.cons (Ev.ixO 1 3 rfl rfl Ev.int rfl) (EvA.cons (Ev.ixO 1 3 rfl rfl Ev.int rfl) (EvA.cons (Ev.ixO 1 3 rfl rfl Ev.int rfl) (EvA.cons (Ev.ixO 1 3 rfl rfl Ev.int rfl) EvA.nil))))) (r__law_form hk)) ⟨rfl, [(al, _)], rfl⟩)
      · have h6' : ¬ draw S 6 = 2 := of_decide_eq_false h6
        rw [if_neg h6', if_neg h6']
        refine Ws.nil ?_
        exact Ws.cons (Wt.ret (Ev.callCS 0 C__law_number hr (EvA.own 0 rfl EvA.nil) rfl r__law_number) ⟨rfl, [], rfl⟩)
end
end Q

namespace Q
/-- numbers of 22 billions -/
theorem draw_step {v d : Int} {n : Nat} (h : v.natAbs < 2 ^ n) (h0 : 0 ≤ d) (h1 : d < 1000000000) : (v * 1000000000 + d).natAbs < 2 ^ (n + 30) := by
  rw [Nat.pow_add]
  have : (2:Nat) ^ 30 = 1073741824 := by decide
  omega
theorem intLoop_bd : ∀ (k : Nat) (S : Src) (v : Int) (n : Nat), v.natAbs < 2 ^ n → (intLoop k S v).1.natAbs < 2 ^ (n + 30 * k)
  | 0, S, v, n, h => h
  | k + 1, S, v, n, h => by
    have hd := draw_lt S (m := 1000000000) (by decide)
    have e := intLoop_bd k (drawS S 1000000000) (v * 1000000000 + draw S 1000000000) (n + 30) (draw_step h hd.1 hd.2)
    rw [show n + 30 * (k + 1) = n + 30 + 30 * k by omega]
    exact e
theorem small_bd {v : Int} (h : v.natAbs < 4096) : v.natAbs < 2 ^ 700 := Nat.lt_of_lt_of_le h (Nat.pow_le_pow_right (show 0 < 2 by decide) (show 12 ≤ 700 by decide))
theorem integer_bd (S : Src) : (integer S 22).1.natAbs < 2 ^ 700 := by
  unfold integer
  dsimp only
  have h9 := draw_lt (drawS S 8) (m := 9) (by decide)
  have h2001 := draw_lt (drawS S 8) (m := 2001) (by decide)
  have h22 := draw_lt (drawS S 8) (m := 22) (by decide)
  split
  · exact small_bd (v := 0) (by decide)
  · split
    · exact small_bd (by dsimp only; omega)
    · split
      · exact small_bd (by dsimp only; omega)
      · dsimp only
        generalize hn : (1 + draw (drawS S 8) 22).toNat = n
        generalize drawS (drawS S 8) 22 = S2
        have hl := intLoop_bd n S2 0 0 (by decide)
        generalize intLoop n S2 0 = p at hl ⊢
        have h2 := draw_lt p.2 (m := 2) (by decide)
        have hl' : p.1.natAbs < 2 ^ 700 := Nat.lt_of_lt_of_le hl (Nat.pow_le_pow_right (by decide) (by omega))
        have hc : draw p.2 2 = 0 ∨ draw p.2 2 = 1 := by omega
        generalize (2 : Nat) ^ 700 = M at hl' ⊢
        rcases hc with e | e <;> rw [e] <;> omega
theorem neg_sub (x : Q4) : sub4 zero4 x = neg4 x := by apply Q4.eq <;> (unfold sub4 neg4 zero4; dsimp only; omega)
theorem sub_neg (x y : Q4) : sub4 x y = add4 x (neg4 y) := by apply Q4.eq <;> (unfold sub4 neg4 add4; dsimp only; omega)
theorem sub_add (x y : Q4) : add4 (sub4 x y) y = x := by apply Q4.eq <;> (unfold sub4 add4; dsimp only; omega)
theorem add_sub (x y : Q4) : sub4 (add4 x y) x = y := by apply Q4.eq <;> (unfold sub4 add4; dsimp only; omega)
theorem sub_self (x : Q4) : sub4 x x = zero4 := by apply Q4.eq <;> (unfold sub4 zero4; dsimp only; omega)
theorem add_neg (x : Q4) : add4 x (neg4 x) = zero4 := by apply Q4.eq <;> (unfold add4 neg4 zero4; dsimp only; omega)
theorem neg_zero4 : neg4 zero4 = zero4 := rfl
theorem add_zero4 (x : Q4) : add4 x zero4 = x := by apply Q4.eq <;> (unfold add4 zero4; dsimp only; omega)
theorem zero_add4 (x : Q4) : add4 zero4 x = x := by apply Q4.eq <;> (unfold add4 zero4; dsimp only; omega)
theorem mul_zero4 (x : Q4) : mul4 x zero4 = zero4 := by apply Q4.eq <;> simp [mul4, zero4, Int.mul_zero, Int.zero_mul]
theorem zero_mul4 (x : Q4) : mul4 zero4 x = zero4 := by apply Q4.eq <;> simp [mul4, zero4, Int.mul_zero, Int.zero_mul]
theorem mul_one4 (x : Q4) : mul4 x one4 = x := by apply Q4.eq <;> simp [mul4, one4]
theorem one_mul4 (x : Q4) : mul4 one4 x = x := by apply Q4.eq <;> simp [mul4, one4]
theorem mul_turn (x y : Q4) : mul4 x (turn4 y) = turn4 (mul4 x y) := by
  apply Q4.eq <;> (simp only [mul4, turn4, Int.zero_sub, Int.mul_neg]; try omega)
theorem mul_turnN : ∀ (n : Nat) (x y : Q4), mul4 x (turnN n y) = turnN n (mul4 x y)
  | 0, _, _ => rfl
  | n + 1, x, y => by
    show mul4 x (turnN n (turn4 y)) = turnN n (turn4 (mul4 x y))
    rw [mul_turnN n, mul_turn]
theorem conj_conj4 (x : Q4) : conj4 (conj4 x) = x := by apply Q4.eq <;> (unfold conj4; dsimp only <;> omega)
theorem sis_sis4 (x : Q4) : sis4 (sis4 x) = x := by apply Q4.eq <;> (unfold sis4; dsimp only <;> omega)
theorem sis_neg4 (x : Q4) : sis4 (neg4 x) = neg4 (sis4 x) := rfl
theorem conj_mul (x : Q4) : conj4 (mul4 x (conj4 x)) = mul4 x (conj4 x) := by
  obtain ⟨a, b, c, d⟩ := x
  apply Q4.eq <;> simp only [mul4, conj4, Int.mul_neg, Int.neg_mul]
  · have h1 := Int.mul_comm b d
    have h2 := Int.mul_comm c b
    have h3 := Int.mul_comm d c
    have h4 := Int.mul_comm a c
    have h5 := Int.mul_comm a b
    have h6 := Int.mul_comm a d
    omega
  · have h1 := Int.mul_comm b d
    have h2 := Int.mul_comm c b
    have h3 := Int.mul_comm d c
    have h4 := Int.mul_comm a c
    have h5 := Int.mul_comm a b
    have h6 := Int.mul_comm a d
    omega
  · have h1 := Int.mul_comm b d
    have h2 := Int.mul_comm c b
    have h3 := Int.mul_comm d c
    have h4 := Int.mul_comm a c
    have h5 := Int.mul_comm a b
    have h6 := Int.mul_comm a d
    omega
theorem one_one : One ⟨1, 0, 0, 0, 0⟩ := ⟨Int.le_refl 0, .inl rfl⟩
theorem zero_one : One ⟨0, 0, 0, 0, 0⟩ := ⟨Int.le_refl 0, .inl rfl⟩
end Q

namespace Q
open PySem PySem.Spec PyProof.Rows L2 Evl Pm
abbrev z5 : Q5 := ⟨0, 0, 0, 0, 0⟩
abbrev i5 : Q5 := ⟨1, 0, 0, 0, 0⟩
theorem omega_val (i : Int) : Val (omegaQ i) (turnN (i % 8).toNat one4) 0 := by
  unfold omegaQ
  have h : (i % 8).toNat < 8 := by omega
  generalize (i % 8).toNat = n at h ⊢
  have h' : n = 0 ∨ n = 1 ∨ n = 2 ∨ n = 3 ∨ n = 4 ∨ n = 5 ∨ n = 6 ∨ n = 7 := by omega
  rcases h' with rfl | rfl | rfl | rfl | rfl | rfl | rfl | rfl <;> exact ⟨⟨by decide, .inl rfl⟩, by decide, rfl⟩
theorem omega_k (i : Int) : (omegaQ i).k = 0 := by
  have h := omega_val i
  have := h.one.1
  have := h.le
  omega
theorem omega_q (i : Int) : (omegaQ i).q = turnN (i % 8).toNat one4 := by
  have h := (omega_val i).eq
  rw [omega_k] at h
  exact h
theorem Bd.turn {n : Nat} : ∀ (m : Nat) {x : Q4}, Bd n x → Bd n (turnN m x)
  | 0, _, h => h
  | m + 1, x, h => Bd.turn m (x := turn4 x) (by
    obtain ⟨h1, h2, h3, h4⟩ := h
    refine ⟨?_, h1, h2, h3⟩
    show (0 - x.d).natAbs < 2 ^ n
    omega)
theorem bd_one : Bd 1 one4 := ⟨by decide, by decide, by decide, by decide⟩
theorem root_val {j : Int} (h : 0 ≤ j) : Val (rootP j) (rootN j.toNat one4) 0 := by
  have e : rootP j = ⟨(rootN j.toNat one4).a, (rootN j.toNat one4).b, (rootN j.toNat one4).c, (rootN j.toNat one4).d, 0⟩ := by
    unfold rootP
    rw [if_neg (by omega)]
    by_cases hj : j % 2 = 1
    · rw [if_pos hj]
      have ej : j.toNat = 2 * (j / 2).toNat + 1 := by omega
      rw [ej, rootN_pow1]
      generalize (2 : Int) ^ (j / 2).toNat = u
      simp only [scale4, rootS, one4, Int.one_mul]
      simp
    · rw [if_neg hj]
      have ej : j.toNat = 2 * (j / 2).toNat := by omega
      rw [ej, rootN_pow]
      generalize (2 : Int) ^ (j / 2).toNat = u
      simp only [scale4, one4, Int.one_mul, Int.zero_mul]
  rw [e]
  exact ⟨⟨Int.le_refl 0, .inl rfl⟩, Int.le_refl 0, rfl⟩
theorem root_k {j : Int} (h : 0 ≤ j) : (rootP j).k = 0 := by
  have h := root_val h
  have := h.one.1
  have := h.le
  omega
theorem root_q {j : Int} (h : 0 ≤ j) : (rootP j).q = rootN j.toNat one4 := by
  have g := (root_val h).eq
  rw [root_k h] at g
  exact g
theorem root_down {j : Int} (h : 0 ≤ j) : rootP (0 - j) = ⟨1, 0, 0, 0, j⟩ := by
  unfold rootP
  by_cases h0 : j = 0
  · subst h0; rfl
  · rw [if_pos (by omega)]
    rw [show -(0 - j) = j by omega]
theorem down_val {j : Int} (h : 0 ≤ j) : Val ⟨1, 0, 0, 0, j⟩ one4 j := Val.self (t := ⟨1, 0, 0, 0, j⟩) ⟨h, .inr fun hh => by
  have := hh.1
  simp at this⟩
/-- sizes -/
def Nm (x : Q5) : Prop := One x ∧ x.k ≤ 10000 ∧ Bd 300000 x.q
def Nu (x : Q5) : Prop := One x ∧ x.k ≤ 1000 ∧ Bd 701 x.q
theorem Nu.m {x : Q5} (h : Nu x) : Nm x := ⟨h.1, by have := h.2.1; omega, h.2.2.mono (by omega)⟩
theorem bd_small {n : Nat} (hn : 1 ≤ n) {x : Q4} (h : Bd 1 x) : Bd n x := h.mono hn
theorem nu_zero : Nu z5 := ⟨zero_one, by decide, bd_small (by decide) ⟨by decide, by decide, by decide, by decide⟩⟩
theorem nu_one : Nu i5 := ⟨one_one, by decide, bd_small (by decide) bd_one⟩
theorem nm_zero : Nm z5 := nu_zero.m
theorem nm_one : Nm i5 := nu_one.m
theorem Nm.neg {x : Q5} (h : Nm x) : Nm (negQ x) := ⟨(Val.neg (Val.self h.1)).one, h.2.1, Bd.neg h.2.2⟩
theorem Nm.conj {x : Q5} (h : Nm x) : Nm (conjQ x) := ⟨(Val.conj (Val.self h.1)).one, h.2.1, Bd.conj h.2.2⟩
theorem nm_omega (i : Int) : Nm (omegaQ i) := ⟨(omega_val i).one, by rw [omega_k]; decide, by rw [omega_q]; exact (Bd.turn _ bd_one).mono (by decide)⟩
theorem nm_root {j : Int} (h : 0 ≤ j) (h' : j ≤ 1000) : Nm (rootP j) := ⟨(root_val h).one, by rw [root_k h]; decide, by rw [root_q h]; exact (Bd.rootN _ bd_one).mono (by omega)⟩
theorem nm_down {j : Int} (h : 0 ≤ j) (h' : j ≤ 1000) : Nm ⟨1, 0, 0, 0, j⟩ := ⟨(down_val h).one, by show j ≤ 10000; omega, bd_one.mono (by decide)⟩
theorem num_nu (S : Src) : Nu (numQ S) := by
  have hb := many_lt (seqS S 4) (a := 9) (b := 1000) (by decide) (by decide)
  refine ⟨red_one _ _, ?_, Bd.red _ (Bd.mono (n := 700) ⟨integer_bd _, integer_bd _, integer_bd _, integer_bd _⟩ (by decide))⟩
  have := red_le (many (seqS S 4) 9 1000).toNat ⟨valI S 0, valI S 1, valI S 2, valI S 3⟩
  show (redQ _ _).k ≤ _
  omega
theorem setQ_bd {x : Q5} {n : Nat} (h : Bd n x.q) (hn : 3 ≤ n) (sp v : Int) (h0 : 0 ≤ v) (h1 : v < 3) : Bd (n + 1) (setQ x sp v) := by
  obtain ⟨a, b, c, d⟩ := h
  have e : 2 ^ (n + 1) = 2 ^ n * 2 := Nat.pow_succ ..
  have l : 8 ≤ 2 ^ n := Nat.le_trans (by decide : 8 ≤ 2 ^ 3) (Nat.pow_le_pow_right (by decide) hn)
  have a' : x.a.natAbs < 2 ^ n := a
  have b' : x.b.natAbs < 2 ^ n := b
  have c' : x.c.natAbs < 2 ^ n := c
  have d' : x.d.natAbs < 2 ^ n := d
  unfold Bd setQ
  rw [e]
  generalize 2 ^ n = M at *
  refine ⟨?_, ?_, ?_, ?_⟩ <;> dsimp only <;> split <;> omega
theorem part_nu (S : Src) {x : Q5} (h : Nu x) (hb : Bd 700 x.q) : Nu (partQ S x) := by
  unfold partQ
  split
  · exact h
  · split
    · exact ⟨(Val.neg (Val.self h.1)).one, h.2.1, Bd.neg h.2.2⟩
    · split
      · have hv := draw_lt (drawS (drawS S 6) 4) (m := 3) (by decide)
        have hl := red_le x.k.toNat (setQ x (draw (drawS S 6) 4) (draw (drawS (drawS S 6) 4) 3))
        refine ⟨red_one _ _, ?_, Bd.red _ (setQ_bd hb (by decide) _ _ hv.1 hv.2)⟩
        have := h.2.1
        have := h.1.1
        omega
      · exact num_nu _
theorem num_bd (S : Src) : Bd 700 (numQ S).q := Bd.red _ ⟨integer_bd _, integer_bd _, integer_bd _, integer_bd _⟩
/-! ### the calls, by the numbers -/
theorem rs {x y t : Q5} (hx : Nm x) (hy : Nm y) (e : sumQ x y = t) : R_ring_sum [] [.dat x.D, .dat y.D] [] t.D := e ▸ r_ring_sum (by omega) hx.1 hy.1 (by have := hx.2.1; omega) (by have := hy.2.1; omega) hx.2.2 hy.2.2
theorem rd {x y t : Q5} (hx : Nm x) (hy : Nm y) (e : sumQ x (negQ y) = t) : R_ring_difference [] [.dat x.D, .dat y.D] [] t.D := e ▸ r_ring_difference (by omega) hx.1 hy.1 (by have := hx.2.1; omega) (by have := hy.2.1; omega) hx.2.2 hy.2.2
theorem rp {x y t : Q5} (hx : Nm x) (hy : Nm y) (e : prodQ x y = t) : R_ring_product [] [.dat x.D, .dat y.D] [] t.D := e ▸ r_ring_product (by omega) (by omega) (by have := hx.1.1; have := hy.1.1; omega) hx.2.2 hy.2.2
theorem rn {x t : Q5} (hx : Nm x) (e : prodQ x (conjQ x) = t) : R_ring_norm [] [.dat x.D] [] t.D := e ▸ r_ring_norm (by omega) hx.1.1 hx.2.2
theorem rneg {x t : Q5} (e : negQ x = t) : R_ring_negative [] [.dat x.D] [] t.D := e ▸ r_ring_negative
theorem rconj {x t : Q5} (e : conjQ x = t) : R_ring_conjugate [] [.dat x.D] [] t.D := e ▸ r_ring_conjugate
theorem rsis {x t : Q5} (e : sisQ x = t) : R_ring_sister [] [.dat x.D] [] t.D := e ▸ r_ring_sister
theorem rdown {j : Int} (h : 0 ≤ j) : R_root_power [] [.dat (.int (0 - j))] [] (Q5.D ⟨1, 0, 0, 0, j⟩) := root_down h ▸ r_root_power (by omega)
theorem negneg (x : Q5) : negQ (negQ x) = x := by simp [negQ]
theorem conjconj (x : Q5) : conjQ (conjQ x) = x := by simp [conjQ]
theorem sissis (x : Q5) : sisQ (sisQ x) = x := by
  unfold sisQ
  split
  · rename_i h; simp
  · rename_i h; simp
theorem neg0 : negQ z5 = z5 := rfl
theorem conj0 : conjQ z5 = z5 := rfl
theorem sis0 : sisQ z5 = z5 := rfl
theorem V0 {k : Int} (h : 0 ≤ k) : Val z5 zero4 k := Val.zero h
theorem diff_self {x : Q5} (h : Nm x) : sumQ x (negQ x) = z5 :=
  Val.inj ((Val.sum (Val.self h.1) (Val.neg (Val.self h.1))).cong (add_neg _)) (V0 h.1.1)
theorem diff_zero {x : Q5} (h : Nm x) : sumQ z5 (negQ x) = negQ x := sum_zero_left h.neg.1
theorem sub_zero {x : Q5} (h : Nm x) : sumQ x (negQ z5) = x := sum_zero_right h.1
theorem prod_zero_right {x : Q5} (h : Nm x) : prodQ x z5 = z5 :=
  Val.inj ((Val.prod (Val.self h.1) (Val.self zero_one)).cong (mul_zero4 _)) (V0 (by have := h.1.1; show 0 ≤ x.k + 0; omega))
theorem prod_zero_left {x : Q5} (h : Nm x) : prodQ z5 x = z5 :=
  Val.inj ((Val.prod (Val.self zero_one) (Val.self h.1)).cong (zero_mul4 _)) (V0 (by have := h.1.1; show 0 ≤ 0 + x.k; omega))
theorem prod_one_right {x : Q5} (h : Nm x) : prodQ x i5 = x :=
  Val.inj (((Val.prod (Val.self h.1) (Val.self one_one)).cong (mul_one4 _)).congK (Int.add_zero _)) (Val.self h.1)
theorem prod_one_left {x : Q5} (h : Nm x) : prodQ i5 x = x :=
  Val.inj (((Val.prod (Val.self one_one) (Val.self h.1)).cong (one_mul4 _)).congK (Int.zero_add _)) (Val.self h.1)
theorem norm_zero : prodQ z5 (conjQ z5) = z5 := prod_zero_right nm_zero
theorem norm_val {x : Q5} (h : Nm x) : Val (prodQ x (conjQ x)) (mul4 x.q (conj4 x.q)) (2 * x.k) :=
  (Val.prod (Val.self h.1) (Val.conj (Val.self h.1))).congK (by omega)
theorem norm_real {x : Q5} (h : Nm x) : (prodQ x (conjQ x)).c = 0 ∧ (prodQ x (conjQ x)).b + (prodQ x (conjQ x)).d = 0 := by
  have v := norm_val h
  have e := Val.inj ((Val.conj v).cong (conj_mul _)) v
  generalize prodQ x (conjQ x) = t at e
  have e1 : -t.d = t.b := congrArg Q5.b e
  have e2 : -t.c = t.c := congrArg Q5.c e
  omega
theorem prod_omega {x : Q5} (h : Nm x) (i : Int) : Val (prodQ x (omegaQ i)) (turnN (i % 8).toNat x.q) x.k :=
  (((Val.prod (Val.self h.1) (omega_val i)).cong (by rw [mul_turnN, mul_one4])).congK (Int.add_zero _))
theorem prod_up {x : Q5} (h : Nm x) {j : Int} (hj : 0 ≤ j) : Val (prodQ x (rootP j)) (rootN j.toNat x.q) x.k :=
  (((Val.prod (Val.self h.1) (root_val hj)).cong (by rw [rootN_mul2, mul_one4])).congK (Int.add_zero _))
theorem prod_down {x : Q5} (h : Nm x) {j : Int} (hj : 0 ≤ j) : Val (prodQ x ⟨1, 0, 0, 0, j⟩) x.q (x.k + j) :=
  ((Val.prod (Val.self h.1) (down_val hj)).cong (mul_one4 _))
theorem up_down {j : Int} (hj : 0 ≤ j) : prodQ (rootP j) ⟨1, 0, 0, 0, j⟩ = i5 := by
  have v := ((Val.prod (root_val hj) (down_val hj)).cong (mul_one4 _)).congK (Int.zero_add j)
  have u := (Val.self one_one).to (m := j) hj
  have e : rootN (j - i5.k).toNat i5.q = rootN j.toNat one4 := by
    show rootN (j - 0).toNat one4 = _
    rw [Int.sub_zero]
  exact Val.inj v (u.cong e)
theorem sis_val {x : Q5} (h : Nm x) : Val (sisQ x) (scale4 (1 - 2 * (if decide (x.k % 2 = 1) = true then 1 else 0)) (sis4 x.q)) x.k := by
  refine (Val.sis (Val.self h.1)).cong ?_
  by_cases e : x.k % 2 = 1
  · rw [if_pos e, if_pos (decide_eq_true e)]
    apply Q4.eq <;> (dsimp only [scale4, neg4]; omega)
  · rw [if_neg e, if_neg (by rw [decide_eq_true_eq]; exact e)]
    apply Q4.eq <;> (dsimp only [scale4]; omega)
/-! ### the two of the law -/
section
variable {x y : Q5}
theorem leftV (h : Nm x) (g : Nm y) : Val x (rootN y.k.toNat x.q) (x.k + y.k) := by
  have u := (Val.self h.1).up y.k.toNat
  exact u.congK (by have := g.1.1; omega)
theorem rightV (h : Nm x) (g : Nm y) : Val y (rootN x.k.toNat y.q) (x.k + y.k) := by
  have u := (Val.self g.1).up x.k.toNat
  exact u.congK (by have := h.1.1; omega)
theorem totalV (h : Nm x) (g : Nm y) : Val (sumQ x y) (add4 (rootN y.k.toNat x.q) (rootN x.k.toNat y.q)) (x.k + y.k) := Val.sum (leftV h g) (rightV h g)
theorem lessV (h : Nm x) (g : Nm y) : Val (sumQ x (negQ y)) (sub4 (rootN y.k.toNat x.q) (rootN x.k.toNat y.q)) (x.k + y.k) := by
  rw [sub_neg]
  exact Val.sum (leftV h g) (rightV h g).neg
theorem total_nm (h : Nu x) (g : Nu y) : Nm (sumQ x y) := by
  have v := totalV h.m g.m
  have a := h.2.1
  have b := g.2.1
  have c := v.le
  exact ⟨v.one, by omega, (Bd.sum h.2.2 g.2.2 h.1.1 g.1.1 (by omega) (by omega)).mono (by omega)⟩
theorem less_nm (h : Nu x) (g : Nu y) : Nm (sumQ x (negQ y)) := by
  have v := lessV h.m g.m
  have a := h.2.1
  have b := g.2.1
  have c := v.le
  exact ⟨v.one, by omega, (Bd.sum (y := negQ y) h.2.2 (Bd.neg g.2.2) h.1.1 g.1.1 (by omega) (by show y.k ≤ 100000; omega)).mono (by omega)⟩
theorem less_add (h : Nm x) (g : Nm y) : sumQ (sumQ x (negQ y)) y = x :=
  Val.inj ((Val.sum (lessV h g) (rightV h g)).cong (sub_add _ _)) (leftV h g)
theorem total_sub (h : Nm x) (g : Nm y) : sumQ (sumQ x y) (negQ x) = y :=
  Val.inj ((Val.sum (totalV h g) (leftV h g).neg).cong (by rw [← sub_neg, add_sub])) (rightV h g)
theorem prodV (h : Nm x) (g : Nm y) : Val (prodQ x y) (mul4 x.q y.q) (x.k + y.k) := Val.prod (Val.self h.1) (Val.self g.1)
end
end Q

namespace Q
open PySem PySem.Spec PyProof.Rows L2 Evl Pm
def powS (S : Src) : Src := manyS (integer S 22).2 40 1000
def R__law_powers : W → List Ag → W → D → Prop := fun w as w' r => ∃ (p : Addr) (S : Src) (x : Q5), w = [(p, S.L)] ∧ w' = [(p, (powS S).L)] ∧ as = [.own p, .dat x.D] ∧ Nm x ∧ r = .bool true
theorem r__law_powers {p : Addr} {S : Src} {x : Q5} (h : Nm x) : R__law_powers [(p, S.L)] [.own p, .dat x.D] [(p, (powS S).L)] (.bool true) := ⟨p, S, x, rfl, rfl, rfl, h, rfl⟩
def R__law_images : W → List Ag → W → D → Prop := fun w as w' r => w = [] ∧ w' = [] ∧ ∃ (x : Q5), as = [.dat x.D] ∧ Nm x ∧ r = .bool true
theorem r__law_images {x : Q5} (h : Nm x) : R__law_images [] [.dat x.D] [] (.bool true) := ⟨rfl, rfl, x, rfl, h, rfl⟩
def R__law_neutral : W → List Ag → W → D → Prop := fun w as w' r => w = [] ∧ w' = [] ∧ ∃ (x : Q5), as = [.dat x.D] ∧ Nm x ∧ r = .bool true
theorem r__law_neutral {x : Q5} (h : Nm x) : R__law_neutral [] [.dat x.D] [] (.bool true) := ⟨rfl, rfl, x, rfl, h, rfl⟩
def R_law : W → List Ag → W → D → Prop := fun w as w' r => w = [] ∧ w' = [] ∧ ∃ ns : List Int, as = [.dat (.list (ns.map PyData.int))] ∧ r = .bool true
theorem r_law {ns : List Int} (h : ns.length ≤ 63) : R_law [] [.dat (.list (ns.map PyData.int))] [] (.bool true) := ⟨rfl, rfl, ns, rfl, rfl⟩
theorem okd5 (x : Q5) : Okd 1 x.D := ⟨by show 5 ≤ 1000; decide, fun y hy => by
  simp only [List.mem_cons, List.not_mem_nil, or_false] at hy
  rcases hy with rfl | rfl | rfl | rfl | rfl <;> exact trivial⟩
theorem okdT {ds : List D} (hl : ds.length ≤ 1000) (h : ∀ y ∈ ds, ∃ x : Q5, y = x.D) : Okd 2 (.tuple ds) := ⟨hl, fun y hy => by
  obtain ⟨x, rfl⟩ := h y hy
  exact okd5 x⟩
theorem okd2 (x y : Q5) : Okd 2 (.tuple [x.D, y.D]) := okdT (by simp) (by intro z hz; simp only [List.mem_cons, List.not_mem_nil, or_false] at hz; rcases hz with rfl | rfl <;> exact ⟨_, rfl⟩)
theorem okd3 (x y z : Q5) : Okd 2 (.tuple [x.D, y.D, z.D]) := okdT (by simp) (by intro z hz; simp only [List.mem_cons, List.not_mem_nil, or_false] at hz; rcases hz with rfl | rfl | rfl <;> exact ⟨_, rfl⟩)
theorem okd4 (x y z u : Q5) : Okd 2 (.tuple [x.D, y.D, z.D, u.D]) := okdT (by simp) (by intro z hz; simp only [List.mem_cons, List.not_mem_nil, or_false] at hz; rcases hz with rfl | rfl | rfl | rfl <;> exact ⟨_, rfl⟩)
theorem sk2 {b c : Bool} (h : b = c) : b = c := h
section
variable {P : Program} {wd : World} {K : PySem.W.Frag} {mg : Str → Option Value} {base : Heap}
theorem ok__law_powers {f : Addr} {fd : FuncData} (F : Fun K "_law_powers" "_law_powers" s__law_powers f fd) (M : Blt mg) (C__law_integer : Cal P wd K mg base 2 "_law_integer" 2 R__law_integer) (C__law_many : Cal P wd K mg base 2 "_law_many" 3 R__law_many) (C_omega_power : Cal P wd K mg base 1 "omega_power" 1 R_omega_power) (C_root_power : Cal P wd K mg base 1 "root_power" 1 R_root_power) (C_ring_product : Cal P wd K mg base 2 "ring_product" 2 R_ring_product) (C__law_is : Cal P wd K mg base 2 "_law_is" 3 R__law_is) (C__law_turned : Cal P wd K mg base 1 "_law_turned" 2 R__law_turned) (C__law_root : Cal P wd K mg base 1 "_law_root" 2 R__law_root) (C_same1 : Cal P wd K mg base 2 "_law_same" 2 (R__law_same 1)) : FnOk P wd K mg base CX0 3 f fd ["source", "x"] (spG K 2 R__law_powers) := by
  refine fn_ok F sc__law_powers fun cdv A outer s H E hr w as w' r hl dm h => ?_
  obtain ⟨ad, S, x, rfl, rfl, rfl, hx, rfl⟩ := h
  clear hl dm
  have hN := sc__law_powers.nd
  have hj := many_lt (integer S 22).2 (a := 40) (b := 1000) (by decide) (by decide)
  refine Ws.rho (ρ' := [.own ad, .dat x.D, .none, .none, .none, .none]) rfl ?_
  refine Ws.cons (Wt.set 2 (Ev.callCS 0 C__law_integer hr (EvA.own 0 rfl (EvA.cons Ev.int EvA.nil)) rfl (r__law_integer ⟨by decide, by decide⟩)) ?_ hN)
  generalize hi : (integer S 22).1 = i
  refine Ws.rho (ρ' := [.own ad, .dat x.D, .dat (.int i), .none, .none, .none]) rfl ?_
  refine Ws.wld (w' := [(ad, (integer S 22).2.L)]) rfl ?_
  refine Ws.cons (Wt.skip (EvT.not (EvT.val (Ev.callC C__law_is hr (EvA.cons (Ev.callC C_omega_power hr (EvA.cons (Ev.var 2 rfl) EvA.nil) r_omega_power) (EvA.cons (Ev.callC C__law_turned hr (EvA.cons (Ev.tup (ds := [_, _, _, _]) (EvA.cons Ev.int (EvA.cons Ev.int (EvA.cons Ev.int (EvA.cons Ev.int EvA.nil))))) (EvA.cons (Ev.var 2 rfl) EvA.nil)) (r__law_turned (its4 one4))) (EvA.cons Ev.int EvA.nil))) (r__law_is (omega_val i) (by decide))))) ?_)
  refine Ws.cons (Wt.skip (EvT.not (EvT.val (Ev.callC C__law_is hr (EvA.cons (Ev.callC C_ring_product hr (EvA.cons (Ev.var 1 rfl) (EvA.cons (Ev.callC C_omega_power hr (EvA.cons (Ev.var 2 rfl) EvA.nil) r_omega_power) EvA.nil)) (rp hx (nm_omega i) rfl)) (EvA.cons (Ev.callC C__law_turned hr (EvA.cons (Ev.var 1 rfl) (EvA.cons (Ev.var 2 rfl) EvA.nil)) (r__law_turned (its5 x))) (EvA.cons (Ev.ix (Ev.var 1 rfl) Ev.int) EvA.nil))) (r__law_is (prod_omega hx i) (by have := hx.2.1; omega))))) ?_)
  refine Ws.cons (Wt.set 3 (Ev.callCS 0 C__law_many hr (EvA.own 0 rfl (EvA.cons Ev.int (EvA.cons Ev.int EvA.nil))) rfl (r__law_many ⟨by decide, by decide, by decide, by decide⟩)) ?_ hN)
  generalize many (integer S 22).2 40 1000 = j at hj
  refine Ws.rho (ρ' := [.own ad, .dat x.D, .dat (.int i), .dat (.int j), .none, .none]) rfl ?_
  refine Ws.wld (w' := [(ad, (powS S).L)]) rfl ?_
  refine Ws.cons (Wt.set 4 (Ev.callC C_root_power hr (EvA.cons (Ev.var 3 rfl) EvA.nil) (r_root_power (by omega))) ?_ hN)
  refine Ws.rho (ρ' := [.own ad, .dat x.D, .dat (.int i), .dat (.int j), .dat (rootP j).D, .none]) rfl ?_
  refine Ws.cons (Wt.set 5 (Ev.callC C_root_power hr (EvA.cons (Ev.bin Ev.int (Ev.var 3 rfl) od_sub) EvA.nil) (rdown hj.1)) ?_ hN)
  refine Ws.rho (ρ' := [.own ad, .dat x.D, .dat (.int i), .dat (.int j), .dat (rootP j).D, .dat (Q5.D ⟨1, 0, 0, 0, j⟩)]) rfl ?_
  refine Ws.cons (Wt.skip (EvT.to (EvT.of (EvW.or (EvT.not (EvT.val (Ev.callC C__law_is hr (EvA.cons (Ev.var 4 rfl) (EvA.cons (Ev.callC C__law_root hr (EvA.cons (Ev.tup (ds := [_, _, _, _]) (EvA.cons Ev.int (EvA.cons Ev.int (EvA.cons Ev.int (EvA.cons Ev.int EvA.nil))))) (EvA.cons (Ev.var 3 rfl) EvA.nil)) (r__law_root (its4 one4) ⟨by omega, by omega⟩)) (EvA.cons Ev.int EvA.nil))) (r__law_is (root_val hj.1) (by decide))))) fun _ => (EvW.or1 (EvT.not (EvT.val (Ev.callC C_same1 hr (EvA.cons (Ev.var 5 rfl) (EvA.cons (Ev.tup (ds := [_, _, _, _, _]) (EvA.cons Ev.int (EvA.cons Ev.int (EvA.cons Ev.int (EvA.cons Ev.int (EvA.cons (Ev.var 3 rfl) EvA.nil)))))) EvA.nil)) (r__law_same (okd5 ⟨1, 0, 0, 0, j⟩)))))))) (by simp)) ?_)
  refine Ws.cons (Wt.skip (EvT.not (EvT.val (Ev.callC C__law_is hr (EvA.cons (Ev.callC C_ring_product hr (EvA.cons (Ev.var 1 rfl) (EvA.cons (Ev.var 4 rfl) EvA.nil)) (rp hx (nm_root hj.1 hj.2) rfl)) (EvA.cons (Ev.callC C__law_root hr (EvA.cons (Ev.var 1 rfl) (EvA.cons (Ev.var 3 rfl) EvA.nil)) (r__law_root (its5 x) ⟨by omega, by omega⟩)) (EvA.cons (Ev.ix (Ev.var 1 rfl) Ev.int) EvA.nil))) (r__law_is (prod_up hx hj.1) (by have := hx.2.1; omega))))) ?_)
  refine Ws.cons (Wt.skip (EvT.not (EvT.val (Ev.callC C__law_is hr (EvA.cons (Ev.callC C_ring_product hr (EvA.cons (Ev.var 1 rfl) (EvA.cons (Ev.var 5 rfl) EvA.nil)) (rp hx (nm_down hj.1 hj.2) rfl)) (EvA.cons (Ev.tup (ds := [_, _, _, _]) (EvA.cons (Ev.ix (Ev.var 1 rfl) Ev.int) (EvA.cons (Ev.ix (Ev.var 1 rfl) Ev.int) (EvA.cons (Ev.ix (Ev.var 1 rfl) Ev.int) (EvA.cons (Ev.ix (Ev.var 1 rfl) Ev.int) EvA.nil))))) (EvA.cons (Ev.bin (Ev.ix (Ev.var 1 rfl) Ev.int) (Ev.var 3 rfl) od_add) EvA.nil))) (r__law_is (prod_down hx hj.1) (by have := hx.2.1; omega))))) ?_)
  exact Ws.cons (Wt.ret (Ev.callC C_same1 hr (EvA.cons (Ev.callC C_ring_product hr (EvA.cons (Ev.var 4 rfl) (EvA.cons (Ev.var 5 rfl) EvA.nil)) (rp (nm_root hj.1 hj.2) (nm_down hj.1 hj.2) (up_down hj.1))) (EvA.cons (Ev.tup (ds := [_, _, _, _, _]) (EvA.cons Ev.int (EvA.cons Ev.int (EvA.cons Ev.int (EvA.cons Ev.int (EvA.cons Ev.int EvA.nil)))))) EvA.nil)) (r__law_same (okd5 i5))) ⟨rfl, rfl⟩)
theorem ok__law_images {f : Addr} {fd : FuncData} (F : Fun K "_law_images" "_law_images" s__law_images f fd) (M : Blt mg) (C_ring_negative : Cal P wd K mg base 1 "ring_negative" 1 R_ring_negative) (C_ring_conjugate : Cal P wd K mg base 1 "ring_conjugate" 1 R_ring_conjugate) (C_ring_sister : Cal P wd K mg base 1 "ring_sister" 1 R_ring_sister) (C_ring_norm : Cal P wd K mg base 3 "ring_norm" 1 R_ring_norm) (C_ring_exponent : Cal P wd K mg base 1 "ring_exponent" 1 R_ring_exponent) (C__law_is : Cal P wd K mg base 2 "_law_is" 3 R__law_is) (C__law_sub : Cal P wd K mg base 1 "_law_sub" 2 R__law_sub) (C__law_sent : Cal P wd K mg base 1 "_law_sent" 2 R__law_sent) (C__law_product : Cal P wd K mg base 1 "_law_product" 2 R__law_product) (C_same0 : Cal P wd K mg base 1 "_law_same" 2 (R__law_same 0)) (C_same1 : Cal P wd K mg base 2 "_law_same" 2 (R__law_same 1)) : FnOk P wd K mg base CX0 4 f fd ["x"] (spG K 1 R__law_images) := by
  refine fn_ok F sc__law_images fun cdv A outer s H E hr w as w' r hl dm h => ?_
  obtain ⟨rfl, rfl, x, rfl, hx, rfl⟩ := h
  clear hl dm
  have hN := sc__law_images.nd
  have hk := hx.1.1
  have hk2 := hx.2.1
  refine Ws.rho (ρ' := [.dat x.D, .none, .none, .none, .none]) rfl ?_
  refine Ws.cons (Wt.set 1 (Ev.bin Ev.int (Ev.bin Ev.int (Ev.intB (Ev.cmp (Ev.bin (Ev.intC (Ev.ix (Ev.var 0 rfl) Ev.int) M.int) Ev.int (od_mod (by decide))) Ev.int od_eq) M.int) (od_mul (.inl (by decide)))) od_sub) ?_ hN)
  have hs := sis_val hx
  generalize hfe : 1 - 2 * (if decide (x.k % 2 = 1) = true then (1 : Int) else 0) = far at hs
  have hf : -2 < far ∧ far < 2 := by rw [← hfe]; split <;> omega
  refine Ws.rho (ρ' := [.dat x.D, .dat (.int far), .none, .none, .none]) (by rw [← hfe]; rfl) ?_
  refine Ws.cons (Wt.skip (EvT.not (EvT.val (Ev.callC C__law_is hr (EvA.cons (Ev.callC C_ring_negative hr (EvA.cons (Ev.var 0 rfl) EvA.nil) r_ring_negative) (EvA.cons (Ev.callC C__law_sub hr (EvA.cons (Ev.tup (ds := [_, _, _, _]) (EvA.cons Ev.int (EvA.cons Ev.int (EvA.cons Ev.int (EvA.cons Ev.int EvA.nil))))) (EvA.cons (Ev.var 0 rfl) EvA.nil)) (r__law_sub (its4 zero4) (its5 x))) (EvA.cons (Ev.ix (Ev.var 0 rfl) Ev.int) EvA.nil))) (r__law_is ((Val.neg (Val.self hx.1)).cong (neg_sub _).symm) (by omega))))) ?_)
  refine Ws.cons (Wt.skip (EvT.not (EvT.val (Ev.callC C__law_is hr (EvA.cons (Ev.callC C_ring_conjugate hr (EvA.cons (Ev.var 0 rfl) EvA.nil) r_ring_conjugate) (EvA.cons (Ev.callC C__law_sent hr (EvA.cons (Ev.var 0 rfl) (EvA.cons Ev.int EvA.nil)) (r__law_sent7 (its5 x))) (EvA.cons (Ev.ix (Ev.var 0 rfl) Ev.int) EvA.nil))) (r__law_is (Val.conj (Val.self hx.1)) (by omega))))) ?_)
  refine Ws.cons (Wt.set 2 (Ev.callC C_ring_sister hr (EvA.cons (Ev.var 0 rfl) EvA.nil) r_ring_sister) ?_ hN)
  refine Ws.rho (ρ' := [.dat x.D, .dat (.int far), .dat (sisQ x).D, .none, .none]) rfl ?_
  have hcut : -(2 ^ 64) < far ∧ far < 2 ^ 64 := by omega
  refine Ws.cons (Wt.skip (EvT.not (EvT.val (Ev.callC C__law_is hr (EvA.cons (Ev.var 2 rfl) (EvA.cons (Ev.tupleL (EvN.ev (RdN.evn (compT_run 3 (ds := (sis4 x.q).L) (ys := (scale4 far (sis4 x.q)).L) (Ev.callC C__law_sent hr (EvA.cons (Ev.var 0 rfl) (EvA.cons Ev.int EvA.nil)) (r__law_sent5 (its5 x))) rfl (fun n y z hy hz s H0 C cl fp => (by
    match n, hy, hz with
    | 0, hy, hz => cases hy; cases hz; exact (Ev.bin (Ev.var 3 rfl) (Ev.var 1 rfl) (od_mul (.inr hcut)))
    | 1, hy, hz => cases hy; cases hz; exact (Ev.bin (Ev.var 3 rfl) (Ev.var 1 rfl) (od_mul (.inr hcut)))
    | 2, hy, hz => cases hy; cases hz; exact (Ev.bin (Ev.var 3 rfl) (Ev.var 1 rfl) (od_mul (.inr hcut)))
    | 3, hy, hz => cases hy; cases hz; exact (Ev.bin (Ev.var 3 rfl) (Ev.var 1 rfl) (od_mul (.inr hcut))))) (by simp)) (pe_compT 3 (blkOk_by (N := N__law_images) (sc := defScope s__law_images) (by decide +kernel)) rfl hN))) M.tuple) (EvA.cons (Ev.ix (Ev.var 0 rfl) Ev.int) EvA.nil))) (r__law_is hs (by omega))))) ?_)
  refine Ws.cons (Wt.set 4 (Ev.callC C_ring_norm hr (EvA.cons (Ev.var 0 rfl) EvA.nil) (rn hx rfl)) ?_ hN)
  refine Ws.rho (ρ' := [.dat x.D, .dat (.int far), .dat (sisQ x).D, .none, .dat (prodQ x (conjQ x)).D]) rfl ?_
  refine Ws.cons (Wt.skip (EvT.not (EvT.val (Ev.callC C__law_is hr (EvA.cons (Ev.var 4 rfl) (EvA.cons (Ev.callC C__law_product hr (EvA.cons (Ev.var 0 rfl) (EvA.cons (Ev.callC C__law_sent hr (EvA.cons (Ev.var 0 rfl) (EvA.cons Ev.int EvA.nil)) (r__law_sent7 (its5 x))) EvA.nil)) (r__law_product (its5 x) (its4 (conj4 x.q)) (by omega) hx.2.2 (Bd.conj hx.2.2))) (EvA.cons (Ev.bin Ev.int (Ev.ix (Ev.var 0 rfl) Ev.int) (od_mul (.inl (by decide)))) EvA.nil))) (r__law_is (norm_val hx) (by omega))))) ?_)
  have hre := norm_real hx
  refine Ws.cons (Wt.skip (EvT.to (EvT.of (EvW.or (EvT.cmp (Ev.ix (Ev.var 4 rfl) Ev.int) Ev.int od_ne) fun _ => (EvW.or1 (EvT.cmp (Ev.bin (Ev.ix (Ev.var 4 rfl) Ev.int) (Ev.ix (Ev.var 4 rfl) Ev.int) od_add) Ev.int od_ne)))) (by rw [hre.1, hre.2]; rfl)) ?_)
  refine Ws.cons (Wt.skip (EvT.to (EvT.of (EvW.or (EvT.not (EvT.val (Ev.callC C_same1 hr (EvA.cons (Ev.callC C_ring_sister hr (EvA.cons (Ev.var 2 rfl) EvA.nil) (rsis (sissis x))) (EvA.cons (Ev.var 0 rfl) EvA.nil)) (r__law_same (okd5 x))))) fun _ => (EvW.or1 (EvT.not (EvT.val (Ev.callC C_same1 hr (EvA.cons (Ev.callC C_ring_negative hr (EvA.cons (Ev.callC C_ring_negative hr (EvA.cons (Ev.var 0 rfl) EvA.nil) r_ring_negative) EvA.nil) (rneg (negneg x))) (EvA.cons (Ev.var 0 rfl) EvA.nil)) (r__law_same (okd5 x)))))))) (by simp)) ?_)
  exact Ws.cons (Wt.ret (Ev.andT (Ev.callC C_same0 hr (EvA.cons (Ev.callC C_ring_exponent hr (EvA.cons (Ev.var 0 rfl) EvA.nil) r_ring_exponent) (EvA.cons (Ev.ix (Ev.var 0 rfl) Ev.int) EvA.nil)) (r__law_same trivial)) (Ev.bone (Ev.callC C_same1 hr (EvA.cons (Ev.callC C_ring_conjugate hr (EvA.cons (Ev.callC C_ring_conjugate hr (EvA.cons (Ev.var 0 rfl) EvA.nil) r_ring_conjugate) EvA.nil) (rconj (conjconj x))) (EvA.cons (Ev.var 0 rfl) EvA.nil)) (r__law_same (okd5 x))))) ⟨rfl, rfl⟩)
theorem ok__law_neutral {f : Addr} {fd : FuncData} (F : Fun K "_law_neutral" "_law_neutral" s__law_neutral f fd) (M : Blt mg) (C_ring_sum : Cal P wd K mg base 2 "ring_sum" 2 R_ring_sum) (C_ring_difference : Cal P wd K mg base 3 "ring_difference" 2 R_ring_difference) (C_ring_product : Cal P wd K mg base 2 "ring_product" 2 R_ring_product) (C_ring_negative : Cal P wd K mg base 1 "ring_negative" 1 R_ring_negative) (C_ring_conjugate : Cal P wd K mg base 1 "ring_conjugate" 1 R_ring_conjugate) (C_ring_sister : Cal P wd K mg base 1 "ring_sister" 1 R_ring_sister) (C_ring_norm : Cal P wd K mg base 3 "ring_norm" 1 R_ring_norm) (C_same2 : Cal P wd K mg base 3 "_law_same" 2 (R__law_same 2)) : FnOk P wd K mg base CX0 4 f fd ["x"] (spG K 1 R__law_neutral) := by
  refine fn_ok F sc__law_neutral fun cdv A outer s H E hr w as w' r hl dm h => ?_
  obtain ⟨rfl, rfl, x, rfl, hx, rfl⟩ := h
  clear hl dm
  have hN := sc__law_neutral.nd
  refine Ws.rho (ρ' := [.dat x.D, .none, .none, .none]) rfl ?_
  refine Ws.cons (Wt.set 1 (Ev.tup (ds := [_, _, _, _, _]) (EvA.cons Ev.int (EvA.cons Ev.int (EvA.cons Ev.int (EvA.cons Ev.int (EvA.cons Ev.int EvA.nil)))))) ?_ hN)
  refine Ws.cons (Wt.set 2 (Ev.tup (ds := [_, _, _, _, _]) (EvA.cons Ev.int (EvA.cons Ev.int (EvA.cons Ev.int (EvA.cons Ev.int (EvA.cons Ev.int EvA.nil)))))) ?_ hN)
  refine Ws.rho (ρ' := [.dat x.D, .dat z5.D, .dat i5.D, .none]) rfl ?_
  refine Ws.cons (Wt.set 3 (Ev.tup (ds := [_, _, _, _, _]) (EvA.cons (Ev.bin Ev.int (Ev.ix (Ev.var 0 rfl) Ev.int) od_sub) (EvA.cons (Ev.bin Ev.int (Ev.ix (Ev.var 0 rfl) Ev.int) od_sub) (EvA.cons (Ev.bin Ev.int (Ev.ix (Ev.var 0 rfl) Ev.int) od_sub) (EvA.cons (Ev.bin Ev.int (Ev.ix (Ev.var 0 rfl) Ev.int) od_sub) (EvA.cons (Ev.ix (Ev.var 0 rfl) Ev.int) EvA.nil)))))) ?_ hN)
  refine Ws.rho (ρ' := [.dat x.D, .dat z5.D, .dat i5.D, .dat (negQ x).D]) (by simp only [Int.zero_sub]; rfl) ?_
  refine Ws.cons (Wt.skip (EvT.not (EvT.val (Ev.callC C_same2 hr (EvA.cons (Ev.tup (ds := [_, _, _]) (EvA.cons (Ev.callC C_ring_sum hr (EvA.cons (Ev.var 0 rfl) (EvA.cons (Ev.var 1 rfl) EvA.nil)) (rs hx nm_zero (sum_zero_right hx.1))) (EvA.cons (Ev.callC C_ring_sum hr (EvA.cons (Ev.var 1 rfl) (EvA.cons (Ev.var 0 rfl) EvA.nil)) (rs nm_zero hx (sum_zero_left hx.1))) (EvA.cons (Ev.callC C_ring_difference hr (EvA.cons (Ev.var 0 rfl) (EvA.cons (Ev.var 1 rfl) EvA.nil)) (rd hx nm_zero (sub_zero hx))) EvA.nil)))) (EvA.cons (Ev.tup (ds := [_, _, _]) (EvA.cons (Ev.var 0 rfl) (EvA.cons (Ev.var 0 rfl) (EvA.cons (Ev.var 0 rfl) EvA.nil)))) EvA.nil)) (r__law_same (okd3 x x x))))) ?_)
  refine Ws.cons (Wt.skip (EvT.not (EvT.val (Ev.callC C_same2 hr (EvA.cons (Ev.tup (ds := [_, _, _]) (EvA.cons (Ev.callC C_ring_difference hr (EvA.cons (Ev.var 1 rfl) (EvA.cons (Ev.var 0 rfl) EvA.nil)) (rd nm_zero hx (diff_zero hx))) (EvA.cons (Ev.callC C_ring_difference hr (EvA.cons (Ev.var 0 rfl) (EvA.cons (Ev.var 0 rfl) EvA.nil)) (rd hx hx (diff_self hx))) (EvA.cons (Ev.callC C_ring_sum hr (EvA.cons (Ev.var 0 rfl) (EvA.cons (Ev.var 3 rfl) EvA.nil)) (rs hx hx.neg (diff_self hx))) EvA.nil)))) (EvA.cons (Ev.tup (ds := [_, _, _]) (EvA.cons (Ev.var 3 rfl) (EvA.cons (Ev.var 1 rfl) (EvA.cons (Ev.var 1 rfl) EvA.nil)))) EvA.nil)) (r__law_same (okd3 (negQ x) z5 z5))))) ?_)
  refine Ws.cons (Wt.skip (EvT.not (EvT.val (Ev.callC C_same2 hr (EvA.cons (Ev.tup (ds := [_, _]) (EvA.cons (Ev.callC C_ring_product hr (EvA.cons (Ev.var 0 rfl) (EvA.cons (Ev.var 1 rfl) EvA.nil)) (rp hx nm_zero (prod_zero_right hx))) (EvA.cons (Ev.callC C_ring_product hr (EvA.cons (Ev.var 1 rfl) (EvA.cons (Ev.var 0 rfl) EvA.nil)) (rp nm_zero hx (prod_zero_left hx))) EvA.nil))) (EvA.cons (Ev.tup (ds := [_, _]) (EvA.cons (Ev.var 1 rfl) (EvA.cons (Ev.var 1 rfl) EvA.nil))) EvA.nil)) (r__law_same (okd2 z5 z5))))) ?_)
  refine Ws.cons (Wt.skip (EvT.not (EvT.val (Ev.callC C_same2 hr (EvA.cons (Ev.tup (ds := [_, _, _, _]) (EvA.cons (Ev.callC C_ring_negative hr (EvA.cons (Ev.var 1 rfl) EvA.nil) (rneg neg0)) (EvA.cons (Ev.callC C_ring_conjugate hr (EvA.cons (Ev.var 1 rfl) EvA.nil) (rconj conj0)) (EvA.cons (Ev.callC C_ring_sister hr (EvA.cons (Ev.var 1 rfl) EvA.nil) (rsis sis0)) (EvA.cons (Ev.callC C_ring_norm hr (EvA.cons (Ev.var 1 rfl) EvA.nil) (rn nm_zero norm_zero)) EvA.nil))))) (EvA.cons (Ev.tup (ds := [_, _, _, _]) (EvA.cons (Ev.var 1 rfl) (EvA.cons (Ev.var 1 rfl) (EvA.cons (Ev.var 1 rfl) (EvA.cons (Ev.var 1 rfl) EvA.nil))))) EvA.nil)) (r__law_same (okd4 z5 z5 z5 z5))))) ?_)
  exact Ws.cons (Wt.ret (Ev.callC C_same2 hr (EvA.cons (Ev.tup (ds := [_, _]) (EvA.cons (Ev.callC C_ring_product hr (EvA.cons (Ev.var 0 rfl) (EvA.cons (Ev.var 2 rfl) EvA.nil)) (rp hx nm_one (prod_one_right hx))) (EvA.cons (Ev.callC C_ring_product hr (EvA.cons (Ev.var 2 rfl) (EvA.cons (Ev.var 0 rfl) EvA.nil)) (rp nm_one hx (prod_one_left hx))) EvA.nil))) (EvA.cons (Ev.tup (ds := [_, _]) (EvA.cons (Ev.var 0 rfl) (EvA.cons (Ev.var 0 rfl) EvA.nil))) EvA.nil)) (r__law_same (okd2 x x))) ⟨rfl, rfl⟩)
theorem ok_law {f : Addr} {fd : FuncData} (F : Fun K "law" "law" s_law f fd) (C__law_source : CalN P wd K mg base 1 "_law_source" 1 R__law_source) (C__law_number : Cal P wd K mg base 3 "_law_number" 1 R__law_number) (C__law_partner : Cal P wd K mg base 4 "_law_partner" 2 R__law_partner) (C__law_root : Cal P wd K mg base 1 "_law_root" 2 R__law_root) (C_ring_sum : Cal P wd K mg base 2 "ring_sum" 2 R_ring_sum) (C_ring_difference : Cal P wd K mg base 3 "ring_difference" 2 R_ring_difference) (C_ring_product : Cal P wd K mg base 2 "ring_product" 2 R_ring_product) (C__law_is : Cal P wd K mg base 2 "_law_is" 3 R__law_is) (C__law_add : Cal P wd K mg base 1 "_law_add" 2 R__law_add) (C__law_sub : Cal P wd K mg base 1 "_law_sub" 2 R__law_sub) (C__law_product : Cal P wd K mg base 1 "_law_product" 2 R__law_product) (C_same1 : Cal P wd K mg base 2 "_law_same" 2 (R__law_same 1)) (C__law_images : Cal P wd K mg base 4 "_law_images" 1 R__law_images) (C__law_neutral : Cal P wd K mg base 4 "_law_neutral" 1 R__law_neutral) (C__law_powers : Cal P wd K mg base 3 "_law_powers" 2 R__law_powers) : FnOk P wd K mg base CX0 5 f fd ["script"] (spG K 1 R_law) := by
  refine fn_okT F sc_law fun cdv A outer s H E hr w as w' r hl dm h => ?_
  obtain ⟨rfl, rfl, ns, rfl, rfl⟩ := h
  clear hl dm
  have hN := sc_law.nd
  refine Ws.rho (ρ' := [.dat (.list (ns.map PyData.int)), .none, .none, .none, .none, .none, .none, .none, .none]) rfl ?_
  refine Ws.cons (Wt.new 1 (EvN.callC C__law_source hr (EvA.cons (Ev.var 0 rfl) EvA.nil) r__law_source) (fun ad => ?_) hN)
  generalize srcOf ns = S
  refine Ws.rho (ρ' := [.dat (.list (ns.map PyData.int)), .own ad, .none, .none, .none, .none, .none, .none, .none]) rfl ?_
  refine Ws.wld (w' := [(ad, S.L)]) rfl ?_
  refine Ws.cons (Wt.set 2 (Ev.callCS 0 C__law_number hr (EvA.own 1 rfl EvA.nil) rfl r__law_number) ?_ hN)
  have nx := num_nu S
  have bx := num_bd S
  generalize numQ S = x at nx bx
  generalize numS S = S2
  refine Ws.rho (ρ' := [.dat (.list (ns.map PyData.int)), .own ad, .dat x.D, .none, .none, .none, .none, .none, .none]) rfl ?_
  refine Ws.wld (w' := [(ad, S2.L)]) rfl ?_
  refine Ws.cons (Wt.set 3 (Ev.callCS 0 C__law_partner hr (EvA.own 1 rfl (EvA.cons (Ev.var 2 rfl) EvA.nil)) rfl (r__law_partner ⟨nx.1.1, by have := nx.2.1; omega⟩)) ?_ hN)
  have ny := part_nu S2 nx bx
  generalize partQ S2 x = y at ny
  generalize partS S2 x = S3
  refine Ws.rho (ρ' := [.dat (.list (ns.map PyData.int)), .own ad, .dat x.D, .dat y.D, .none, .none, .none, .none, .none]) rfl ?_
  refine Ws.wld (w' := [(ad, S3.L)]) rfl ?_
  have hx := nx.m
  have hy := ny.m
  have x0 := nx.1.1
  have y0 := ny.1.1
  have x1 := nx.2.1
  have y1 := ny.2.1
  refine Ws.cons (Wt.set 4 (Ev.bin (Ev.ix (Ev.var 2 rfl) Ev.int) (Ev.ix (Ev.var 3 rfl) Ev.int) od_add) ?_ hN)
  refine Ws.cons (Wt.set 5 (Ev.callC C__law_root hr (EvA.cons (Ev.var 2 rfl) (EvA.cons (Ev.ix (Ev.var 3 rfl) Ev.int) EvA.nil)) (r__law_root (its5 x) ⟨by omega, by omega⟩)) ?_ hN)
  refine Ws.cons (Wt.set 6 (Ev.callC C__law_root hr (EvA.cons (Ev.var 3 rfl) (EvA.cons (Ev.ix (Ev.var 2 rfl) Ev.int) EvA.nil)) (r__law_root (its5 y) ⟨by omega, by omega⟩)) ?_ hN)
  refine Ws.rho (ρ' := [.dat (.list (ns.map PyData.int)), .own ad, .dat x.D, .dat y.D, .dat (.int (x.k + y.k)), .dat (rootN y.k.toNat x.q).T, .dat (rootN x.k.toNat y.q).T, .none, .none]) rfl ?_
  refine Ws.cons (Wt.set 7 (Ev.callC C_ring_sum hr (EvA.cons (Ev.var 2 rfl) (EvA.cons (Ev.var 3 rfl) EvA.nil)) (rs hx hy rfl)) ?_ hN)
  have ht := total_nm nx ny
  have vt := totalV hx hy
  have e1 := total_sub hx hy
  refine Ws.rho (ρ' := [.dat (.list (ns.map PyData.int)), .own ad, .dat x.D, .dat y.D, .dat (.int (x.k + y.k)), .dat (rootN y.k.toNat x.q).T, .dat (rootN x.k.toNat y.q).T, .dat (sumQ x y).D, .none]) rfl ?_
  refine Ws.cons (Wt.skip (EvT.not (EvT.val (Ev.callC C__law_is hr (EvA.cons (Ev.var 7 rfl) (EvA.cons (Ev.callC C__law_add hr (EvA.cons (Ev.var 5 rfl) (EvA.cons (Ev.var 6 rfl) EvA.nil)) r__law_add) (EvA.cons (Ev.var 4 rfl) EvA.nil))) (r__law_is vt (by omega))))) ?_)
  refine Ws.cons (Wt.set 8 (Ev.callC C_ring_difference hr (EvA.cons (Ev.var 2 rfl) (EvA.cons (Ev.var 3 rfl) EvA.nil)) (rd hx hy rfl)) ?_ hN)
  have hs := less_nm nx ny
  have vs := lessV hx hy
  have e2 := less_add hx hy
  refine Ws.rho (ρ' := [.dat (.list (ns.map PyData.int)), .own ad, .dat x.D, .dat y.D, .dat (.int (x.k + y.k)), .dat (rootN y.k.toNat x.q).T, .dat (rootN x.k.toNat y.q).T, .dat (sumQ x y).D, .dat (sumQ x (negQ y)).D]) rfl ?_
  refine Ws.cons (Wt.skip (EvT.not (EvT.val (Ev.callC C__law_is hr (EvA.cons (Ev.var 8 rfl) (EvA.cons (Ev.callC C__law_sub hr (EvA.cons (Ev.var 5 rfl) (EvA.cons (Ev.var 6 rfl) EvA.nil)) (r__law_sub (its4 _) (its4 _))) (EvA.cons (Ev.var 4 rfl) EvA.nil))) (r__law_is vs (by omega))))) ?_)
  refine Ws.cons (Wt.skip (EvT.to (EvT.of (EvW.or (EvT.not (EvT.val (Ev.callC C_same1 hr (EvA.cons (Ev.callC C_ring_sum hr (EvA.cons (Ev.var 8 rfl) (EvA.cons (Ev.var 3 rfl) EvA.nil)) (rs hs hy e2)) (EvA.cons (Ev.var 2 rfl) EvA.nil)) (r__law_same (okd5 x))))) fun _ => (EvW.or1 (EvT.not (EvT.val (Ev.callC C_same1 hr (EvA.cons (Ev.callC C_ring_difference hr (EvA.cons (Ev.var 7 rfl) (EvA.cons (Ev.var 2 rfl) EvA.nil)) (rd ht hx e1)) (EvA.cons (Ev.var 3 rfl) EvA.nil)) (r__law_same (okd5 y)))))))) (by simp)) ?_)
  refine Ws.cons (Wt.skip (EvT.not (EvT.val (Ev.callC C__law_is hr (EvA.cons (Ev.callC C_ring_product hr (EvA.cons (Ev.var 2 rfl) (EvA.cons (Ev.var 3 rfl) EvA.nil)) (rp hx hy rfl)) (EvA.cons (Ev.callC C__law_product hr (EvA.cons (Ev.var 2 rfl) (EvA.cons (Ev.var 3 rfl) EvA.nil)) (r__law_product (its5 x) (its5 y) (by omega) hx.2.2 hy.2.2)) (EvA.cons (Ev.var 4 rfl) EvA.nil))) (r__law_is (prodV hx hy) (by omega))))) ?_)
  have t1 := ht.2.1
  have s1 := hs.2.1
  refine Ws.cons (Wt.skip (EvT.not (EvT.val (Ev.callC C__law_is hr (EvA.cons (Ev.callC C_ring_product hr (EvA.cons (Ev.var 7 rfl) (EvA.cons (Ev.var 8 rfl) EvA.nil)) (rp ht hs rfl)) (EvA.cons (Ev.callC C__law_product hr (EvA.cons (Ev.var 7 rfl) (EvA.cons (Ev.var 8 rfl) EvA.nil)) (r__law_product (its5 _) (its5 _) (by omega) ht.2.2 hs.2.2)) (EvA.cons (Ev.bin (Ev.ix (Ev.var 7 rfl) Ev.int) (Ev.ix (Ev.var 8 rfl) Ev.int) od_add) EvA.nil))) (r__law_is (prodV ht hs) (by omega))))) ?_)
  exact Ws.cons (Wt.ret (Ev.andT (Ev.callC C__law_images hr (EvA.cons (Ev.var 2 rfl) EvA.nil) (r__law_images hx)) (Ev.andT (Ev.callC C__law_images hr (EvA.cons (Ev.var 7 rfl) EvA.nil) (r__law_images ht)) (Ev.andT (Ev.callC C__law_neutral hr (EvA.cons (Ev.var 2 rfl) EvA.nil) (r__law_neutral hx)) (Ev.bone (Ev.callCS 0 C__law_powers hr (EvA.own 1 rfl (EvA.cons (Ev.var 3 rfl) EvA.nil)) rfl (r__law_powers hy)))))) ⟨rfl, [(ad, _)], rfl⟩)
end
end Q

namespace Q
open PySem PySem.Spec PyProof.Rows L2 Evl Pm
def spLaw (K : PySem.W.Frag) : Sp := fun vs H Q _ => ∃ (a : Addr) (ns : List Int), vs = [.ref a] ∧ SqL K H a (ns.map V.int) ∧ ns.length ≤ 63 ∧ ∀ H', Q (.bl true) H'
/-! ### what the top has left -/
theorem sp_law {P : Program} {wd : World} {K : PySem.W.Frag} {mg : Str → Option Value} {base : Heap} {f : Addr} {fd : FuncData} {k : Nat} (F : FnOk P wd K mg base CX0 k f fd ["script"] (spG K 1 R_law)) : FnOk P wd K mg base CX0 k f fd ["script"] (spLaw K) :=
  F.imp fun vs H Q E ⟨a, ns, e, hS, hl, q⟩ => ⟨⟨H, H, Ex.refl H⟩, [], _, [], _, rfl, rfl, own_nil, rfl, by
    rw [e]
    exact .cons (show AgOk K H (.ref a) (.dat (.list (ns.map PyData.int))) from .lst hS (ints_dp ns)) .nil, r_law hl, fun v C l o r => by
    cases r
    exact q C.h⟩
theorem all_mk {l : PySem.W.OpenLaw} {w : World} {K : PySem.W.Frag} {h : Heap} {mg : Str → Option Value} {fa f0 f1 f2 f3 f4 f5 f6 f7 f8 f9 f10 f11 f12 f13 f14 f15 f16 f17 f18 f19 f20 f21 f22 f23 f24 f25 f26 f27 f28 f29 f30 f31 g0 g1 : Addr} (X : K.In h) (G : h.Ns mainGlobals mg) (hfa : mg "law" = some (.ref fa))
    {od0 an0 od1 an1 od2 an2 od3 an3 od4 an4 od5 an5 od6 an6 od7 an7 od8 an8 od9 an9 od10 an10 od11 an11 od12 an12 od13 an13 od14 an14 od15 an15 od16 an16 od17 an17 od18 an18 od19 an19 od20 an20 od21 an21 od22 an22 od23 an23 od24 an24 od25 an25 od26 an26 od27 an27 od28 an28 od29 an29 od30 an30 od31 an31 : Option Addr} {sl0 sl1 sl2 sl3 sl4 sl5 sl6 sl7 sl8 sl9 sl10 sl11 sl12 sl13 sl14 sl15 sl16 sl17 sl18 sl19 sl20 sl21 sl22 sl23 sl24 sl25 sl26 sl27 sl28 sl29 sl30 sl31 : Array (Option Value)} {oc0 kV0 dc0 pm0 cd0 ct0 oc1 kV1 dc1 pm1 cd1 ct1 oc2 kV2 dc2 pm2 cd2 ct2 oc3 kV3 dc3 pm3 cd3 ct3 oc4 kV4 dc4 pm4 cd4 ct4 oc5 kV5 dc5 pm5 cd5 ct5 oc6 kV6 dc6 pm6 cd6 ct6 oc7 kV7 dc7 pm7 cd7 ct7 oc8 kV8 dc8 pm8 cd8 ct8 oc9 kV9 dc9 pm9 cd9 ct9 oc10 kV10 dc10 pm10 cd10 ct10 oc11 kV11 dc11 pm11 cd11 ct11 oc12 kV12 dc12 pm12 cd12 ct12 oc13 kV13 dc13 pm13 cd13 ct13 oc14 kV14 dc14 pm14 cd14 ct14 oc15 kV15 dc15 pm15 cd15 ct15 oc16 kV16 dc16 pm16 cd16 ct16 oc17 kV17 dc17 pm17 cd17 ct17 oc18 kV18 dc18 pm18 cd18 ct18 oc19 kV19 dc19 pm19 cd19 ct19 oc20 kV20 dc20 pm20 cd20 ct20 oc21 kV21 dc21 pm21 cd21 ct21 oc22 kV22 dc22 pm22 cd22 ct22 oc23 kV23 dc23 pm23 cd23 ct23 oc24 kV24 dc24 pm24 cd24 ct24 oc25 kV25 dc25 pm25 cd25 ct25 oc26 kV26 dc26 pm26 cd26 ct26 oc27 kV27 dc27 pm27 cd27 ct27 oc28 kV28 dc28 pm28 cd28 ct28 oc29 kV29 dc29 pm29 cd29 ct29 oc30 kV30 dc30 pm30 cd30 ct30 oc31 kV31 dc31 pm31 cd31 ct31 : Value}
    {ug0 : Option Addr} {ng0 : Nat} {sg0 : Array (Option Value)} {t0_0 t0_1 t0_2 t0_3 t0_4 : Tok}
    {ug1 : Option Addr} {ng1 : Nat} {sg1 : Array (Option Value)} {h1_0 h1_1 h1_2 h1_3 h1_4 h1_5 h1_6 h1_7 : Addr}
    {uh1_0 : Option Addr} {nh1_0 : Nat} {sh1_0 : Array (Option Value)} {t1_0_0 t1_0_1 t1_0_2 t1_0_3 t1_0_4 : Tok}
    {uh1_1 : Option Addr} {nh1_1 : Nat} {sh1_1 : Array (Option Value)} {t1_1_0 t1_1_1 t1_1_2 t1_1_3 t1_1_4 : Tok}
    {uh1_2 : Option Addr} {nh1_2 : Nat} {sh1_2 : Array (Option Value)} {t1_2_0 t1_2_1 t1_2_2 t1_2_3 t1_2_4 : Tok}
    {uh1_3 : Option Addr} {nh1_3 : Nat} {sh1_3 : Array (Option Value)} {t1_3_0 t1_3_1 t1_3_2 t1_3_3 t1_3_4 : Tok}
    {uh1_4 : Option Addr} {nh1_4 : Nat} {sh1_4 : Array (Option Value)} {t1_4_0 t1_4_1 t1_4_2 t1_4_3 t1_4_4 : Tok}
    {uh1_5 : Option Addr} {nh1_5 : Nat} {sh1_5 : Array (Option Value)} {t1_5_0 t1_5_1 t1_5_2 t1_5_3 t1_5_4 : Tok}
    {uh1_6 : Option Addr} {nh1_6 : Nat} {sh1_6 : Array (Option Value)} {t1_6_0 t1_6_1 t1_6_2 t1_6_3 t1_6_4 : Tok}
    {uh1_7 : Option Addr} {nh1_7 : Nat} {sh1_7 : Array (Option Value)} {t1_7_0 t1_7_1 t1_7_2 t1_7_3 t1_7_4 : Tok}
    (a0 : PySem.W.nsIn K mainGlobals "ring_number" = some (some (.ref f0))) (l0 : K.lookup f0 = some ⟨oc0, od0, .func (PySem.W.fnOf "ring_number" "ring_number" (defArgs s_ring_number) (defBody s_ring_number) (defScope s_ring_number) .none kV0 dc0 pm0 an0 cd0 ct0), sl0⟩) (c0 : PySem.W.codeIn K cd0 "ring_number" = true) (k0 : PySem.W.keepIn K (.ref f0) = true)
    (a1 : PySem.W.nsIn K mainGlobals "parts_over" = some (some (.ref f1))) (l1 : K.lookup f1 = some ⟨oc1, od1, .func (PySem.W.fnOf "parts_over" "parts_over" (defArgs s_parts_over) (defBody s_parts_over) (defScope s_parts_over) .none kV1 dc1 pm1 an1 cd1 ct1), sl1⟩) (c1 : PySem.W.codeIn K cd1 "parts_over" = true) (k1 : PySem.W.keepIn K (.ref f1) = true)
    (a2 : PySem.W.nsIn K mainGlobals "parts_product" = some (some (.ref f2))) (l2 : K.lookup f2 = some ⟨oc2, od2, .func (PySem.W.fnOf "parts_product" "parts_product" (defArgs s_parts_product) (defBody s_parts_product) (defScope s_parts_product) .none kV2 dc2 pm2 an2 cd2 ct2), sl2⟩) (c2 : PySem.W.codeIn K cd2 "parts_product" = true) (k2 : PySem.W.keepIn K (.ref f2) = true)
    (a3 : PySem.W.nsIn K mainGlobals "ring_sum" = some (some (.ref f3))) (l3 : K.lookup f3 = some ⟨oc3, od3, .func (PySem.W.fnOf "ring_sum" "ring_sum" (defArgs s_ring_sum) (defBody s_ring_sum) (defScope s_ring_sum) .none kV3 dc3 pm3 an3 cd3 ct3), sl3⟩) (c3 : PySem.W.codeIn K cd3 "ring_sum" = true) (k3 : PySem.W.keepIn K (.ref f3) = true)
    (a4 : PySem.W.nsIn K mainGlobals "ring_difference" = some (some (.ref f4))) (l4 : K.lookup f4 = some ⟨oc4, od4, .func (PySem.W.fnOf "ring_difference" "ring_difference" (defArgs s_ring_difference) (defBody s_ring_difference) (defScope s_ring_difference) .none kV4 dc4 pm4 an4 cd4 ct4), sl4⟩) (c4 : PySem.W.codeIn K cd4 "ring_difference" = true) (k4 : PySem.W.keepIn K (.ref f4) = true)
    (a5 : PySem.W.nsIn K mainGlobals "ring_product" = some (some (.ref f5))) (l5 : K.lookup f5 = some ⟨oc5, od5, .func (PySem.W.fnOf "ring_product" "ring_product" (defArgs s_ring_product) (defBody s_ring_product) (defScope s_ring_product) .none kV5 dc5 pm5 an5 cd5 ct5), sl5⟩) (c5 : PySem.W.codeIn K cd5 "ring_product" = true) (k5 : PySem.W.keepIn K (.ref f5) = true)
    (a6 : PySem.W.nsIn K mainGlobals "ring_negative" = some (some (.ref f6))) (l6 : K.lookup f6 = some ⟨oc6, od6, .func (PySem.W.fnOf "ring_negative" "ring_negative" (defArgs s_ring_negative) (defBody s_ring_negative) (defScope s_ring_negative) .none kV6 dc6 pm6 an6 cd6 ct6), sl6⟩) (c6 : PySem.W.codeIn K cd6 "ring_negative" = true) (k6 : PySem.W.keepIn K (.ref f6) = true)
    (a7 : PySem.W.nsIn K mainGlobals "ring_conjugate" = some (some (.ref f7))) (l7 : K.lookup f7 = some ⟨oc7, od7, .func (PySem.W.fnOf "ring_conjugate" "ring_conjugate" (defArgs s_ring_conjugate) (defBody s_ring_conjugate) (defScope s_ring_conjugate) .none kV7 dc7 pm7 an7 cd7 ct7), sl7⟩) (c7 : PySem.W.codeIn K cd7 "ring_conjugate" = true) (k7 : PySem.W.keepIn K (.ref f7) = true)
    (a8 : PySem.W.nsIn K mainGlobals "ring_sister" = some (some (.ref f8))) (l8 : K.lookup f8 = some ⟨oc8, od8, .func (PySem.W.fnOf "ring_sister" "ring_sister" (defArgs s_ring_sister) (defBody s_ring_sister) (defScope s_ring_sister) .none kV8 dc8 pm8 an8 cd8 ct8), sl8⟩) (c8 : PySem.W.codeIn K cd8 "ring_sister" = true) (k8 : PySem.W.keepIn K (.ref f8) = true)
    (a9 : PySem.W.nsIn K mainGlobals "ring_norm" = some (some (.ref f9))) (l9 : K.lookup f9 = some ⟨oc9, od9, .func (PySem.W.fnOf "ring_norm" "ring_norm" (defArgs s_ring_norm) (defBody s_ring_norm) (defScope s_ring_norm) .none kV9 dc9 pm9 an9 cd9 ct9), sl9⟩) (c9 : PySem.W.codeIn K cd9 "ring_norm" = true) (k9 : PySem.W.keepIn K (.ref f9) = true)
    (a10 : PySem.W.nsIn K mainGlobals "ring_exponent" = some (some (.ref f10))) (l10 : K.lookup f10 = some ⟨oc10, od10, .func (PySem.W.fnOf "ring_exponent" "ring_exponent" (defArgs s_ring_exponent) (defBody s_ring_exponent) (defScope s_ring_exponent) .none kV10 dc10 pm10 an10 cd10 ct10), sl10⟩) (c10 : PySem.W.codeIn K cd10 "ring_exponent" = true) (k10 : PySem.W.keepIn K (.ref f10) = true)
    (a11 : PySem.W.nsIn K mainGlobals "omega_power" = some (some (.ref f11))) (l11 : K.lookup f11 = some ⟨oc11, od11, .func (PySem.W.fnOf "omega_power" "omega_power" (defArgs s_omega_power) (defBody s_omega_power) (defScope s_omega_power) .none kV11 dc11 pm11 an11 cd11 ct11), sl11⟩) (c11 : PySem.W.codeIn K cd11 "omega_power" = true) (k11 : PySem.W.keepIn K (.ref f11) = true)
    (a12 : PySem.W.nsIn K mainGlobals "root_power" = some (some (.ref f12))) (l12 : K.lookup f12 = some ⟨oc12, od12, .func (PySem.W.fnOf "root_power" "root_power" (defArgs s_root_power) (defBody s_root_power) (defScope s_root_power) .none kV12 dc12 pm12 an12 cd12 ct12), sl12⟩) (c12 : PySem.W.codeIn K cd12 "root_power" = true) (k12 : PySem.W.keepIn K (.ref f12) = true)
    (a13 : PySem.W.nsIn K mainGlobals "_law_source" = some (some (.ref f13))) (l13 : K.lookup f13 = some ⟨oc13, od13, .func (PySem.W.fnOf "_law_source" "_law_source" (defArgs s__law_source) (defBody s__law_source) (defScope s__law_source) .none kV13 dc13 pm13 an13 cd13 ct13), sl13⟩) (c13 : PySem.W.codeIn K cd13 "_law_source" = true) (k13 : PySem.W.keepIn K (.ref f13) = true)
    (a14 : PySem.W.nsIn K mainGlobals "_law_draw" = some (some (.ref f14))) (l14 : K.lookup f14 = some ⟨oc14, od14, .func (PySem.W.fnOf "_law_draw" "_law_draw" (defArgs s__law_draw) (defBody s__law_draw) (defScope s__law_draw) .none kV14 dc14 pm14 an14 cd14 ct14), sl14⟩) (c14 : PySem.W.codeIn K cd14 "_law_draw" = true) (k14 : PySem.W.keepIn K (.ref f14) = true)
    (a15 : PySem.W.nsIn K mainGlobals "_law_many" = some (some (.ref f15))) (l15 : K.lookup f15 = some ⟨oc15, od15, .func (PySem.W.fnOf "_law_many" "_law_many" (defArgs s__law_many) (defBody s__law_many) (defScope s__law_many) .none kV15 dc15 pm15 an15 cd15 ct15), sl15⟩) (c15 : PySem.W.codeIn K cd15 "_law_many" = true) (k15 : PySem.W.keepIn K (.ref f15) = true)
    (a16 : PySem.W.nsIn K mainGlobals "_law_integer" = some (some (.ref f16))) (l16 : K.lookup f16 = some ⟨oc16, od16, .func (PySem.W.fnOf "_law_integer" "_law_integer" (defArgs s__law_integer) (defBody s__law_integer) (defScope s__law_integer) .none kV16 dc16 pm16 an16 cd16 ct16), sl16⟩) (c16 : PySem.W.codeIn K cd16 "_law_integer" = true) (k16 : PySem.W.keepIn K (.ref f16) = true)
    (a17 : PySem.W.nsIn K mainGlobals "_law_same" = some (some (.ref f17))) (l17 : K.lookup f17 = some ⟨oc17, od17, .func (PySem.W.fnOf "_law_same" "_law_same" (defArgs s__law_same) (defBody s__law_same) (defScope s__law_same) .none kV17 dc17 pm17 an17 cd17 ct17), sl17⟩) (c17 : PySem.W.codeIn K cd17 "_law_same" = true) (k17 : PySem.W.keepIn K (.ref f17) = true)
    (a18 : PySem.W.nsIn K mainGlobals "_law_form" = some (some (.ref f18))) (l18 : K.lookup f18 = some ⟨oc18, od18, .func (PySem.W.fnOf "_law_form" "_law_form" (defArgs s__law_form) (defBody s__law_form) (defScope s__law_form) .none kV18 dc18 pm18 an18 cd18 ct18), sl18⟩) (c18 : PySem.W.codeIn K cd18 "_law_form" = true) (k18 : PySem.W.keepIn K (.ref f18) = true)
    (a19 : PySem.W.nsIn K mainGlobals "_law_add" = some (some (.ref f19))) (l19 : K.lookup f19 = some ⟨oc19, od19, .func (PySem.W.fnOf "_law_add" "_law_add" (defArgs s__law_add) (defBody s__law_add) (defScope s__law_add) .none kV19 dc19 pm19 an19 cd19 ct19), sl19⟩) (c19 : PySem.W.codeIn K cd19 "_law_add" = true) (k19 : PySem.W.keepIn K (.ref f19) = true)
    (a20 : PySem.W.nsIn K mainGlobals "_law_sub" = some (some (.ref f20))) (l20 : K.lookup f20 = some ⟨oc20, od20, .func (PySem.W.fnOf "_law_sub" "_law_sub" (defArgs s__law_sub) (defBody s__law_sub) (defScope s__law_sub) .none kV20 dc20 pm20 an20 cd20 ct20), sl20⟩) (c20 : PySem.W.codeIn K cd20 "_law_sub" = true) (k20 : PySem.W.keepIn K (.ref f20) = true)
    (a21 : PySem.W.nsIn K mainGlobals "_law_turned" = some (some (.ref f21))) (l21 : K.lookup f21 = some ⟨oc21, od21, .func (PySem.W.fnOf "_law_turned" "_law_turned" (defArgs s__law_turned) (defBody s__law_turned) (defScope s__law_turned) .none kV21 dc21 pm21 an21 cd21 ct21), sl21⟩) (c21 : PySem.W.codeIn K cd21 "_law_turned" = true) (k21 : PySem.W.keepIn K (.ref f21) = true)
    (a22 : PySem.W.nsIn K mainGlobals "_law_root" = some (some (.ref f22))) (l22 : K.lookup f22 = some ⟨oc22, od22, .func (PySem.W.fnOf "_law_root" "_law_root" (defArgs s__law_root) (defBody s__law_root) (defScope s__law_root) .none kV22 dc22 pm22 an22 cd22 ct22), sl22⟩) (c22 : PySem.W.codeIn K cd22 "_law_root" = true) (k22 : PySem.W.keepIn K (.ref f22) = true)
    (a23 : PySem.W.nsIn K mainGlobals "_law_product" = some (some (.ref f23))) (l23 : K.lookup f23 = some ⟨oc23, od23, .func (PySem.W.fnOf "_law_product" "_law_product" (defArgs s__law_product) (defBody s__law_product) (defScope s__law_product) .none kV23 dc23 pm23 an23 cd23 ct23), sl23⟩) (c23 : PySem.W.codeIn K cd23 "_law_product" = true) (k23 : PySem.W.keepIn K (.ref f23) = true)
    (a24 : PySem.W.nsIn K mainGlobals "_law_sent" = some (some (.ref f24))) (l24 : K.lookup f24 = some ⟨oc24, od24, .func (PySem.W.fnOf "_law_sent" "_law_sent" (defArgs s__law_sent) (defBody s__law_sent) (defScope s__law_sent) .none kV24 dc24 pm24 an24 cd24 ct24), sl24⟩) (c24 : PySem.W.codeIn K cd24 "_law_sent" = true) (k24 : PySem.W.keepIn K (.ref f24) = true)
    (a25 : PySem.W.nsIn K mainGlobals "_law_is" = some (some (.ref f25))) (l25 : K.lookup f25 = some ⟨oc25, od25, .func (PySem.W.fnOf "_law_is" "_law_is" (defArgs s__law_is) (defBody s__law_is) (defScope s__law_is) .none kV25 dc25 pm25 an25 cd25 ct25), sl25⟩) (c25 : PySem.W.codeIn K cd25 "_law_is" = true) (k25 : PySem.W.keepIn K (.ref f25) = true)
    (a26 : PySem.W.nsIn K mainGlobals "_law_number" = some (some (.ref f26))) (l26 : K.lookup f26 = some ⟨oc26, od26, .func (PySem.W.fnOf "_law_number" "_law_number" (defArgs s__law_number) (defBody s__law_number) (defScope s__law_number) .none kV26 dc26 pm26 an26 cd26 ct26), sl26⟩) (c26 : PySem.W.codeIn K cd26 "_law_number" = true) (k26 : PySem.W.keepIn K (.ref f26) = true)
    (a27 : PySem.W.nsIn K mainGlobals "_law_partner" = some (some (.ref f27))) (l27 : K.lookup f27 = some ⟨oc27, od27, .func (PySem.W.fnOf "_law_partner" "_law_partner" (defArgs s__law_partner) (defBody s__law_partner) (defScope s__law_partner) .none kV27 dc27 pm27 an27 cd27 ct27), sl27⟩) (c27 : PySem.W.codeIn K cd27 "_law_partner" = true) (k27 : PySem.W.keepIn K (.ref f27) = true)
    (a28 : PySem.W.nsIn K mainGlobals "_law_powers" = some (some (.ref f28))) (l28 : K.lookup f28 = some ⟨oc28, od28, .func (PySem.W.fnOf "_law_powers" "_law_powers" (defArgs s__law_powers) (defBody s__law_powers) (defScope s__law_powers) .none kV28 dc28 pm28 an28 cd28 ct28), sl28⟩) (c28 : PySem.W.codeIn K cd28 "_law_powers" = true) (k28 : PySem.W.keepIn K (.ref f28) = true)
    (a29 : PySem.W.nsIn K mainGlobals "_law_images" = some (some (.ref f29))) (l29 : K.lookup f29 = some ⟨oc29, od29, .func (PySem.W.fnOf "_law_images" "_law_images" (defArgs s__law_images) (defBody s__law_images) (defScope s__law_images) .none kV29 dc29 pm29 an29 cd29 ct29), sl29⟩) (c29 : PySem.W.codeIn K cd29 "_law_images" = true) (k29 : PySem.W.keepIn K (.ref f29) = true)
    (a30 : PySem.W.nsIn K mainGlobals "_law_neutral" = some (some (.ref f30))) (l30 : K.lookup f30 = some ⟨oc30, od30, .func (PySem.W.fnOf "_law_neutral" "_law_neutral" (defArgs s__law_neutral) (defBody s__law_neutral) (defScope s__law_neutral) .none kV30 dc30 pm30 an30 cd30 ct30), sl30⟩) (c30 : PySem.W.codeIn K cd30 "_law_neutral" = true) (k30 : PySem.W.keepIn K (.ref f30) = true)
    (a31 : PySem.W.nsIn K mainGlobals "law" = some (some (.ref f31))) (l31 : K.lookup f31 = some ⟨oc31, od31, .func (PySem.W.fnOf "law" "law" (defArgs s_law) (defBody s_law) (defScope s_law) .none kV31 dc31 pm31 an31 cd31 ct31), sl31⟩) (c31 : PySem.W.codeIn K cd31 "law" = true) (k31 : PySem.W.keepIn K (.ref f31) = true)
    (z0 : PySem.W.nsIn K mainGlobals "isinstance" = some none)
    (z1 : PySem.W.nsIn K mainGlobals "int" = some none)
    (z2 : PySem.W.nsIn K mainGlobals "bool" = some none)
    (z3 : PySem.W.nsIn K mainGlobals "str" = some none)
    (z4 : PySem.W.nsIn K mainGlobals "tuple" = some none)
    (z5 : PySem.W.nsIn K mainGlobals "list" = some none)
    (z6 : PySem.W.nsIn K mainGlobals "len" = some none)
    (z7 : PySem.W.nsIn K mainGlobals "range" = some none)
    (z8 : PySem.W.nsIn K mainGlobals "abs" = some none)
    (ga0 : PySem.W.nsIn K mainGlobals "ZERO" = some (some (.ref g0))) (gl0 : K.lookup g0 = some ⟨.type "tuple", ug0, .seq #[.int 0 t0_0, .int 0 t0_1, .int 0 t0_2, .int 0 t0_3, .int 0 t0_4] ng0, sg0⟩)
    (ga1 : PySem.W.nsIn K mainGlobals "_OMEGA_POWERS" = some (some (.ref g1))) (gl1 : K.lookup g1 = some ⟨.type "tuple", ug1, .seq #[.ref h1_0, .ref h1_1, .ref h1_2, .ref h1_3, .ref h1_4, .ref h1_5, .ref h1_6, .ref h1_7] ng1, sg1⟩)
    (hl1_0 : K.lookup h1_0 = some ⟨.type "tuple", uh1_0, .seq #[.int 1 t1_0_0, .int 0 t1_0_1, .int 0 t1_0_2, .int 0 t1_0_3, .int 0 t1_0_4] nh1_0, sh1_0⟩)
    (hl1_1 : K.lookup h1_1 = some ⟨.type "tuple", uh1_1, .seq #[.int 0 t1_1_0, .int 1 t1_1_1, .int 0 t1_1_2, .int 0 t1_1_3, .int 0 t1_1_4] nh1_1, sh1_1⟩)
    (hl1_2 : K.lookup h1_2 = some ⟨.type "tuple", uh1_2, .seq #[.int 0 t1_2_0, .int 0 t1_2_1, .int 1 t1_2_2, .int 0 t1_2_3, .int 0 t1_2_4] nh1_2, sh1_2⟩)
    (hl1_3 : K.lookup h1_3 = some ⟨.type "tuple", uh1_3, .seq #[.int 0 t1_3_0, .int 0 t1_3_1, .int 0 t1_3_2, .int 1 t1_3_3, .int 0 t1_3_4] nh1_3, sh1_3⟩)
    (hl1_4 : K.lookup h1_4 = some ⟨.type "tuple", uh1_4, .seq #[.int (-1) t1_4_0, .int 0 t1_4_1, .int 0 t1_4_2, .int 0 t1_4_3, .int 0 t1_4_4] nh1_4, sh1_4⟩)
    (hl1_5 : K.lookup h1_5 = some ⟨.type "tuple", uh1_5, .seq #[.int 0 t1_5_0, .int (-1) t1_5_1, .int 0 t1_5_2, .int 0 t1_5_3, .int 0 t1_5_4] nh1_5, sh1_5⟩)
    (hl1_6 : K.lookup h1_6 = some ⟨.type "tuple", uh1_6, .seq #[.int 0 t1_6_0, .int 0 t1_6_1, .int (-1) t1_6_2, .int 0 t1_6_3, .int 0 t1_6_4] nh1_6, sh1_6⟩)
    (hl1_7 : K.lookup h1_7 = some ⟨.type "tuple", uh1_7, .seq #[.int 0 t1_7_0, .int 0 t1_7_1, .int 0 t1_7_2, .int (-1) t1_7_3, .int 0 t1_7_4] nh1_7, sh1_7⟩)
    : ∃ fd : FuncData, (∀ (s : Shared) (v : Value), BindsTo s fd ⟨[v], []⟩ [("script", v)]) ∧ ∀ base : Heap, K.In base → base.Ns mainGlobals mg → FnOk l.prog w K mg base CX0 5 fa fd ["script"] (spLaw K) := by
  have e := hfa.symm.trans (PySem.W.mg_of X G a31)
  cases e
  have F_ring_number := fun_mk (st := s_ring_number) l0 c0 k0
  have b_ring_number := F_ring_number.binds (ps := ["a", "b", "c", "d", "k"]) fun _ _ _ _ _ _ us hl => match us, hl with | [_, _, _, _, _], _ => rfl
  have n_ring_number := PySem.W.mg_of X G a0
  have F_parts_over := fun_mk (st := s_parts_over) l1 c1 k1
  have b_parts_over := F_parts_over.binds (ps := ["x", "k"]) fun _ _ _ _ _ _ us hl => match us, hl with | [_, _], _ => rfl
  have n_parts_over := PySem.W.mg_of X G a1
  have F_parts_product := fun_mk (st := s_parts_product) l2 c2 k2
  have b_parts_product := F_parts_product.binds (ps := ["x", "y"]) fun _ _ _ _ _ _ us hl => match us, hl with | [_, _], _ => rfl
  have n_parts_product := PySem.W.mg_of X G a2
  have F_ring_sum := fun_mk (st := s_ring_sum) l3 c3 k3
  have b_ring_sum := F_ring_sum.binds (ps := ["x", "y"]) fun _ _ _ _ _ _ us hl => match us, hl with | [_, _], _ => rfl
  have n_ring_sum := PySem.W.mg_of X G a3
  have F_ring_difference := fun_mk (st := s_ring_difference) l4 c4 k4
  have b_ring_difference := F_ring_difference.binds (ps := ["x", "y"]) fun _ _ _ _ _ _ us hl => match us, hl with | [_, _], _ => rfl
  have n_ring_difference := PySem.W.mg_of X G a4
  have F_ring_product := fun_mk (st := s_ring_product) l5 c5 k5
  have b_ring_product := F_ring_product.binds (ps := ["x", "y"]) fun _ _ _ _ _ _ us hl => match us, hl with | [_, _], _ => rfl
  have n_ring_product := PySem.W.mg_of X G a5
  have F_ring_negative := fun_mk (st := s_ring_negative) l6 c6 k6
  have b_ring_negative := F_ring_negative.binds (ps := ["x"]) fun _ _ _ _ _ _ us hl => match us, hl with | [_], _ => rfl
  have n_ring_negative := PySem.W.mg_of X G a6
  have F_ring_conjugate := fun_mk (st := s_ring_conjugate) l7 c7 k7
  have b_ring_conjugate := F_ring_conjugate.binds (ps := ["x"]) fun _ _ _ _ _ _ us hl => match us, hl with | [_], _ => rfl
  have n_ring_conjugate := PySem.W.mg_of X G a7
  have F_ring_sister := fun_mk (st := s_ring_sister) l8 c8 k8
  have b_ring_sister := F_ring_sister.binds (ps := ["x"]) fun _ _ _ _ _ _ us hl => match us, hl with | [_], _ => rfl
  have n_ring_sister := PySem.W.mg_of X G a8
  have F_ring_norm := fun_mk (st := s_ring_norm) l9 c9 k9
  have b_ring_norm := F_ring_norm.binds (ps := ["x"]) fun _ _ _ _ _ _ us hl => match us, hl with | [_], _ => rfl
  have n_ring_norm := PySem.W.mg_of X G a9
  have F_ring_exponent := fun_mk (st := s_ring_exponent) l10 c10 k10
  have b_ring_exponent := F_ring_exponent.binds (ps := ["x"]) fun _ _ _ _ _ _ us hl => match us, hl with | [_], _ => rfl
  have n_ring_exponent := PySem.W.mg_of X G a10
  have F_omega_power := fun_mk (st := s_omega_power) l11 c11 k11
  have b_omega_power := F_omega_power.binds (ps := ["j"]) fun _ _ _ _ _ _ us hl => match us, hl with | [_], _ => rfl
  have n_omega_power := PySem.W.mg_of X G a11
  have F_root_power := fun_mk (st := s_root_power) l12 c12 k12
  have b_root_power := F_root_power.binds (ps := ["j"]) fun _ _ _ _ _ _ us hl => match us, hl with | [_], _ => rfl
  have n_root_power := PySem.W.mg_of X G a12
  have F__law_source := fun_mk (st := s__law_source) l13 c13 k13
  have b__law_source := F__law_source.binds (ps := ["script"]) fun _ _ _ _ _ _ us hl => match us, hl with | [_], _ => rfl
  have n__law_source := PySem.W.mg_of X G a13
  have F__law_draw := fun_mk (st := s__law_draw) l14 c14 k14
  have b__law_draw := F__law_draw.binds (ps := ["source", "many"]) fun _ _ _ _ _ _ us hl => match us, hl with | [_, _], _ => rfl
  have n__law_draw := PySem.W.mg_of X G a14
  have F__law_many := fun_mk (st := s__law_many) l15 c15 k15
  have b__law_many := F__law_many.binds (ps := ["source", "small", "most"]) fun _ _ _ _ _ _ us hl => match us, hl with | [_, _, _], _ => rfl
  have n__law_many := PySem.W.mg_of X G a15
  have F__law_integer := fun_mk (st := s__law_integer) l16 c16 k16
  have b__law_integer := F__law_integer.binds (ps := ["source", "chunks"]) fun _ _ _ _ _ _ us hl => match us, hl with | [_, _], _ => rfl
  have n__law_integer := PySem.W.mg_of X G a16
  have F__law_same := fun_mk (st := s__law_same) l17 c17 k17
  have b__law_same := F__law_same.binds (ps := ["told", "due"]) fun _ _ _ _ _ _ us hl => match us, hl with | [_, _], _ => rfl
  have n__law_same := PySem.W.mg_of X G a17
  have F__law_form := fun_mk (st := s__law_form) l18 c18 k18
  have b__law_form := F__law_form.binds (ps := ["a", "b", "c", "d", "k"]) fun _ _ _ _ _ _ us hl => match us, hl with | [_, _, _, _, _], _ => rfl
  have n__law_form := PySem.W.mg_of X G a18
  have F__law_add := fun_mk (st := s__law_add) l19 c19 k19
  have b__law_add := F__law_add.binds (ps := ["x", "y"]) fun _ _ _ _ _ _ us hl => match us, hl with | [_, _], _ => rfl
  have n__law_add := PySem.W.mg_of X G a19
  have F__law_sub := fun_mk (st := s__law_sub) l20 c20 k20
  have b__law_sub := F__law_sub.binds (ps := ["x", "y"]) fun _ _ _ _ _ _ us hl => match us, hl with | [_, _], _ => rfl
  have n__law_sub := PySem.W.mg_of X G a20
  have F__law_turned := fun_mk (st := s__law_turned) l21 c21 k21
  have b__law_turned := F__law_turned.binds (ps := ["x", "j"]) fun _ _ _ _ _ _ us hl => match us, hl with | [_, _], _ => rfl
  have n__law_turned := PySem.W.mg_of X G a21
  have F__law_root := fun_mk (st := s__law_root) l22 c22 k22
  have b__law_root := F__law_root.binds (ps := ["x", "n"]) fun _ _ _ _ _ _ us hl => match us, hl with | [_, _], _ => rfl
  have n__law_root := PySem.W.mg_of X G a22
  have F__law_product := fun_mk (st := s__law_product) l23 c23 k23
  have b__law_product := F__law_product.binds (ps := ["x", "y"]) fun _ _ _ _ _ _ us hl => match us, hl with | [_, _], _ => rfl
  have n__law_product := PySem.W.mg_of X G a23
  have F__law_sent := fun_mk (st := s__law_sent) l24 c24 k24
  have b__law_sent := F__law_sent.binds (ps := ["x", "step"]) fun _ _ _ _ _ _ us hl => match us, hl with | [_, _], _ => rfl
  have n__law_sent := PySem.W.mg_of X G a24
  have F__law_is := fun_mk (st := s__law_is) l25 c25 k25
  have b__law_is := F__law_is.binds (ps := ["told", "parts", "k"]) fun _ _ _ _ _ _ us hl => match us, hl with | [_, _, _], _ => rfl
  have n__law_is := PySem.W.mg_of X G a25
  have F__law_number := fun_mk (st := s__law_number) l26 c26 k26
  have b__law_number := F__law_number.binds (ps := ["source"]) fun _ _ _ _ _ _ us hl => match us, hl with | [_], _ => rfl
  have n__law_number := PySem.W.mg_of X G a26
  have F__law_partner := fun_mk (st := s__law_partner) l27 c27 k27
  have b__law_partner := F__law_partner.binds (ps := ["source", "x"]) fun _ _ _ _ _ _ us hl => match us, hl with | [_, _], _ => rfl
  have n__law_partner := PySem.W.mg_of X G a27
  have F__law_powers := fun_mk (st := s__law_powers) l28 c28 k28
  have b__law_powers := F__law_powers.binds (ps := ["source", "x"]) fun _ _ _ _ _ _ us hl => match us, hl with | [_, _], _ => rfl
  have n__law_powers := PySem.W.mg_of X G a28
  have F__law_images := fun_mk (st := s__law_images) l29 c29 k29
  have b__law_images := F__law_images.binds (ps := ["x"]) fun _ _ _ _ _ _ us hl => match us, hl with | [_], _ => rfl
  have n__law_images := PySem.W.mg_of X G a29
  have F__law_neutral := fun_mk (st := s__law_neutral) l30 c30 k30
  have b__law_neutral := F__law_neutral.binds (ps := ["x"]) fun _ _ _ _ _ _ us hl => match us, hl with | [_], _ => rfl
  have n__law_neutral := PySem.W.mg_of X G a30
  have F_law := fun_mk (st := s_law) l31 c31 k31
  have b_law := F_law.binds (ps := ["script"]) fun _ _ _ _ _ _ us hl => match us, hl with | [_], _ => rfl
  have n_law := PySem.W.mg_of X G a31
  have m_isinstance := PySem.W.mg_none_of X G z0
  have m_int := PySem.W.mg_none_of X G z1
  have m_bool := PySem.W.mg_none_of X G z2
  have m_str := PySem.W.mg_none_of X G z3
  have m_tuple := PySem.W.mg_none_of X G z4
  have m_list := PySem.W.mg_none_of X G z5
  have m_len := PySem.W.mg_none_of X G z6
  have m_range := PySem.W.mg_none_of X G z7
  have m_abs := PySem.W.mg_none_of X G z8
  have G_ZERO : Glob K mg "ZERO" (.tuple [.int 0, .int 0, .int 0, .int 0, .int 0]) := ⟨_, .ref g0, PySem.W.mg_of X G ga0, rfl, fun f => .tup (xs := [.int 0, .int 0, .int 0, .int 0, .int 0]) (.inr ⟨_, _, _, gl0, rfl, rfl, (by show 5 ≤ sizeLine; decide), .cons ⟨_, rfl⟩ (.cons ⟨_, rfl⟩ (.cons ⟨_, rfl⟩ (.cons ⟨_, rfl⟩ (.cons ⟨_, rfl⟩ (.nil)))))⟩) (.cons (.int _) (.cons (.int _) (.cons (.int _) (.cons (.int _) (.cons (.int _) (.nil))))))⟩
  have G__OMEGA_POWERS : Glob K mg "_OMEGA_POWERS" (.tuple [.tuple [.int 1, .int 0, .int 0, .int 0, .int 0], .tuple [.int 0, .int 1, .int 0, .int 0, .int 0], .tuple [.int 0, .int 0, .int 1, .int 0, .int 0], .tuple [.int 0, .int 0, .int 0, .int 1, .int 0], .tuple [.int (-1), .int 0, .int 0, .int 0, .int 0], .tuple [.int 0, .int (-1), .int 0, .int 0, .int 0], .tuple [.int 0, .int 0, .int (-1), .int 0, .int 0], .tuple [.int 0, .int 0, .int 0, .int (-1), .int 0]]) := ⟨_, .ref g1, PySem.W.mg_of X G ga1, rfl, fun f => .tup (xs := [.ref h1_0, .ref h1_1, .ref h1_2, .ref h1_3, .ref h1_4, .ref h1_5, .ref h1_6, .ref h1_7]) (.inr ⟨_, _, _, gl1, rfl, rfl, (by show 8 ≤ sizeLine; decide), .cons rfl (.cons rfl (.cons rfl (.cons rfl (.cons rfl (.cons rfl (.cons rfl (.cons rfl (.nil))))))))⟩) (.cons (.tup (xs := [.int 1, .int 0, .int 0, .int 0, .int 0]) (.inr ⟨_, _, _, hl1_0, rfl, rfl, (by show 5 ≤ sizeLine; decide), .cons ⟨_, rfl⟩ (.cons ⟨_, rfl⟩ (.cons ⟨_, rfl⟩ (.cons ⟨_, rfl⟩ (.cons ⟨_, rfl⟩ (.nil)))))⟩) (.cons (.int _) (.cons (.int _) (.cons (.int _) (.cons (.int _) (.cons (.int _) (.nil))))))) (.cons (.tup (xs := [.int 0, .int 1, .int 0, .int 0, .int 0]) (.inr ⟨_, _, _, hl1_1, rfl, rfl, (by show 5 ≤ sizeLine; decide), .cons ⟨_, rfl⟩ (.cons ⟨_, rfl⟩ (.cons ⟨_, rfl⟩ (.cons ⟨_, rfl⟩ (.cons ⟨_, rfl⟩ (.nil)))))⟩) (.cons (.int _) (.cons (.int _) (.cons (.int _) (.cons (.int _) (.cons (.int _) (.nil))))))) (.cons (.tup (xs := [.int 0, .int 0, .int 1, .int 0, .int 0]) (.inr ⟨_, _, _, hl1_2, rfl, rfl, (by show 5 ≤ sizeLine; decide), .cons ⟨_, rfl⟩ (.cons ⟨_, rfl⟩ (.cons ⟨_, rfl⟩ (.cons ⟨_, rfl⟩ (.cons ⟨_, rfl⟩ (.nil)))))⟩) (.cons (.int _) (.cons (.int _) (.cons (.int _) (.cons (.int _) (.cons (.int _) (.nil))))))) (.cons (.tup (xs := [.int 0, .int 0, .int 0, .int 1, .int 0]) (.inr ⟨_, _, _, hl1_3, rfl, rfl, (by show 5 ≤ sizeLine; decide), .cons ⟨_, rfl⟩ (.cons ⟨_, rfl⟩ (.cons ⟨_, rfl⟩ (.cons ⟨_, rfl⟩ (.cons ⟨_, rfl⟩ (.nil)))))⟩) (.cons (.int _) (.cons (.int _) (.cons (.int _) (.cons (.int _) (.cons (.int _) (.nil))))))) (.cons (.tup (xs := [.int (-1), .int 0, .int 0, .int 0, .int 0]) (.inr ⟨_, _, _, hl1_4, rfl, rfl, (by show 5 ≤ sizeLine; decide), .cons ⟨_, rfl⟩ (.cons ⟨_, rfl⟩ (.cons ⟨_, rfl⟩ (.cons ⟨_, rfl⟩ (.cons ⟨_, rfl⟩ (.nil)))))⟩) (.cons (.int _) (.cons (.int _) (.cons (.int _) (.cons (.int _) (.cons (.int _) (.nil))))))) (.cons (.tup (xs := [.int 0, .int (-1), .int 0, .int 0, .int 0]) (.inr ⟨_, _, _, hl1_5, rfl, rfl, (by show 5 ≤ sizeLine; decide), .cons ⟨_, rfl⟩ (.cons ⟨_, rfl⟩ (.cons ⟨_, rfl⟩ (.cons ⟨_, rfl⟩ (.cons ⟨_, rfl⟩ (.nil)))))⟩) (.cons (.int _) (.cons (.int _) (.cons (.int _) (.cons (.int _) (.cons (.int _) (.nil))))))) (.cons (.tup (xs := [.int 0, .int 0, .int (-1), .int 0, .int 0]) (.inr ⟨_, _, _, hl1_6, rfl, rfl, (by show 5 ≤ sizeLine; decide), .cons ⟨_, rfl⟩ (.cons ⟨_, rfl⟩ (.cons ⟨_, rfl⟩ (.cons ⟨_, rfl⟩ (.cons ⟨_, rfl⟩ (.nil)))))⟩) (.cons (.int _) (.cons (.int _) (.cons (.int _) (.cons (.int _) (.cons (.int _) (.nil))))))) (.cons (.tup (xs := [.int 0, .int 0, .int 0, .int (-1), .int 0]) (.inr ⟨_, _, _, hl1_7, rfl, rfl, (by show 5 ≤ sizeLine; decide), .cons ⟨_, rfl⟩ (.cons ⟨_, rfl⟩ (.cons ⟨_, rfl⟩ (.cons ⟨_, rfl⟩ (.cons ⟨_, rfl⟩ (.nil)))))⟩) (.cons (.int _) (.cons (.int _) (.cons (.int _) (.cons (.int _) (.cons (.int _) (.nil))))))) (.nil)))))))))⟩
  refine ⟨PySem.W.fnOf "law" "law" (defArgs s_law) (defBody s_law) (defScope s_law) .none kV31 dc31 pm31 an31 cd31 ct31, fun s v => .of_eq rfl, fun base _ _ => ?_⟩
  have M : Blt mg := ⟨m_isinstance, m_int, m_bool, m_str, m_tuple, m_list, m_len, m_range⟩
  have C_ring_number : Cal l.prog w K mg base 1 "ring_number" 5 R_ring_number := ⟨⟨_, _, _, ok_ring_number F_ring_number G_ZERO, n_ring_number, F_ring_number.kp, b_ring_number⟩⟩
  have C_parts_over : Cal l.prog w K mg base 1 "parts_over" 2 R_parts_over := ⟨⟨_, _, _, ok_parts_over F_parts_over , n_parts_over, F_parts_over.kp, b_parts_over⟩⟩
  have C_parts_product : Cal l.prog w K mg base 1 "parts_product" 2 R_parts_product := ⟨⟨_, _, _, ok_parts_product F_parts_product , n_parts_product, F_parts_product.kp, b_parts_product⟩⟩
  have C_ring_sum : Cal l.prog w K mg base 2 "ring_sum" 2 R_ring_sum := ⟨⟨_, _, _, ok_ring_sum F_ring_sum G_ZERO C_parts_over C_ring_number, n_ring_sum, F_ring_sum.kp, b_ring_sum⟩⟩
  have C_ring_negative : Cal l.prog w K mg base 1 "ring_negative" 1 R_ring_negative := ⟨⟨_, _, _, ok_ring_negative F_ring_negative , n_ring_negative, F_ring_negative.kp, b_ring_negative⟩⟩
  have C_ring_conjugate : Cal l.prog w K mg base 1 "ring_conjugate" 1 R_ring_conjugate := ⟨⟨_, _, _, ok_ring_conjugate F_ring_conjugate , n_ring_conjugate, F_ring_conjugate.kp, b_ring_conjugate⟩⟩
  have C_ring_sister : Cal l.prog w K mg base 1 "ring_sister" 1 R_ring_sister := ⟨⟨_, _, _, ok_ring_sister F_ring_sister , n_ring_sister, F_ring_sister.kp, b_ring_sister⟩⟩
  have C_ring_difference : Cal l.prog w K mg base 3 "ring_difference" 2 R_ring_difference := ⟨⟨_, _, _, ok_ring_difference F_ring_difference C_ring_sum C_ring_negative, n_ring_difference, F_ring_difference.kp, b_ring_difference⟩⟩
  have C_ring_product : Cal l.prog w K mg base 2 "ring_product" 2 R_ring_product := ⟨⟨_, _, _, ok_ring_product F_ring_product C_parts_product C_ring_number, n_ring_product, F_ring_product.kp, b_ring_product⟩⟩
  have C_ring_norm : Cal l.prog w K mg base 3 "ring_norm" 1 R_ring_norm := ⟨⟨_, _, _, ok_ring_norm F_ring_norm C_ring_product C_ring_conjugate, n_ring_norm, F_ring_norm.kp, b_ring_norm⟩⟩
  have C_ring_exponent : Cal l.prog w K mg base 1 "ring_exponent" 1 R_ring_exponent := ⟨⟨_, _, _, ok_ring_exponent F_ring_exponent , n_ring_exponent, F_ring_exponent.kp, b_ring_exponent⟩⟩
  have C_omega_power : Cal l.prog w K mg base 1 "omega_power" 1 R_omega_power := ⟨⟨_, _, _, ok_omega_power F_omega_power G__OMEGA_POWERS, n_omega_power, F_omega_power.kp, b_omega_power⟩⟩
  have C_root_power : Cal l.prog w K mg base 1 "root_power" 1 R_root_power := ⟨⟨_, _, _, ok_root_power F_root_power , n_root_power, F_root_power.kp, b_root_power⟩⟩
  have C__law_source : CalN l.prog w K mg base 1 "_law_source" 1 R__law_source := ⟨⟨_, _, _, ok__law_source F__law_source m_int m_len m_abs, n__law_source, F__law_source.kp, b__law_source⟩⟩
  have C__law_draw : Cal l.prog w K mg base 1 "_law_draw" 2 R__law_draw := ⟨⟨_, _, _, ok__law_draw F__law_draw m_int, n__law_draw, F__law_draw.kp, b__law_draw⟩⟩
  have C__law_many : Cal l.prog w K mg base 2 "_law_many" 3 R__law_many := ⟨⟨_, _, _, ok__law_many F__law_many C__law_draw, n__law_many, F__law_many.kp, b__law_many⟩⟩
  have C__law_integer : Cal l.prog w K mg base 2 "_law_integer" 2 R__law_integer := ⟨⟨_, _, _, ok__law_integer F__law_integer C__law_draw m_range, n__law_integer, F__law_integer.kp, b__law_integer⟩⟩
  have C_same0 : Cal l.prog w K mg base 1 "_law_same" 2 (R__law_same 0) := ⟨⟨_, _, _, ok__law_same F__law_same M 0 (fun m e => by cases e), n__law_same, F__law_same.kp, b__law_same⟩⟩
  have C_same1 : Cal l.prog w K mg base 2 "_law_same" 2 (R__law_same 1) := ⟨⟨_, _, _, ok__law_same F__law_same M 1 (fun m e => by cases e; exact C_same0), n__law_same, F__law_same.kp, b__law_same⟩⟩
  have C_same2 : Cal l.prog w K mg base 3 "_law_same" 2 (R__law_same 2) := ⟨⟨_, _, _, ok__law_same F__law_same M 2 (fun m e => by cases e; exact C_same1), n__law_same, F__law_same.kp, b__law_same⟩⟩
  have C__law_form : Cal l.prog w K mg base 1 "_law_form" 5 R__law_form := ⟨⟨_, _, _, ok__law_form F__law_form M, n__law_form, F__law_form.kp, b__law_form⟩⟩
  have C__law_add : Cal l.prog w K mg base 1 "_law_add" 2 R__law_add := ⟨⟨_, _, _, ok__law_add F__law_add , n__law_add, F__law_add.kp, b__law_add⟩⟩
  have C__law_sub : Cal l.prog w K mg base 1 "_law_sub" 2 R__law_sub := ⟨⟨_, _, _, ok__law_sub F__law_sub , n__law_sub, F__law_sub.kp, b__law_sub⟩⟩
  have C__law_turned : Cal l.prog w K mg base 1 "_law_turned" 2 R__law_turned := ⟨⟨_, _, _, ok__law_turned F__law_turned M, n__law_turned, F__law_turned.kp, b__law_turned⟩⟩
  have C__law_root : Cal l.prog w K mg base 1 "_law_root" 2 R__law_root := ⟨⟨_, _, _, ok__law_root F__law_root M, n__law_root, F__law_root.kp, b__law_root⟩⟩
  have C__law_product : Cal l.prog w K mg base 1 "_law_product" 2 R__law_product := ⟨⟨_, _, _, ok__law_product F__law_product M, n__law_product, F__law_product.kp, b__law_product⟩⟩
  have C__law_sent : Cal l.prog w K mg base 1 "_law_sent" 2 R__law_sent := ⟨⟨_, _, _, ok__law_sent F__law_sent M, n__law_sent, F__law_sent.kp, b__law_sent⟩⟩
  have C__law_is : Cal l.prog w K mg base 2 "_law_is" 3 R__law_is := ⟨⟨_, _, _, ok__law_is F__law_is M C__law_root, n__law_is, F__law_is.kp, b__law_is⟩⟩
  have C__law_number : Cal l.prog w K mg base 3 "_law_number" 1 R__law_number := ⟨⟨_, _, _, ok__law_number F__law_number M C__law_integer C__law_many C__law_form, n__law_number, F__law_number.kp, b__law_number⟩⟩
  have C__law_partner : Cal l.prog w K mg base 4 "_law_partner" 2 R__law_partner := ⟨⟨_, _, _, ok__law_partner F__law_partner M C__law_draw C__law_form C__law_number, n__law_partner, F__law_partner.kp, b__law_partner⟩⟩
  have C__law_powers : Cal l.prog w K mg base 3 "_law_powers" 2 R__law_powers := ⟨⟨_, _, _, ok__law_powers F__law_powers M C__law_integer C__law_many C_omega_power C_root_power C_ring_product C__law_is C__law_turned C__law_root C_same1, n__law_powers, F__law_powers.kp, b__law_powers⟩⟩
  have C__law_images : Cal l.prog w K mg base 4 "_law_images" 1 R__law_images := ⟨⟨_, _, _, ok__law_images F__law_images M C_ring_negative C_ring_conjugate C_ring_sister C_ring_norm C_ring_exponent C__law_is C__law_sub C__law_sent C__law_product C_same0 C_same1, n__law_images, F__law_images.kp, b__law_images⟩⟩
  have C__law_neutral : Cal l.prog w K mg base 4 "_law_neutral" 1 R__law_neutral := ⟨⟨_, _, _, ok__law_neutral F__law_neutral M C_ring_sum C_ring_difference C_ring_product C_ring_negative C_ring_conjugate C_ring_sister C_ring_norm C_same2, n__law_neutral, F__law_neutral.kp, b__law_neutral⟩⟩
  have FL := ok_law (P := l.prog) (wd := w) (base := base) F_law C__law_source C__law_number C__law_partner C__law_root C_ring_sum C_ring_difference C_ring_product C__law_is C__law_add C__law_sub C__law_product C_same1 C__law_images C__law_neutral C__law_powers
  exact sp_law FL
theorem walk {l : PySem.W.OpenLaw} {q : Program} {loose : List Str} {XP : (Str → Option Value) → Heap → Prop} {YP : World → Heap → Prop} {d : DefRec} {K : Params → PySem.W.Frag} (hn : l.most = some 63) (hdf : d.params.defaults = [])
    (hY : ∀ (w : World) (h : Heap), YP w h → (K w.params).In h)
    (F : ∀ (w : World) (mg : Str → Option Value) (fa : Addr) (h : Heap), (K w.params).In h → h.Ns mainGlobals mg → mg d.name = some (.ref fa) →
      ∃ fd : FuncData, (∀ (s : Shared) (u : Value), BindsTo s fd ⟨[u], []⟩ [("script", u)]) ∧ ∀ base : Heap, (K w.params).In base → base.Ns mainGlobals mg → FnOk l.prog w (K w.params) mg base CX0 5 fa fd ["script"] (spLaw (K w.params))) :
    PySem.W.WalkO q loose XP YP l.row.toRowW d [] (fun f vs => PySem.call f vs) :=
  L2.walk_of (n := 63) (k := 5) (x := "script") (CX := fun _ => CX0) (sp := fun w => spLaw (K w.params)) hn (by decide) hdf ⟨rfl, by decide, by decide⟩ hY F (fun _ _ a ns hl _ hS => ⟨a, ns, rfl, hS, hl, fun _ => rfl⟩) fun _ _ _ _ _ z => z
end Q
open PySem PySem.W PyProof.Rows
set_option maxRecDepth 100000 in
set_option maxHeartbeats 0 in
theorem PySem.Challenge.cw_phasemill_k01_operations_holds : PySem.Challenge.rw_phasemill_k01_operations.Holds := by
  w_on; o_law; k_head; (case hw => w_witness2)
  k_fill
  refine Q.walk (l := PySem.Challenge.rw_phasemill_k01_operations) rfl rfl (fun w h Y => PySem.W.kIn_of Y) ?F
  case F =>
    intro w mg fa h KX G hmg
    refine' Q.all_mk KX G hmg ?a0 ?l0 ?c0 ?k0 ?a1 ?l1 ?c1 ?k1 ?a2 ?l2 ?c2 ?k2 ?a3 ?l3 ?c3 ?k3 ?a4 ?l4 ?c4 ?k4 ?a5 ?l5 ?c5 ?k5 ?a6 ?l6 ?c6 ?k6 ?a7 ?l7 ?c7 ?k7 ?a8 ?l8 ?c8 ?k8 ?a9 ?l9 ?c9 ?k9 ?a10 ?l10 ?c10 ?k10 ?a11 ?l11 ?c11 ?k11 ?a12 ?l12 ?c12 ?k12 ?a13 ?l13 ?c13 ?k13 ?a14 ?l14 ?c14 ?k14 ?a15 ?l15 ?c15 ?k15 ?a16 ?l16 ?c16 ?k16 ?a17 ?l17 ?c17 ?k17 ?a18 ?l18 ?c18 ?k18 ?a19 ?l19 ?c19 ?k19 ?a20 ?l20 ?c20 ?k20 ?a21 ?l21 ?c21 ?k21 ?a22 ?l22 ?c22 ?k22 ?a23 ?l23 ?c23 ?k23 ?a24 ?l24 ?c24 ?k24 ?a25 ?l25 ?c25 ?k25 ?a26 ?l26 ?c26 ?k26 ?a27 ?l27 ?c27 ?k27 ?a28 ?l28 ?c28 ?k28 ?a29 ?l29 ?c29 ?k29 ?a30 ?l30 ?c30 ?k30 ?a31 ?l31 ?c31 ?k31 ?z0 ?z1 ?z2 ?z3 ?z4 ?z5 ?z6 ?z7 ?z8 ?ga0 ?gl0 ?ga1 ?gl1 ?hl1_0 ?hl1_1 ?hl1_2 ?hl1_3 ?hl1_4 ?hl1_5 ?hl1_6 ?hl1_7
    (case a0 => k_is)
    (case l0 => k_is)
    (case c0 => k_is)
    (case k0 => k_is)
    (case a1 => k_is)
    (case l1 => k_is)
    (case c1 => k_is)
    (case k1 => k_is)
    (case a2 => k_is)
    (case l2 => k_is)
    (case c2 => k_is)
    (case k2 => k_is)
    (case a3 => k_is)
    (case l3 => k_is)
    (case c3 => k_is)
    (case k3 => k_is)
    (case a4 => k_is)
    (case l4 => k_is)
    (case c4 => k_is)
    (case k4 => k_is)
    (case a5 => k_is)
    (case l5 => k_is)
    (case c5 => k_is)
    (case k5 => k_is)
    (case a6 => k_is)
    (case l6 => k_is)
    (case c6 => k_is)
    (case k6 => k_is)
    (case a7 => k_is)
    (case l7 => k_is)
    (case c7 => k_is)
    (case k7 => k_is)
    (case a8 => k_is)
    (case l8 => k_is)
    (case c8 => k_is)
    (case k8 => k_is)
    (case a9 => k_is)
    (case l9 => k_is)
    (case c9 => k_is)
    (case k9 => k_is)
    (case a10 => k_is)
    (case l10 => k_is)
    (case c10 => k_is)
    (case k10 => k_is)
    (case a11 => k_is)
    (case l11 => k_is)
    (case c11 => k_is)
    (case k11 => k_is)
    (case a12 => k_is)
    (case l12 => k_is)
    (case c12 => k_is)
    (case k12 => k_is)
    (case a13 => k_is)
    (case l13 => k_is)
    (case c13 => k_is)
    (case k13 => k_is)
    (case a14 => k_is)
    (case l14 => k_is)
    (case c14 => k_is)
    (case k14 => k_is)
    (case a15 => k_is)
    (case l15 => k_is)
    (case c15 => k_is)
    (case k15 => k_is)
    (case a16 => k_is)
    (case l16 => k_is)
    (case c16 => k_is)
    (case k16 => k_is)
    (case a17 => k_is)
    (case l17 => k_is)
    (case c17 => k_is)
    (case k17 => k_is)
    (case a18 => k_is)
    (case l18 => k_is)
    (case c18 => k_is)
    (case k18 => k_is)
    (case a19 => k_is)
    (case l19 => k_is)
    (case c19 => k_is)
    (case k19 => k_is)
    (case a20 => k_is)
    (case l20 => k_is)
    (case c20 => k_is)
    (case k20 => k_is)
    (case a21 => k_is)
    (case l21 => k_is)
    (case c21 => k_is)
    (case k21 => k_is)
    (case a22 => k_is)
    (case l22 => k_is)
    (case c22 => k_is)
    (case k22 => k_is)
    (case a23 => k_is)
    (case l23 => k_is)
    (case c23 => k_is)
    (case k23 => k_is)
    (case a24 => k_is)
    (case l24 => k_is)
    (case c24 => k_is)
    (case k24 => k_is)
    (case a25 => k_is)
    (case l25 => k_is)
    (case c25 => k_is)
    (case k25 => k_is)
    (case a26 => k_is)
    (case l26 => k_is)
    (case c26 => k_is)
    (case k26 => k_is)
    (case a27 => k_is)
    (case l27 => k_is)
    (case c27 => k_is)
    (case k27 => k_is)
    (case a28 => k_is)
    (case l28 => k_is)
    (case c28 => k_is)
    (case k28 => k_is)
    (case a29 => k_is)
    (case l29 => k_is)
    (case c29 => k_is)
    (case k29 => k_is)
    (case a30 => k_is)
    (case l30 => k_is)
    (case c30 => k_is)
    (case k30 => k_is)
    (case a31 => k_is)
    (case l31 => k_is)
    (case c31 => k_is)
    (case k31 => k_is)
    (case z0 => k_is)
    (case z1 => k_is)
    (case z2 => k_is)
    (case z3 => k_is)
    (case z4 => k_is)
    (case z5 => k_is)
    (case z6 => k_is)
    (case z7 => k_is)
    (case z8 => k_is)
    (case ga0 => k_is)
    (case gl0 => k_is)
    (case ga1 => k_is)
    (case gl1 => k_is)
    (case hl1_0 => k_is)
    (case hl1_1 => k_is)
    (case hl1_2 => k_is)
    (case hl1_3 => k_is)
    (case hl1_4 => k_is)
    (case hl1_5 => k_is)
    (case hl1_6 => k_is)
    (case hl1_7 => k_is)

