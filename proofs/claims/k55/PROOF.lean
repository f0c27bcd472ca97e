import PyProof.Rows.All
import Wide.All
import OpenK.AllK
import Wide.FinOn
import HandS.ForMost
import HandS.IsInst
import HandS.Wide
import HandS.WideBits
import HandS.TupAny
import HandS.TupLe
import HandS.Evl
import HandS.TupMul
import HandS.Rev
import HandS.SetFor
import HandS.Walk
import HandS.Conv
import KE.KTupSum
import HandS.Text
import PySem.Challenge.RW_phasemill_k55_ends_circuit
set_option Elab.async false
set_option linter.all false
set_option maxRecDepth 100000
set_option maxHeartbeats 2000000
/-! Pm: programs by their data alone. -/
namespace Pm
open PySem PySem.Spec PyProof.Rows L2 Evl

abbrev D := PyData
/-- what an owned thing holds: a list, a dict with int and text keys -/
inductive Cell where
  | L (ds : List D)
  | M (kds : List (Key × D))
  | Z (o : Obj) (kvs : List (Key × V)) (kds : List (Key × D))
instance : Coe (List D) Cell := ⟨Cell.L⟩
abbrev W := List (Addr × Cell)

/-! ### heaps in two halves: f what is told as data for good, h what stands -/
structure HH where
  f : Hp
  h : Hp
  ok : Ex f h

section
variable {K : PySem.W.Frag} {H H' : Hp}
mutual
theorem Dp.mono (e : Ex H H') : ∀ {v : V} {d : D}, Dp K H v d → Dp K H' v d
  | _, _, .non => .non
  | _, _, .bl b => .bl b
  | _, _, .int i => .int i
  | _, _, .str x => .str x
  | _, _, .lst h r => .lst (ex_l e h) (DpAll.mono e r)
  | _, _, .tup h r => .tup (ex_t e h) (DpAll.mono e r)
theorem DpAll.mono (e : Ex H H') : ∀ {v : List V} {d : List D}, DpAll K H v d → DpAll K H' v d
  | _, _, .nil => .nil
  | _, _, .cons h r => .cons (Dp.mono e h) (DpAll.mono e r)
end
end

/-- what is known of a slot -/
inductive Slot where
  | none
  | dat (d : D)
  | own (a : Addr)

def SlotOk (K : PySem.W.Frag) (f : Hp) (s : Option V) : Slot → Prop
  | .none => True
  | .dat d => ∃ v, s = some v ∧ Dp K f v d
  | .own a => s = some (.ref a)
abbrev Sig (K : PySem.W.Frag) (f : Hp) (σ : L2.St) (ρ : List Slot) : Prop := Paired (SlotOk K f) σ ρ

theorem SlotOk.mono {K : PySem.W.Frag} {f f' : Hp} {s : Option V} {r : Slot} (e : Ex f f') (h : SlotOk K f s r) : SlotOk K f' s r := by
  cases r with
  | none => exact trivial
  | dat d => obtain ⟨v, e1, h1⟩ := h; exact ⟨v, e1, Dp.mono e h1⟩
  | own a => exact h
theorem Paired.imp {α β : Type} {R R' : α → β → Prop} (k : ∀ a b, R a b → R' a b) : ∀ {xs : List α} {ys : List β}, Paired R xs ys → Paired R' xs ys
  | _, _, .nil => .nil
  | _, _, .cons r t => .cons (k _ _ r) (Paired.imp k t)
theorem Paired.get {α β : Type} {R : α → β → Prop} : ∀ {xs : List α} {ys : List β} {i : Nat} {y : β}, Paired R xs ys → ys[i]? = some y → ∃ x, xs[i]? = some x ∧ R x y
  | _, _, _, _, .nil, e => by simp at e
  | _, _, 0, _, .cons r _, e => by simp at e; subst e; exact ⟨_, rfl, r⟩
  | _, _, i + 1, y, .cons _ t, e => by
    obtain ⟨u, h1, h2⟩ := Paired.get (i := i) (y := y) t (by simpa using e)
    exact ⟨u, by simpa using h1, h2⟩
theorem Paired.set {α β : Type} {R : α → β → Prop} {x : α} {y : β} (r : R x y) : ∀ {xs : List α} {ys : List β} (i : Nat), Paired R xs ys → Paired R (xs.set i x) (ys.set i y)
  | _, _, _, .nil => .nil
  | _, _, 0, .cons _ t => .cons r t
  | _, _, i + 1, .cons q t => .cons q (Paired.set r i t)
theorem Sig.mono {K : PySem.W.Frag} {f f' : Hp} {σ : L2.St} {ρ : List Slot} (e : Ex f f') (h : Sig K f σ ρ) : Sig K f' σ ρ := Paired.imp (fun _ _ => SlotOk.mono e) h
theorem Sig.none {K : PySem.W.Frag} {f : Hp} {σ : L2.St} {ρ : List Slot} (i : Nat) (v : Option V) (h : Sig K f σ ρ) : Sig K f (σ.set i v) (ρ.set i .none) := Paired.set (show SlotOk K f v .none from trivial) i h
def wipeS (ρ : List Slot) : List Nat → List Slot
  | [] => ρ
  | v :: vs => (wipeS ρ vs).set v .none
theorem Sig.wipe {K : PySem.W.Frag} {f : Hp} {σ : L2.St} {ρ : List Slot} (h : Sig K f σ ρ) : ∀ vs : List Nat, Sig K f (wipe σ vs) (wipeS ρ vs)
  | [] => h
  | v :: vs => Sig.none v _ (Sig.wipe h vs)

/-! ### the owned lists -/
def dom (w : W) : List Addr := w.map (·.1)
def CellOk (K : PySem.W.Frag) (f : Hp) (o : HO) : Cell → Prop
  | .L ds => ∃ vs, o = .lst vs ∧ DpAll K f vs ds
  | .M kds => ∃ kvs, o = .dK kvs ∧ Paired (fun (p : Key × V) (q : Key × D) => p.1 = q.1 ∧ Dp K f p.2 q.2) kvs kds
  | .Z od kvs kds => o = .frz od (.dK kvs) ∧ Paired (fun (p : Key × V) (q : Key × D) => p.1 = q.1 ∧ Dp K f p.2 q.2) kvs kds
theorem CellOk.mono {K : PySem.W.Frag} {f f' : Hp} {o : HO} (e : Ex f f') : ∀ {c : Cell}, CellOk K f o c → CellOk K f' o c
  | .L _, ⟨vs, h1, h2⟩ => ⟨vs, h1, DpAll.mono e h2⟩
  | .M _, ⟨kvs, h1, h2⟩ => ⟨kvs, h1, Paired.imp (fun _ _ h => ⟨h.1, Dp.mono e h.2⟩) h2⟩
  | .Z _ _ _, ⟨h1, h2⟩ => ⟨h1, Paired.imp (fun _ _ h => ⟨h.1, Dp.mono e h.2⟩) h2⟩
structure Own (K : PySem.W.Frag) (w : W) (B : HH) : Prop where
  nd : (dom w).Nodup
  has : ∀ q ∈ w, (∃ o, B.h q.1 = some o ∧ CellOk K B.f o q.2) ∧ B.f q.1 = none
theorem Own.lst {K : PySem.W.Frag} {w : W} {B : HH} (o : Own K w B) {a : Addr} {ds : List D} (m : (a, Cell.L ds) ∈ w) : (∃ vs, B.h a = some (.lst vs) ∧ DpAll K B.f vs ds) ∧ B.f a = none := by
  obtain ⟨⟨u, h1, vs, rfl, h2⟩, n⟩ := o.has _ m
  exact ⟨⟨vs, h1, h2⟩, n⟩
theorem own_nil {K : PySem.W.Frag} {B : HH} : Own K [] B := ⟨List.nodup_nil, fun q h => by simp at h⟩

/-- a step that may change the lists at S alone -/
structure Le (S : List Addr) (B C : HH) : Prop where
  f : Ex B.f C.f
  h : ∀ a o, a ∉ S → B.h a = some o → C.h a = some o
  new : ∀ a, C.f a ≠ none → B.f a ≠ none ∨ B.h a = none ∨ a ∈ S
  st : ∀ a, B.h a ≠ none → C.h a ≠ none
theorem Le.refl (S : List Addr) (B : HH) : Le S B B := ⟨Ex.refl _, fun _ _ _ e => e, fun _ h => .inl h, fun _ h => h⟩
theorem Own.at {K : PySem.W.Frag} {w : W} {B : HH} (o : Own K w B) {a : Addr} (m : a ∈ dom w) : (∃ u, B.h a = some u) ∧ B.f a = none := by
  obtain ⟨q, hq, e⟩ := List.mem_map.mp m
  subst e
  obtain ⟨⟨vs, z, _⟩, n⟩ := o.has q hq
  exact ⟨⟨vs, z⟩, n⟩
theorem Le.trans {B C E : HH} {S : List Addr} (a : Le S B C) (b : Le S C E) : Le S B E := by
  refine ⟨a.f.trans b.f, fun x u n e => b.h x u n (a.h x u n e), fun x n => ?_, fun x n => b.st x (a.st x n)⟩
  rcases b.new x n with h | h | h
  · exact a.new x h
  · by_cases m : x ∈ S
    · exact .inr (.inr m)
    · refine .inr (.inl ?_)
      cases q : B.h x with
      | none => rfl
      | some u => rw [a.h x u m q] at h; cases h
  · exact .inr (.inr h)
theorem Own.step {K : PySem.W.Frag} {w : W} {B C : HH} {S : List Addr} (o : Own K w B) (l : Le S B C) (d : ∀ a ∈ dom w, a ∉ S) : Own K w C := by
  refine ⟨o.nd, fun q hq => ?_⟩
  obtain ⟨⟨vs, z, y⟩, n⟩ := o.has q hq
  have hd : q.1 ∉ S := d _ (List.mem_map.mpr ⟨q, hq, rfl⟩)
  refine ⟨⟨vs, l.h _ _ hd z, CellOk.mono l.f y⟩, ?_⟩
  cases e : C.f q.1 with
  | none => rfl
  | some u =>
    rcases l.new q.1 (by rw [e]; simp) with k | k | k
    · exact absurd n k
    · rw [z] at k; cases k
    · exact absurd k hd
theorem Le.widen {S T : List Addr} {B C : HH} (l : Le S B C) (h : ∀ a ∈ S, a ∈ T) : Le T B C := ⟨l.f, fun a o n e => l.h a o (fun m => n (h a m)) e, fun a n => (l.new a n).imp id (Or.imp id (h a)), l.st⟩
theorem Le.nil {S : List Addr} {B C : HH} (l : Le [] B C) : Le S B C := l.widen fun a m => by simp at m

/-! ### the weakest readings -/
def wE (X : Cx) (e : Expr) : TE := fun σ H Q => ∀ pins s, Inv X pins σ H s → wpAny (model X.prog X.w) X.A (eval e X.env) (EP X pins σ Q) X.xe s
def wT (X : Cx) (e : Expr) : TT := fun σ H Q => ∀ pins s, Inv X pins σ H s → wpAny (model X.prog X.w) X.A (isTrue e X.env (eval e X.env)) (TP X pins σ Q) X.xe s
def wW (X : Cx) (e : Expr) : TT := fun σ H Q => ∀ whole pins s, Inv X pins σ H s → wpAny (model X.prog X.w) X.A (isTrue e X.env whole) (TP X pins σ Q) X.xe s
def wA (X : Cx) (es : List Expr) : TA := fun σ H Q => ∀ (pos : Pos) pins s, Inv X pins σ H s → wpAny (model X.prog X.w) X.A (spliced (backTo pos (starEach es X.env))) (AP X pins σ Q) X.xe s
structure WSt (X : Cx) (st : Stmt) (D : Ends) (σ : L2.St) (H : Hp) : Prop where
  run : ∀ pins s, Inv X pins σ H s → wpAny (model X.prog X.w) X.A (exec st X.env) (SP X pins D) X.xe s
structure WSts (X : Cx) (st : List Stmt) (D : Ends) (σ : L2.St) (H : Hp) : Prop where
  run : ∀ pins s, Inv X pins σ H s → wpAny (model X.prog X.w) X.A (execs st X.env) (SP X pins D) X.xe s
def wS (X : Cx) (st : Stmt) : TS := fun D σ H => WSt X st D σ H
def wSs (X : Cx) (st : List Stmt) : TS := fun D σ H => WSts X st D σ H
section
variable {X : Cx} {e : Expr} {es : List Expr} {st : Stmt} {sts : List Stmt}
theorem pe_w : PE X e (wE X e) := ⟨fun pins s _ _ _ I h => h pins s I⟩
theorem pt_w : PT X e (wT X e) := ⟨fun pins s _ _ _ I h => h pins s I⟩
theorem pw_w : PW X e (wW X e) := ⟨fun wh pins s _ _ _ I h => h wh pins s I⟩
theorem pa_w : PA X es (wA X es) := ⟨fun pos pins s _ _ _ I h => h pos pins s I⟩
theorem ps_w : PS X st (wS X st) := ⟨fun pins s _ _ _ I h => h.run pins s I⟩
theorem pss_w : PSs X sts (wSs X sts) := ⟨fun pins s _ _ _ I h => h.run pins s I⟩
theorem w_e {t : TE} {σ : L2.St} {H : Hp} {Q : VK} (p : PE X e t) (h : t σ H Q) : wE X e σ H Q := fun pins s I => p.run pins s σ H Q I h
theorem w_t {t : TT} {σ : L2.St} {H : Hp} {Q : Bool → Hp → Prop} (p : PT X e t) (h : t σ H Q) : wT X e σ H Q := fun pins s I => p.run pins s σ H Q I h
theorem w_w {t : TT} {σ : L2.St} {H : Hp} {Q : Bool → Hp → Prop} (p : PW X e t) (h : t σ H Q) : wW X e σ H Q := fun wh pins s I => p.run wh pins s σ H Q I h
theorem w_a {t : TA} {σ : L2.St} {H : Hp} {Q : List V → Hp → Prop} (p : PA X es t) (h : t σ H Q) : wA X es σ H Q := fun pos pins s I => p.run pos pins s σ H Q I h
theorem w_s {t : TS} {σ : L2.St} {H : Hp} {D : Ends} (p : PS X st t) (h : t D σ H) : wS X st D σ H := ⟨fun pins s I => p.run pins s σ H D I h⟩
theorem w_ss {t : TS} {σ : L2.St} {H : Hp} {D : Ends} (p : PSs X sts t) (h : t D σ H) : wSs X sts D σ H := ⟨fun pins s I => p.run pins s σ H D I h⟩
end

/-! ### data judgements -/
structure Ev (X : Cx) (e : Expr) (ρ : List Slot) (w w' : W) (d : D) : Prop where
  dm : dom w' = dom w
  run : ∀ σ B, Sig X.K B.f σ ρ → Own X.K w B → ∀ Q : VK, (∀ v C, Le (dom w) B C → Own X.K w' C → Dp X.K C.f v d → Q v C.h) → wE X e σ B.h Q
structure EvT (X : Cx) (e : Expr) (ρ : List Slot) (w w' : W) (b : Bool) : Prop where
  dm : dom w' = dom w
  run : ∀ σ B, Sig X.K B.f σ ρ → Own X.K w B → ∀ Q : Bool → Hp → Prop, (∀ C, Le (dom w) B C → Own X.K w' C → Q b C.h) → wT X e σ B.h Q
structure EvW (X : Cx) (e : Expr) (ρ : List Slot) (w w' : W) (b : Bool) : Prop where
  dm : dom w' = dom w
  run : ∀ σ B, Sig X.K B.f σ ρ → Own X.K w B → ∀ Q : Bool → Hp → Prop, (∀ C, Le (dom w) B C → Own X.K w' C → Q b C.h) → wW X e σ B.h Q
/-- arguments: data, or an owned list's name -/
inductive Ag where
  | dat (d : D)
  | own (a : Addr)
def AgOk (K : PySem.W.Frag) (f : Hp) (v : V) : Ag → Prop
  | .dat d => Dp K f v d
  | .own a => v = .ref a
theorem AgOk.mono {K : PySem.W.Frag} {f f' : Hp} {v : V} {r : Ag} (e : Ex f f') (h : AgOk K f v r) : AgOk K f' v r := by
  cases r with
  | dat d => exact Dp.mono e h
  | own a => exact h
structure EvA (X : Cx) (es : List Expr) (ρ : List Slot) (w w' : W) (as : List Ag) : Prop where
  dm : dom w' = dom w
  run : ∀ σ B, Sig X.K B.f σ ρ → Own X.K w B → ∀ Q : List V → Hp → Prop, (∀ vs C, Le (dom w) B C → Own X.K w' C → Paired (AgOk X.K C.f) vs as → Q vs C.h) → wA X es σ B.h Q

section
variable {X : Cx} {e a b : Expr} {es rest : List Expr} {ρ : List Slot} {w w1 w2 w3 : W} {d d1 d2 : D} {pos : Pos}

theorem Ev.var (i : Nat) {x : Str} (hi : ρ[i]? = some (.dat d)) (hN : X.N[i]? = some x := by rfl) (hv : Vis X.env.scope x := by first | exact Or.inl rfl | exact Or.inr (Or.inl rfl) | exact Or.inr (Or.inr rfl)) (hd : (x == ("__debug__" : Str)) = false := by decide)
    (hcd : (x == ("__classdict__" : Str)) = false := by decide) : Ev X (.Name x pos) ρ w w d := by
  refine ⟨rfl, fun σ B hs ho Q q => w_e (pe_var hN hv hd hcd) ?_⟩
  obtain ⟨s, e1, v, e2, h⟩ := Paired.get hs hi
  exact ⟨v, by rw [e1, e2], q v B (Le.refl _ _) ho h⟩
theorem Ev.int {i : Int} {j : Nat} : Ev X (.Constant (.int i) j pos) ρ w w (.int i) := ⟨rfl, fun σ B hs ho Q q => w_e pe_int (q _ B (Le.refl _ _) ho (.int i))⟩
theorem Ev.bl {i : Bool} {j : Nat} : Ev X (.Constant (.bool i) j pos) ρ w w (.bool i) := ⟨rfl, fun σ B hs ho Q q => w_e pe_bl (q _ B (Le.refl _ _) ho (.bl i))⟩
theorem Ev.non {j : Nat} : Ev X (.Constant .none j pos) ρ w w .none := ⟨rfl, fun σ B hs ho Q q => w_e pe_non (q _ B (Le.refl _ _) ho .non)⟩
theorem Ev.str {i : Str} {j : Nat} : Ev X (.Constant (.str i) j pos) ρ w w (.str i) := ⟨rfl, fun σ B hs ho Q q => w_e pe_str (q _ B (Le.refl _ _) ho (.str i))⟩
/-- a module's constant, told in the written part -/
theorem Ev.glob {x : Str} {v : V} {u : Value} (hm : X.mg x = some u) (hr : RelV v u) (hd : ∀ f : Hp, Dp X.K f v d) (hg : Gl X x := by rfl) (hdb : (x == ("__debug__" : Str)) = false := by decide) : Ev X (.Name x pos) ρ w w d :=
  ⟨rfl, fun σ B hs ho Q q => w_e (pe_glob hg hm hr hdb) (q _ B (Le.refl _ _) ho (hd _))⟩
theorem Ev.to (h : Ev X e ρ w w1 d) (k : d = d1) : Ev X e ρ w w1 d1 := k ▸ h

/-- sequence: first a, then b where a has led -/
theorem lift2 {S : W} {B C E : HH} {K : PySem.W.Frag} (h1 : dom w1 = dom w) (l1 : Le (dom w) B C) (o1 : Own K w1 C) (l2 : Le (dom w1) C E) : Le (dom w) B E := by
  rw [h1] at l2
  exact Le.trans l1 l2

/-! ### operators -/
def rW (X : Cx) (f : Value → Value → Sem Value) : R2 := fun x y H Q => ∀ pins s σ v u, Inv X pins σ H s → RelV x v → RelV y u → wpAny (model X.prog X.w) X.A (f v u) (EP X pins σ Q) X.xe s
theorem op_w {f : Value → Value → Sem Value} : OpR X f (rW X f) := fun pins s σ H x y v u Q I rx ry h => h pins s σ v u I rx ry
theorem r_w {f : Value → Value → Sem Value} {r : R2} {x y : V} {H : Hp} {Q : VK} (o : OpR X f r) (h : r x y H Q) : rW X f x y H Q := fun pins s σ v u I rx ry => o pins s σ H x y v u Q I rx ry h
/-- an operator on data: it makes at most new things -/
def OpD (X : Cx) (f : Value → Value → Sem Value) (d1 d2 d : D) : Prop := ∀ (B : HH) (x y : V), Dp X.K B.f x d1 → Dp X.K B.f y d2 → ∀ Q : VK, (∀ v C, Le [] B C → Dp X.K C.f v d → Q v C.h) → rW X f x y B.h Q
structure OpB (X : Cx) (op : Operator) (d1 d2 d : D) : Prop where
  run : OpD X (binaryOp op) d1 d2 d
structure OpC (X : Cx) (op : CmpOp) (d1 d2 d : D) : Prop where
  run : OpD X (compareOp op) d1 d2 d
theorem OpD.to {f : Value → Value → Sem Value} (h : OpD X f d1 d2 d) {d' : D} (e : d = d') : OpD X f d1 d2 d' := e ▸ h
theorem Ev.op2 {T : Expr} {f : Value → Value → Sem Value} (hT : ∀ {ta tb : TE} {r : R2}, OpR X f r → PE X a ta → PE X b tb → PE X T (tOp r ta tb)) (ha : Ev X a ρ w w1 d1) (hb : Ev X b ρ w1 w2 d2) (ho : OpD X f d1 d2 d) : Ev X T ρ w w2 d := by
  refine ⟨hb.dm.trans ha.dm, fun σ B hs hw Q q => w_e (hT op_w pe_w pe_w) ?_⟩
  refine ha.run σ B hs hw _ fun x C1 l1 o1 x1 => ?_
  refine hb.run σ C1 (Sig.mono l1.f hs) o1 _ fun y C2 l2 o2 y1 => ?_
  refine ho C2 x y (Dp.mono l2.f x1) y1 Q fun v C3 l3 v1 => ?_
  have l12 : Le (dom w) B C2 := lift2 (S := w) ha.dm l1 o1 l2
  exact q v C3 (by
    have z : Le (dom w2) C2 C3 := l3.nil
    exact lift2 (S := w) (hb.dm.trans ha.dm) l12 o2 z) (o2.step l3 (by simp)) v1
theorem Ev.bin {op : Operator} (ha : Ev X a ρ w w1 d1) (hb : Ev X b ρ w1 w2 d2) (ho : OpB X op d1 d2 d) : Ev X (.BinOp a op b pos) ρ w w2 d := Ev.op2 (fun o x y => pe_op o x y) ha hb ho.run
theorem Ev.cmp {op : CmpOp} (ha : Ev X a ρ w w1 d1) (hb : Ev X b ρ w1 w2 d2) (ho : OpC X op d1 d2 d) (hm : behindInMarks op b = false := by first | exact nomark _ | exact nobehind _ (by decide) (by decide) | rfl) : Ev X (.Compare a [op] [b] pos) ρ w w2 d :=
  Ev.op2 (fun o x y => pe_cmpR o x y hm) ha hb ho.run
end

section
variable {X : Cx} {e a b c : Expr} {es rest : List Expr} {ρ : List Slot} {w w1 w2 w3 : W} {d d1 d2 : D} {pos : Pos}

/-! ### operators on data -/
theorem OpD.int {f : Value → Value → Sem Value} {C : Int → Int → Prop} {g : Int → Int → V} {i j : Int} (o : OpR X f (rI C g)) (hc : C i j) (hd : ∀ F : Hp, Dp X.K F (g i j) d) : OpD X f (.int i) (.int j) d := fun B x y hx hy Q q => by
  cases hx
  cases hy
  exact r_w o ⟨i, j, rfl, rfl, hc, q _ B (Le.refl _ _) (hd _)⟩
theorem OpD.int0 {f : Value → Value → Sem Value} {g : Int → Int → V} {i j : Int} (o : OpR X f (rI0 g)) (hd : ∀ F : Hp, Dp X.K F (g i j) d) : OpD X f (.int i) (.int j) d := fun B x y hx hy Q q => by
  cases hx
  cases hy
  exact r_w o ⟨i, j, rfl, rfl, q _ B (Le.refl _ _) (hd _)⟩
theorem od_add {i j : Int} : OpB X .Add (.int i) (.int j) (.int (i + j)) := ⟨.int0 op_add fun _ => .int _⟩
theorem od_sub {i j : Int} : OpB X .Sub (.int i) (.int j) (.int (i - j)) := ⟨.int0 op_sub fun _ => .int _⟩
theorem od_mul {i j : Int} (h : CMul i j) : OpB X .Mult (.int i) (.int j) (.int (i * j)) := ⟨.int op_mul h fun _ => .int _⟩
theorem od_mulX {i j : Int} (h : CMulX i j) : OpB X .Mult (.int i) (.int j) (.int (i * j)) := ⟨.int op_mulX h fun _ => .int _⟩
theorem od_mod {i j : Int} (h : 0 < j) : OpB X .Mod (.int i) (.int j) (.int (i % j)) := ⟨.int op_mod h fun _ => .int _⟩
theorem od_div {i j : Int} (h : 0 < j ∧ j < 1073741824) : OpB X .FloorDiv (.int i) (.int j) (.int (i / j)) := ⟨.int op_fdiv h fun _ => .int _⟩
theorem od_divW {i j : Int} (h : CDivW i j) : OpB X .FloorDiv (.int i) (.int j) (.int (i / j)) := ⟨.int op_fdivW h fun _ => .int _⟩
theorem od_pow {i j : Int} (h : CPow i j) : OpB X .Pow (.int i) (.int j) (.int (i ^ j.toNat)) := ⟨.int op_pow h fun _ => .int _⟩
theorem od_shlW {i j : Int} (h : CShl i j) : OpB X .LShift (.int i) (.int j) (.int (i * 2 ^ j.toNat)) := ⟨.int op_shlW h fun _ => .int _⟩
theorem od_lt {i j : Int} : OpC X .Lt (.int i) (.int j) (.bool (decide (i < j))) := ⟨.int0 op_lt fun _ => .bl _⟩
theorem od_le {i j : Int} : OpC X .LtE (.int i) (.int j) (.bool (decide (i ≤ j))) := ⟨.int0 op_le fun _ => .bl _⟩
theorem od_gt {i j : Int} : OpC X .Gt (.int i) (.int j) (.bool (decide (j < i))) := ⟨.int0 op_gt fun _ => .bl _⟩
theorem od_ge {i j : Int} : OpC X .GtE (.int i) (.int j) (.bool (decide (j ≤ i))) := ⟨.int0 op_ge fun _ => .bl _⟩
theorem od_eq {i j : Int} : OpC X .Eq (.int i) (.int j) (.bool (decide (i = j))) := ⟨fun B x y hx hy Q q => by
  cases hx
  cases hy
  have e : decide (V.int i = V.int j) = decide (i = j) := by
    by_cases h : i = j
    · subst h; simp
    · rw [decide_eq_false h, decide_eq_false (fun z => h (V.int.inj z))]
  exact r_w op_eq ⟨rfl, q _ B (Le.refl _ _) (by rw [e]; exact .bl _)⟩⟩
theorem od_ne {i j : Int} : OpC X .NotEq (.int i) (.int j) (.bool (decide (i ≠ j))) := ⟨fun B x y hx hy Q q => by
  cases hx
  cases hy
  have e : (!decide (V.int i = V.int j)) = decide (i ≠ j) := by
    by_cases h : i = j
    · subst h; simp
    · rw [decide_eq_false (fun z => h (V.int.inj z)), decide_eq_true h]; rfl
  exact r_w op_ne ⟨rfl, q _ B (Le.refl _ _) (by rw [e]; exact .bl _)⟩⟩
/-- == of any data -/
theorem od_eqD (hu : X.A.units + 64 < cLine) (s1 : SeqAt.shaped d1 = true) (s2 : SeqAt.shaped d2 = true) : OpC X .Eq d1 d2 (.bool (PyData.eqv d1 d2)) := ⟨fun B x y hx hy Q q =>
  r_w (op_eqD hu) ⟨d1, d2, Dp.mono B.ok hx, Dp.mono B.ok hy, s1, s2, q _ B (Le.refl _ _) (.bl _)⟩⟩
theorem od_neD (hu : X.A.units + 64 < cLine) (s1 : SeqAt.shaped d1 = true) (s2 : SeqAt.shaped d2 = true) : OpC X .NotEq d1 d2 (.bool (!PyData.eqv d1 d2)) := ⟨fun B x y hx hy Q q =>
  r_w (op_neD hu) ⟨d1, d2, Dp.mono B.ok hx, Dp.mono B.ok hy, s1, s2, q _ B (Le.refl _ _) (.bl _)⟩⟩
/-- is None, is True, is False -/
theorem is_bool_gen {M : Model} {A : Around} {E : Value → Shared → Prop} {Q : Value → Shared → Prop} {s : Shared} {v : Value} {b : Bool} (hv : ∀ i, v ≠ .builtin i) (h : Q (.bool (v == .bool b)) s) : wpAny M A (compareOp .Is v (.bool b)) Q E s := by
  cases v with
  | builtin i => exact absurd rfl (hv i)
  | _ => exact wpAny_pure h
def isBoolD (b : Bool) : D → Bool
  | .bool c => c == b
  | _ => false
def isNoneD : D → Bool
  | .none => true
  | _ => false
theorem od_isB {b : Bool} : OpC X .Is d (.bool b) (.bool (isBoolD b d)) := ⟨fun B x y hx hy Q q => by
  cases hy
  intro pins s σ v u I rx ry
  cases ry
  have key : ∀ k : Bool, k = isBoolD b d → EP X pins σ Q (.bool k) s := fun k e => ⟨.bl k, B.h, I, rfl, q _ B (Le.refl _ _) (by rw [e]; exact .bl _)⟩
  cases hx with
  | non =>
    cases rx
    exact is_bool_gen (fun i z => by cases z) (key _ rfl)
  | bl c =>
    cases rx
    refine is_bool_gen (fun i z => by cases z) (key _ ?_)
    cases c <;> cases b <;> rfl
  | int i =>
    obtain ⟨t, rfl⟩ := rx
    exact is_bool_gen (fun i z => by cases z) (key _ rfl)
  | str i =>
    obtain ⟨t, rfl⟩ := rx
    exact is_bool_gen (fun i z => by cases z) (key _ rfl)
  | lst _ _ =>
    cases rx
    exact is_bool_gen (fun i z => by cases z) (key _ rfl)
  | tup _ _ =>
    cases rx
    exact is_bool_gen (fun i z => by cases z) (key _ rfl)⟩
theorem od_isN : OpC X .Is d .none (.bool (isNoneD d)) := ⟨fun B x y hx hy Q q => by
  cases hy
  refine r_w op_isN ⟨rfl, q _ B (Le.refl _ _) ?_⟩
  cases hx <;> exact .bl _⟩
theorem od_isNotN : OpC X .IsNot d .none (.bool (!isNoneD d)) := ⟨fun B x y hx hy Q q => by
  cases hy
  refine r_w op_notN ⟨rfl, q _ B (Le.refl _ _) ?_⟩
  cases hx <;> exact .bl _⟩

/-! ### one-place operators -/
theorem Ev.neg {i : Int} (ha : Ev X a ρ w w1 (.int i)) : Ev X (.UnaryOp .USub a pos) ρ w w1 (.int (-i)) := by
  refine ⟨ha.dm, fun σ B hs ho Q q => w_e (pe_un un_neg pe_w) ?_⟩
  refine ha.run σ B hs ho _ fun x C l o h => ?_
  cases h
  exact ⟨i, rfl, q _ C l o (.int _)⟩

/-! ### tests -/
theorem EvT.cmp {op : CmpOp} {k : Bool} (ha : Ev X a ρ w w1 d1) (hb : Ev X b ρ w1 w2 d2) (ho : OpC X op d1 d2 (.bool k)) (hm : behindInMarks op b = false := by first | exact nomark _ | exact nobehind _ (by decide) (by decide) | rfl) : EvT X (.Compare a [op] [b] pos) ρ w w2 k := by
  refine ⟨hb.dm.trans ha.dm, fun σ B hs hw Q q => w_t (pt_cmpR op_w pe_w pe_w hm) ?_⟩
  refine ha.run σ B hs hw _ fun x C1 l1 o1 x1 => ?_
  refine hb.run σ C1 (Sig.mono l1.f hs) o1 _ fun y C2 l2 o2 y1 => ?_
  refine ho.run C2 x y (Dp.mono l2.f x1) y1 _ fun v C3 l3 v1 => ?_
  have l12 : Le (dom w) B C2 := lift2 (S := w) ha.dm l1 o1 l2
  cases v1
  exact ⟨k, rfl, q C3 (lift2 (S := w) (hb.dm.trans ha.dm) l12 o2 l3.nil) (o2.step l3 (by simp))⟩
/-- any expression whose value is a bool -/
theorem EvT.val {k : Bool} (ha : Ev X a ρ w w1 (.bool k)) (he : ∀ whole, isTrue a X.env whole = (do let v ← whole; standAt a.pos; holding [v] (truthy v)) := by intro _; rfl) : EvT X a ρ w w1 k := by
  refine ⟨ha.dm, fun σ B hs hw Q q => w_t (pt_val pe_w he) ?_⟩
  refine ha.run σ B hs hw _ fun x C1 l1 o1 x1 => ?_
  cases x1
  exact ⟨k, rfl, q C1 l1 o1⟩
theorem EvT.not {k : Bool} (ha : EvT X a ρ w w1 k) : EvT X (.UnaryOp .Not a pos) ρ w w1 (!k) := by
  refine ⟨ha.dm, fun σ B hs hw Q q => w_t (pt_not pt_w) ?_⟩
  exact ha.run σ B hs hw _ fun C1 l1 o1 => q C1 l1 o1
theorem EvT.of {k : Bool} (h : EvW X a ρ w w1 k) : EvT X a ρ w w1 k := ⟨h.dm, fun σ B hs hw Q q => w_t (PW.pt pw_w) (h.run σ B hs hw Q q)⟩
theorem EvT.to {k j : Bool} (h : EvT X a ρ w w1 k) (e : k = j) : EvT X a ρ w w1 j := e ▸ h
theorem EvW.and1 {k : Bool} (h : EvT X a ρ w w1 k) : EvW X (.BoolOp .And [a] pos) ρ w w1 k := ⟨h.dm, fun σ B hs hw Q q => w_w (pw_and1 pt_w) (h.run σ B hs hw Q q)⟩
theorem EvW.or1 {k : Bool} (h : EvT X a ρ w w1 k) : EvW X (.BoolOp .Or [a] pos) ρ w w1 k := ⟨h.dm, fun σ B hs hw Q q => w_w (pw_or1 pt_w) (h.run σ B hs hw Q q)⟩
theorem EvW.and {k j : Bool} (ha : EvT X a ρ w w1 k) (hb : k = true → EvW X (.BoolOp .And (b :: rest) pos) ρ w1 w1 j) : EvW X (.BoolOp .And (a :: b :: rest) pos) ρ w w1 (k && j) := by
  refine ⟨ha.dm, fun σ B hs hw Q q => w_w (pw_and pt_w pw_w) ?_⟩
  refine ha.run σ B hs hw _ fun C1 l1 o1 => ?_
  cases k with
  | false => exact q C1 l1 o1
  | true => exact (hb rfl).run σ C1 (Sig.mono l1.f hs) o1 _ fun C2 l2 o2 => q C2 (lift2 (S := w) ha.dm l1 o1 l2) o2
theorem EvW.or {k j : Bool} (ha : EvT X a ρ w w1 k) (hb : k = false → EvW X (.BoolOp .Or (b :: rest) pos) ρ w1 w1 j) : EvW X (.BoolOp .Or (a :: b :: rest) pos) ρ w w1 (k || j) := by
  refine ⟨ha.dm, fun σ B hs hw Q q => w_w (pw_or pt_w pw_w) ?_⟩
  refine ha.run σ B hs hw _ fun C1 l1 o1 => ?_
  cases k with
  | true => exact q C1 l1 o1
  | false => exact (hb rfl).run σ C1 (Sig.mono l1.f hs) o1 _ fun C2 l2 o2 => q C2 (lift2 (S := w) ha.dm l1 o1 l2) o2
/-- as values -/
theorem Ev.bone {op : BoolOp} (h : Ev X a ρ w w1 d) : Ev X (.BoolOp op [a] pos) ρ w w1 d := ⟨h.dm, fun σ B hs hw Q q => w_e (pe_one pe_w) (h.run σ B hs hw Q q)⟩
theorem Ev.and {k j : Bool} (ha : Ev X a ρ w w1 (.bool k)) (hb : k = true → Ev X (.BoolOp .And (b :: rest) pos) ρ w1 w1 (.bool j)) : Ev X (.BoolOp .And (a :: b :: rest) pos) ρ w w1 (.bool (k && j)) := by
  refine ⟨ha.dm, fun σ B hs hw Q q => w_e (pe_and pe_w pe_w) ?_⟩
  refine ha.run σ B hs hw _ fun x C1 l1 o1 x1 => ?_
  cases x1
  refine ⟨k, rfl, ?_⟩
  cases k with
  | false => exact q _ C1 l1 o1 (.bl _)
  | true => exact (hb rfl).run σ C1 (Sig.mono l1.f hs) o1 _ fun v C2 l2 o2 v2 => q v C2 (lift2 (S := w) ha.dm l1 o1 l2) o2 v2
theorem Ev.or {k j : Bool} (ha : Ev X a ρ w w1 (.bool k)) (hb : k = false → Ev X (.BoolOp .Or (b :: rest) pos) ρ w1 w1 (.bool j)) : Ev X (.BoolOp .Or (a :: b :: rest) pos) ρ w w1 (.bool (k || j)) := by
  refine ⟨ha.dm, fun σ B hs hw Q q => w_e (pe_or pe_w pe_w) ?_⟩
  refine ha.run σ B hs hw _ fun x C1 l1 o1 x1 => ?_
  cases x1
  refine ⟨k, rfl, ?_⟩
  cases k with
  | true => exact q _ C1 l1 o1 (.bl _)
  | false => exact (hb rfl).run σ C1 (Sig.mono l1.f hs) o1 _ fun v C2 l2 o2 v2 => q v C2 (lift2 (S := w) ha.dm l1 o1 l2) o2 v2
theorem Ev.not {k : Bool} (ha : Ev X a ρ w w1 (.bool k)) : Ev X (.UnaryOp .Not a pos) ρ w w1 (.bool (!k)) := by
  refine ⟨ha.dm, fun σ B hs hw Q q => w_e (pe_not pe_w) ?_⟩
  refine ha.run σ B hs hw _ fun x C1 l1 o1 x1 => ?_
  cases x1
  exact ⟨k, rfl, q _ C1 l1 o1 (.bl _)⟩
theorem Ev.ifx {k : Bool} (hc : EvT X c ρ w w1 k) (h1 : k = true → Ev X a ρ w1 w2 d) (h2 : k = false → Ev X b ρ w1 w2 d) (hd : dom w2 = dom w1 := by rfl) : Ev X (.IfExp c a b pos) ρ w w2 d := by
  refine ⟨hd.trans hc.dm, fun σ B hs hw Q q => w_e (pe_ifExp pt_w pe_w pe_w) ?_⟩
  refine hc.run σ B hs hw _ fun C1 l1 o1 => ?_
  cases k with
  | true => exact (h1 rfl).run σ C1 (Sig.mono l1.f hs) o1 _ fun v C2 l2 o2 v2 => q v C2 (lift2 (S := w) hc.dm l1 o1 l2) o2 v2
  | false => exact (h2 rfl).run σ C1 (Sig.mono l1.f hs) o1 _ fun v C2 l2 o2 v2 => q v C2 (lift2 (S := w) hc.dm l1 o1 l2) o2 v2

/-! ### chains a op b op c .. -/
structure ChT (X : Cx) (d0 : D) (ops : List CmpOp) (es : List Expr) (ρ : List Slot) (w w' : W) (k : Bool) : Prop where
  dm : dom w' = dom w
  run : ∀ (pos : Pos) σ B, Sig X.K B.f σ ρ → Own X.K w B → ∀ v, Dp X.K B.f v d0 → ∀ Q : Bool → Hp → Prop, (∀ C, Le (dom w) B C → Own X.K w' C → Q k C.h) →
    ∀ pins s u, Inv X pins σ B.h s → RelV v u → wpAny (model X.prog X.w) X.A (testChain pos u ops (evalEach es X.env)) (TP X pins σ Q) X.xe s
theorem ChT.last {op : CmpOp} {k : Bool} {d0 : D} (hb : Ev X b ρ w w1 d1) (ho : OpC X op d0 d1 (.bool k)) : ChT X d0 [op] [b] ρ w w1 k := by
  refine ⟨hb.dm, fun pos σ B hs hw v hv Q q pins s u I r => ?_⟩
  refine test_last (thn (hb.run σ B hs hw (fun y H2 => rW X (compareOp op) v y H2 fun z H3 => ∃ j, z = .bl j ∧ Q j H3) (fun y C l o y1 => ho.run C v y (Dp.mono l.f hv) y1 _ fun z C2 l2 z2 => ?_) pins s I) fun u2 s1 ⟨y, H1, I1, r1, q1⟩ => thn (q1 pins s1 σ u u2 I1 r r1) fun u3 s2 ⟨z, H2, I2, r2, j, e, q2⟩ => ?_)
  · cases z2
    exact ⟨k, rfl, q C2 (lift2 (S := w) hb.dm l o l2.nil) (o.step l2 (by simp))⟩
  · subst e
    cases r2
    exact wpAny_truthy_bool ⟨H2, I2, q2⟩
theorem ChT.link {op op' : CmpOp} {ops : List CmpOp} {k j : Bool} {d0 : D} (hb : Ev X b ρ w w1 d1) (ho : OpC X op d0 d1 (.bool k)) (hr : k = true → ChT X d1 (op' :: ops) (c :: es) ρ w1 w1 j) : ChT X d0 (op :: op' :: ops) (b :: c :: es) ρ w w1 (k && j) := by
  refine ⟨hb.dm, fun pos σ B hs hw v hv Q q pins s u I r => ?_⟩
  refine test_link (thn (hb.run σ B hs hw (fun y H2 => rW X (compareOp op) v y H2 fun z H3 => z = .bl k ∧ ∃ C, C.h = H3 ∧ Le (dom w) B C ∧ Own X.K w1 C ∧ Dp X.K C.f y d1) (fun y C l o y1 => ho.run C v y (Dp.mono l.f hv) y1 _ fun z C2 l2 z2 => ?_) pins s I) fun u2 s1 ⟨y, H1, I1, r1, q1⟩ => thn (q1 pins s1 σ u u2 I1 r r1) fun u3 s2 ⟨z, H2, I2, r2, e, C, eC, l, o, y1⟩ => ?_)
  · cases z2
    exact ⟨rfl, C2, rfl, lift2 (S := w) hb.dm l o l2.nil, o.step l2 (by simp), Dp.mono l2.f y1⟩
  · subst e
    cases r2
    subst eC
    refine wpAny_truthy_bool ?_
    cases k with
    | false => exact ⟨_, I2, q C l o⟩
    | true => exact (hr rfl).run pos σ C (Sig.mono l.f hs) o y y1 Q (fun C2 l2 o2 => q C2 (lift2 (S := w) hb.dm l o l2) o2) pins s2 u2 I2 r1
theorem EvT.chain {op op' : CmpOp} {ops : List CmpOp} {k : Bool} (ha : Ev X a ρ w w1 d) (h : ChT X d (op :: op' :: ops) (b :: c :: es) ρ w1 w2 k) (hm : lastMarks (op :: op' :: ops) (b :: c :: es) = false := by with_unfolding_all rfl) : EvT X (.Compare a (op :: op' :: ops) (b :: c :: es) pos) ρ w w2 k := by
  refine ⟨h.dm.trans ha.dm, fun σ B hs hw Q q pins s I => ?_⟩
  refine isTrue_chain (thn (ha.run σ B hs hw (fun x H1 => ∃ C, C.h = H1 ∧ Le (dom w) B C ∧ Own X.K w1 C ∧ Dp X.K C.f x d) (fun x C l o x1 => ⟨C, rfl, l, o, x1⟩) pins s I) fun u s1 ⟨x, H1, I1, r1, C, eC, l, o, x1⟩ => ?_) hm
  subst eC
  exact h.run pos σ C (Sig.mono l.f hs) o x x1 Q (fun C2 l2 o2 => q C2 (lift2 (S := w) ha.dm l o l2) o2) pins s1 u I1 r1

/-! ### argument lists, displays -/
theorem EvA.nil : EvA X [] ρ w w [] := ⟨rfl, fun σ B hs hw Q q => w_a pa_nil (q [] B (Le.refl _ _) hw .nil)⟩
theorem EvA.cons {as : List Ag} (ha : Ev X e ρ w w1 d) (hr : EvA X es ρ w1 w2 as) (hst : starEach (e :: es) X.env = (false, eval e X.env) :: starEach es X.env := by rfl) : EvA X (e :: es) ρ w w2 (.dat d :: as) := by
  refine ⟨hr.dm.trans ha.dm, fun σ B hs hw Q q => w_a (pa_cons pe_w pa_w hst) ?_⟩
  refine ha.run σ B hs hw _ fun x C1 l1 o1 x1 => ?_
  refine hr.run σ C1 (Sig.mono l1.f hs) o1 _ fun vs C2 l2 o2 v2 => ?_
  exact q _ C2 (lift2 (S := w) ha.dm l1 o1 l2) o2 (.cons (show AgOk X.K C2.f x (.dat d) from Dp.mono l2.f x1) v2)
theorem EvA.own (i : Nat) {x : Str} {ad : Addr} {as : List Ag} (hi : ρ[i]? = some (.own ad)) (hr : EvA X es ρ w w2 as) (hN : X.N[i]? = some x := by rfl) (hv : Vis X.env.scope x := by first | exact Or.inl rfl | exact Or.inr (Or.inl rfl) | exact Or.inr (Or.inr rfl)) (hd : (x == ("__debug__" : Str)) = false := by decide)
    (hcd : (x == ("__classdict__" : Str)) = false := by decide) (hst : starEach (.Name x pos :: es) X.env = (false, eval (.Name x pos) X.env) :: starEach es X.env := by rfl) : EvA X (.Name x pos :: es) ρ w w2 (.own ad :: as) := by
  refine ⟨hr.dm, fun σ B hs hw Q q => w_a (pa_cons (pe_var hN hv hd hcd) pa_w hst) ?_⟩
  obtain ⟨s, e1, h⟩ := Paired.get hs hi
  refine ⟨.ref ad, by rw [e1]; exact congrArg some h, ?_⟩
  exact hr.run σ B hs hw _ fun vs C2 l2 o2 v2 => q _ C2 l2 o2 (.cons rfl v2)
/-- all data -/
def dats : List D → List Ag := List.map Ag.dat
theorem dats_all {K : PySem.W.Frag} {f : Hp} : ∀ {vs : List V} {ds : List D}, Paired (AgOk K f) vs (dats ds) → DpAll K f vs ds
  | _, [], .nil => .nil
  | _, _ :: _, .cons r t => .cons r (dats_all t)
theorem all_dats {K : PySem.W.Frag} {f : Hp} : ∀ {vs : List V} {ds : List D}, DpAll K f vs ds → Paired (AgOk K f) vs (dats ds)
  | _, _, .nil => .nil
  | _, _, .cons r t => .cons r (all_dats t)
theorem DpAll.length {K : PySem.W.Frag} {f : Hp} : ∀ {vs : List V} {ds : List D}, DpAll K f vs ds → vs.length = ds.length
  | _, _, .nil => rfl
  | _, _, .cons _ t => by rw [List.length_cons, List.length_cons, DpAll.length t]

/-- a new object that is data at once -/
def HH.add (B : HH) (p : Addr) (o : HO) (hp : B.h p = none) : HH := ⟨upd B.f p o, upd B.h p o, fun a u e => by
  by_cases z : a = p
  · subst z
    rw [upd_same] at e ⊢
    exact e
  · rw [upd_ne z] at e ⊢
    exact B.ok a u e⟩
theorem HH.free {B : HH} {p : Addr} (hp : B.h p = none) : B.f p = none := by
  cases e : B.f p with
  | none => rfl
  | some u => rw [B.ok _ _ e] at hp; cases hp
theorem upd_st {H : Hp} {p a : Addr} {o : HO} (h : H a ≠ none) : upd H p o a ≠ none := by
  by_cases z : a = p
  · rw [z, upd_same]; simp
  · rw [upd_ne z]; exact h
theorem HH.add_le {B : HH} {p : Addr} {o : HO} (hp : B.h p = none) {S : List Addr} : Le S B (B.add p o hp) := by
  refine ⟨Ex.new (HH.free hp), fun a u _ e => Ex.new hp a u e, fun a n => ?_, fun a n => upd_st n⟩
  by_cases z : a = p
  · exact .inr (.inl (by rw [z]; exact hp))
  · refine .inl ?_
    have e : (B.add p o hp).f a = B.f a := upd_ne z
    rw [e] at n
    exact n
/-- a new object that stands, not yet data -/
def HH.put (B : HH) (p : Addr) (o : HO) (hp : B.f p = none) : HH := ⟨B.f, upd B.h p o, fun a u e => by
  have z : a ≠ p := ne_of_none e hp
  rw [upd_ne z]
  exact B.ok a u e⟩

theorem Ev.tup {ds : List D} {k : Nat} (h : EvA X es ρ w w1 (dats ds)) (hl : ds.length ≤ 100000 := by first | decide | (simp only [List.length_cons, List.length_nil]; omega)) : Ev X (.Tuple es k pos) ρ w w1 (.tuple ds) := by
  refine ⟨h.dm, fun σ B hs hw Q q => w_e (pe_tup pa_w) ?_⟩
  refine h.run σ B hs hw _ fun vs C l o v => ?_
  have va := dats_all v
  refine ⟨sz_of (by rw [DpAll.length va]; exact hl), fun p hp => ?_⟩
  have l2 : Le (dom w1) C (C.add p (.tup vs) hp) := HH.add_le hp
  exact q (.ref p) (C.add p (.tup vs) hp) (lift2 (S := w) h.dm l o l2) (o.step (HH.add_le (S := []) hp) (by simp)) (.tup (SqT.of upd_same) (DpAll.mono l2.f va))
theorem Ev.lst {ds : List D} (h : EvA X es ρ w w1 (dats ds)) (hl : ds.length ≤ 100000 := by first | decide | (simp only [List.length_cons, List.length_nil]; omega)) : Ev X (.List es pos) ρ w w1 (.list ds) := by
  refine ⟨h.dm, fun σ B hs hw Q q => w_e (pe_lst pa_w) ?_⟩
  refine h.run σ B hs hw _ fun vs C l o v => ?_
  have va := dats_all v
  refine ⟨sz_of (by rw [DpAll.length va]; exact hl), fun p hp => ?_⟩
  have l2 : Le (dom w1) C (C.add p (.lst vs) hp) := HH.add_le hp
  exact q (.ref p) (C.add p (.lst vs) hp) (lift2 (S := w) h.dm l o l2) (o.step (HH.add_le (S := []) hp) (by simp)) (.lst (SqL.of upd_same) (DpAll.mono l2.f va))
end
end Pm

namespace Pm
open PySem PySem.Spec PyProof.Rows L2 Evl
section
variable {X : Cx} {e a b c : Expr} {es rest : List Expr} {ρ : List Slot} {w w1 w2 w3 : W} {d d1 d2 : D} {ds : List D} {pos p : Pos} {x : Str}

/-! ### built-ins called on data -/
def cW (X : Cx) (f : Value) : List V → Hp → VK → Prop := fun xs H Q => ∀ pins s σ us, Inv X pins σ H s → Vals xs us → wpAny (model X.prog X.w) X.A (call f us) (EP X pins σ Q) X.xe s
theorem c_w {f : Value} : CallR X f (cW X f) := fun pins s σ H xs us Q I r h => h pins s σ us I r
theorem cw_of {f : Value} {r : List V → Hp → VK → Prop} {xs : List V} {H : Hp} {Q : VK} (o : CallR X f r) (h : r xs H Q) : cW X f xs H Q := fun pins s σ us I rx => o pins s σ H xs us Q I rx h
def CallD (X : Cx) (f : Value) (ds : List D) (d : D) : Prop := ∀ (B : HH) (xs : List V), DpAll X.K B.f xs ds → ∀ Q : VK, (∀ v C, Le [] B C → Dp X.K C.f v d → Q v C.h) → cW X f xs B.h Q
/-- a call that makes a new list -/
def CallN (X : Cx) (f : Value) (ds : List D) (ys : List D) : Prop := ∀ (B : HH) (xs : List V), DpAll X.K B.f xs ds → ∀ Q : VK, (∀ p vs C, B.h p = none → Le [] B C → C.h p = some (.lst vs) → C.f p = none → DpAll X.K C.f vs ys → Q (.ref p) C.h) → cW X f xs B.h Q
theorem Ev.callB {id : String} (h : EvA X (e :: es) ρ w w1 (dats ds)) (hc : CallD X (.builtin id) ds d) (hm : X.mg x = none) (hv : bootBuiltins x = some (.builtin id)) (hg : Gl X x := by rfl) (hn : x ≠ "__name__" := by decide) (hdb : (x == ("__debug__" : Str)) = false := by decide)
    (he : starEach (e :: es) X.env = (false, eval e X.env) :: starEach es X.env := by rfl) (hpl : (backTo pos (starEach es X.env)).any (·.1) = false := by rfl) : Ev X (.Call (.Name x p) (e :: es) [] pos) ρ w w1 d := by
  refine ⟨h.dm, fun σ B hs hw Q q => w_e (pe_callB c_w hg hm hv pa_w hn hdb he hpl) ?_⟩
  refine h.run σ B hs hw _ fun vs C l o v => ?_
  exact hc C vs (dats_all v) Q fun z E l2 z2 => q z E (lift2 (S := w) h.dm l o l2.nil) (o.step l2 (by simp)) z2
theorem Ev.callTy {T : String} (h : EvA X (e :: es) ρ w w1 (dats ds)) (hc : CallD X (.type T) ds d) (hm : X.mg x = none) (hv : bootBuiltins x = some (.type T)) (hg : Gl X x := by rfl) (hn : x ≠ "__name__" := by decide) (hdb : (x == ("__debug__" : Str)) = false := by decide)
    (he : starEach (e :: es) X.env = (false, eval e X.env) :: starEach es X.env := by rfl) (hpl : (backTo pos (starEach es X.env)).any (·.1) = false := by rfl) : Ev X (.Call (.Name x p) (e :: es) [] pos) ρ w w1 d := by
  refine ⟨h.dm, fun σ B hs hw Q q => w_e (pe_callTy c_w hg hm hv pa_w hn hdb he hpl) ?_⟩
  refine h.run σ B hs hw _ fun vs C l o v => ?_
  exact hc C vs (dats_all v) Q fun z E l2 z2 => q z E (lift2 (S := w) h.dm l o l2.nil) (o.step l2 (by simp)) z2

/-! ### what makes a new list -/
structure EvN (X : Cx) (e : Expr) (ρ : List Slot) (w w' : W) (ds : List D) : Prop where
  dm : dom w' = dom w
  run : ∀ σ B, Sig X.K B.f σ ρ → Own X.K w B → ∀ Q : VK, (∀ p vs C, B.h p = none → Le (dom w) B C → Own X.K w' C → C.h p = some (.lst vs) → C.f p = none → DpAll X.K C.f vs ds → Q (.ref p) C.h) → wE X e σ B.h Q
/-- what stands becomes data -/
def HH.tell (B : HH) (p : Addr) (o : HO) (hp : B.h p = some o) : HH := ⟨upd B.f p o, B.h, fun a u e => by
  by_cases z : a = p
  · subst z
    rw [upd_same] at e
    exact hp.trans e
  · rw [upd_ne z] at e
    exact B.ok a u e⟩
theorem HH.tell_ex {B : HH} {p : Addr} {o : HO} (hp : B.h p = some o) (hf : B.f p = none) : Ex B.f (B.tell p o hp).f := Ex.new hf
theorem Own.not_dom {K : PySem.W.Frag} {B C : HH} (o : Own K w C) (l : Le (dom w) B C) (od : ∀ a ∈ dom w, B.h a ≠ none) {p : Addr} (h : B.h p = none) : p ∉ dom w := fun m => od p m h
theorem Own.stands {K : PySem.W.Frag} {B : HH} (o : Own K w B) : ∀ a ∈ dom w, B.h a ≠ none := fun a m z => by
  obtain ⟨⟨vs, h⟩, _⟩ := o.at m
  rw [z] at h; cases h
theorem Own.tell {K : PySem.W.Frag} {B : HH} {q : Addr} {u : HO} (o : Own K w B) (hq : B.h q = some u) (hf : B.f q = none) (n : q ∉ dom w) : Own K w (B.tell q u hq) := by
  refine ⟨o.nd, fun r hr => ?_⟩
  obtain ⟨⟨vs, z, y⟩, m⟩ := o.has r hr
  have hne : r.1 ≠ q := fun k => n (by rw [← k]; exact List.mem_map.mpr ⟨r, hr, rfl⟩)
  exact ⟨⟨vs, z, CellOk.mono (HH.tell_ex hq hf) y⟩, (upd_ne hne).trans m⟩
theorem Le.tell {S : List Addr} {B C : HH} {q : Addr} {u : HO} (l : Le S B C) (hq : C.h q = some u) (hf : C.f q = none) (n : B.h q = none ∨ q ∈ S) : Le S B (C.tell q u hq) := by
  refine ⟨l.f.trans (HH.tell_ex hq hf), l.h, fun x k => ?_, l.st⟩
  by_cases z : x = q
  · rw [z]; exact .inr n
  · exact l.new x (by rw [show (C.tell q u hq).f x = C.f x from upd_ne z] at k; exact k)
theorem EvN.ev (h : EvN X e ρ w w1 ds) : Ev X e ρ w w1 (.list ds) := by
  refine ⟨h.dm, fun σ B hs hw Q q => h.run σ B hs hw Q fun p vs C hp l o h1 h2 v => ?_⟩
  have np : p ∉ dom w1 := fun m => hw.stands p (h.dm ▸ m) hp
  exact q (.ref p) (C.tell p (.lst vs) h1) (l.tell h1 h2 (.inl hp)) (o.tell h1 h2 np) (.lst (SqL.of upd_same) (DpAll.mono (HH.tell_ex h1 h2) v))
theorem EvN.to {xs : List D} (h : EvN X e ρ w w1 ds) (k : ds = xs) : EvN X e ρ w w1 xs := k ▸ h
theorem HH.put_le {B : HH} {p : Addr} {o : HO} (hp : B.h p = none) {S : List Addr} : Le S B (B.put p o (HH.free hp)) := ⟨Ex.refl _, fun a u _ e => Ex.new hp a u e, fun a n => .inl n, fun a n => upd_st n⟩
theorem EvN.lst (h : EvA X es ρ w w1 (dats ds)) (hl : ds.length ≤ 100000 := by first | decide | (simp only [List.length_cons, List.length_nil]; omega)) : EvN X (.List es pos) ρ w w1 ds := by
  refine ⟨h.dm, fun σ B hs hw Q q => w_e (pe_lst pa_w) ?_⟩
  refine h.run σ B hs hw _ fun vs C l o v => ?_
  have va := dats_all v
  refine ⟨sz_of (by rw [DpAll.length va]; exact hl), fun p hp => ?_⟩
  have bp : B.h p = none := by
    cases z : B.h p with
    | none => rfl
    | some u =>
      by_cases m : p ∈ dom w
      · exact absurd hp (o.stands p (h.dm ▸ m))
      · rw [l.h p u m z] at hp; cases hp
  exact q p vs (C.put p (.lst vs) (HH.free hp)) bp (lift2 (S := w) h.dm l o (HH.put_le hp)) (o.step (HH.put_le (S := []) hp) (by simp)) upd_same (HH.free (B := C) hp) va
/-- an address that is free behind a step was free -/
theorem Le.back {B C : HH} (l : Le (dom w) B C) (hw : Own X.K w B) (o : Own X.K w1 C) (dm : dom w1 = dom w) {p : Addr} (hp : C.h p = none) : B.h p = none := by
  cases z : B.h p with
  | none => rfl
  | some u =>
    by_cases m : p ∈ dom w
    · exact absurd hp (o.stands p (dm ▸ m))
    · rw [l.h p u m z] at hp; cases hp
theorem EvN.callTy {T : String} {ys : List D} (h : EvA X (e :: es) ρ w w1 (dats ds)) (hc : CallN X (.type T) ds ys) (hm : X.mg x = none) (hv : bootBuiltins x = some (.type T)) (hg : Gl X x := by rfl) (hn : x ≠ "__name__" := by decide) (hdb : (x == ("__debug__" : Str)) = false := by decide)
    (he : starEach (e :: es) X.env = (false, eval e X.env) :: starEach es X.env := by rfl) (hpl : (backTo pos (starEach es X.env)).any (·.1) = false := by rfl) : EvN X (.Call (.Name x p) (e :: es) [] pos) ρ w w1 ys := by
  refine ⟨h.dm, fun σ B hs hw Q q => w_e (pe_callTy c_w hg hm hv pa_w hn hdb he hpl) ?_⟩
  refine h.run σ B hs hw _ fun vs C l o v => ?_
  exact hc C vs (dats_all v) Q fun z us E hz l2 h1 h2 h3 => q z us E (Le.back l hw o h.dm hz) (lift2 (S := w) h.dm l o l2.nil) (o.step l2 (by simp)) h1 h2 h3

/-! ### the calls -/
theorem DpAll.get {K : PySem.W.Frag} {f : Hp} : ∀ {vs : List V} {ds : List D} {i : Nat} {d : D}, DpAll K f vs ds → ds[i]? = some d → ∃ v, vs[i]? = some v ∧ Dp K f v d
  | _, _, _, _, .nil, e => by simp at e
  | _, _, 0, _, .cons r _, e => by simp at e; subst e; exact ⟨_, rfl, r⟩
  | _, _, i + 1, y, .cons _ t, e => by
    obtain ⟨u, h1, h2⟩ := DpAll.get (i := i) (d := y) t (by simpa using e)
    exact ⟨u, by simpa using h1, h2⟩
theorem DpAll.ints {K : PySem.W.Frag} {f : Hp} : ∀ {vs : List V} {ns : List Int}, DpAll K f vs (ns.map PyData.int) → vs = ns.map V.int
  | _, [], .nil => rfl
  | _, n :: ns, .cons r t => by
    cases r
    rw [DpAll.ints t]
    rfl
theorem ints_dp {K : PySem.W.Frag} {f : Hp} : ∀ ns : List Int, DpAll K f (ns.map V.int) (ns.map PyData.int)
  | [] => .nil
  | n :: ns => .cons (.int n) (ints_dp ns)
theorem dp1 {K : PySem.W.Frag} {f : Hp} {vs : List V} {d : D} (h : DpAll K f vs [d]) : ∃ v, vs = [v] ∧ Dp K f v d := by
  cases h with
  | cons r t => cases t; exact ⟨_, rfl, r⟩
theorem cd_int {i : Int} : CallD X (.type "int") [.int i] (.int i) := fun B xs h Q q => by
  obtain ⟨v, rfl, r⟩ := dp1 h
  cases r
  exact cw_of call_int1 (.inl ⟨i, rfl, q _ B (Le.refl _ _) (.int i)⟩)
theorem cd_abs {i : Int} : CallD X (.builtin "abs") [.int i] (.int (if i < 0 then -i else i)) := fun B xs h Q q => by
  obtain ⟨v, rfl, r⟩ := dp1 h
  cases r
  exact cw_of call_abs ⟨i, rfl, q _ B (Le.refl _ _) (.int _)⟩
theorem cd_lenL : CallD X (.builtin "len") [.list ds] (.int (ds.length : Int)) := fun B xs h Q q => by
  obtain ⟨v, rfl, r⟩ := dp1 h
  cases r with
  | lst hs ha => exact cw_of call_len_seq ⟨_, _, rfl, .inl (ex_l B.ok hs), q _ B (Le.refl _ _) (by rw [DpAll.length ha]; exact .int _)⟩
theorem cd_lenT : CallD X (.builtin "len") [.tuple ds] (.int (ds.length : Int)) := fun B xs h Q q => by
  obtain ⟨v, rfl, r⟩ := dp1 h
  cases r with
  | tup hs ha => exact cw_of call_len_seq ⟨_, _, rfl, .inr (ex_t B.ok hs), q _ B (Le.refl _ _) (by rw [DpAll.length ha]; exact .int _)⟩
theorem cd_tupleL : CallD X (.type "tuple") [.list ds] (.tuple ds) := fun B xs h Q q => by
  obtain ⟨v, rfl, r⟩ := dp1 h
  cases r with
  | lst hs ha => exact cw_of call_tuple_of ⟨_, _, rfl, .inl ⟨ex_l B.ok hs, fun l hl => q (.ref l) (B.add l _ hl) (HH.add_le hl) (.tup (SqT.of upd_same) (DpAll.mono (HH.add_le (S := []) hl).f ha))⟩⟩
theorem cd_tupleT : CallD X (.type "tuple") [.tuple ds] (.tuple ds) := fun B xs h Q q => by
  obtain ⟨v, rfl, r⟩ := dp1 h
  cases r with
  | tup hs ha => exact cw_of call_tuple_of ⟨_, _, rfl, .inr ⟨ex_t B.ok hs, q _ B (Le.refl _ _) (.tup hs ha)⟩⟩
theorem cn_listT : CallN X (.type "list") [.tuple ds] ds := fun B xs h Q q => by
  obtain ⟨v, rfl, r⟩ := dp1 h
  cases r with
  | tup hs ha => exact cw_of call_list_of ⟨_, _, rfl, .inr (ex_t B.ok hs), fun l hl => q l _ (B.put l _ (HH.free hl)) hl (HH.put_le hl) upd_same (HH.free (B := B) hl) ha⟩
theorem cn_listL : CallN X (.type "list") [.list ds] ds := fun B xs h Q q => by
  obtain ⟨v, rfl, r⟩ := dp1 h
  cases r with
  | lst hs ha => exact cw_of call_list_of ⟨_, _, rfl, .inl (ex_l B.ok hs), fun l hl => q l _ (B.put l _ (HH.free hl)) hl (HH.put_le hl) upd_same (HH.free (B := B) hl) ha⟩
/-- the greatest of a list -/
theorem cd_maxL (hc : X.calm = true) {ns : List Int} {m : Int} (h0 : m ∈ ns) (h1 : ∀ y ∈ ns, y ≤ m) : CallD X (.builtin "max") [.list (ns.map PyData.int)] (.int m) := fun B xs h Q q => by
  obtain ⟨v, rfl, r⟩ := dp1 h
  cases r with
  | lst hs ha =>
    have e := DpAll.ints ha
    subst e
    refine cw_of (cr_max hc) ⟨_, ns, rfl, ex_l B.ok hs, List.length_pos_of_mem h0, fun m' a1 a2 => ?_⟩
    have e : m' = m := Int.le_antisymm (h1 _ a1) (a2 _ h0)
    rw [e]
    exact q _ B (Le.refl _ _) (.int m)
/-! isinstance -/
def tyName : D → String
  | .none => "NoneType"
  | .bool _ => "bool"
  | .int _ => "int"
  | .str _ => "str"
  | .list _ => "list"
  | .tuple _ => "tuple"
  | .dict _ => "dict"
theorem rd_ty {K : PySem.W.Frag} {f h : Hp} {v : V} {d : D} (e : Ex f h) (r : Dp K f v d) : TyX K h v (.type (tyName d)) := by
  cases r with
  | non => exact .base .non
  | bl b => exact .base (.bl b)
  | int i => exact .base (.int i)
  | str i => exact .base (.str i)
  | lst hs _ =>
    rcases ex_l e hs with (h1 | ⟨o, h1⟩) | ⟨o, its, n, h1, h2, _⟩
    · exact .base (.lst h1)
    · exact .base (.frz h1)
    · exact .kList h1 h2
  | tup hs _ =>
    rcases ex_t e hs with (h1 | ⟨o, h1⟩) | ⟨o, its, n, h1, h2, _⟩
    · exact .base (.tup h1)
    · exact .fTuple h1
    · exact .kTuple h1 h2
/-- isinstance(e, T), T a built-in class -/
theorem Ev.isi {T : String} {k : Bool} {p2 : Pos} {y : Str} (h : Ev X e ρ w w1 d) (hk : kitB (tyName d) T = some k) (hm : X.mg "isinstance" = none) (hy : X.mg y = none) (hv : bootBuiltins y = some (.type T)) (hg : Gl X "isinstance" := by rfl) (hgy : Gl X y := by rfl) (hyn : y ≠ "__name__" := by decide) (hyd : (y == ("__debug__" : Str)) = false := by decide)
    (he : starEach [e, .Name y p2] X.env = (false, eval e X.env) :: starEach [.Name y p2] X.env := by rfl) (hb : bootBuiltins "isinstance" = some (.builtin "isinstance") := by decide +kernel) (hpl : (backTo pos (starEach [.Name y p2] X.env)).any (·.1) = false := by rfl) (he2 : starEach [.Name y p2] X.env = (false, eval (.Name y p2) X.env) :: starEach [] X.env := by rfl) : Ev X (.Call (.Name "isinstance" p) [e, .Name y p2] [] pos) ρ w w1 (.bool k) := by
  refine ⟨h.dm, fun σ B hs hw Q q => w_e (pe_callB call_isi hg hm hb (pa_cons pe_w (pa_cons (pe_bltn (v := .ty T) hgy hy hv rfl hyn hyd) pa_nil he2) he) (by decide) (by decide) he hpl) ?_⟩
  refine h.run σ B hs hw _ fun v C l o r => ?_
  exact ⟨v, .ty T, _, _, k, rfl, .ty T, rd_ty C.ok r, kit_ty hk, q _ C l o (.bl k)⟩

/-! ### subscripts -/
theorem Ev.ixL {i : Int} (ha : Ev X a ρ w w1 (.list ds)) (hb : Ev X b ρ w1 w2 (.int i)) (h : atI ds i = some d) (hs : PlainIx b := by exact fun _ _ => rfl) : Ev X (.Subscript a b pos) ρ w w2 d := by
  refine ⟨hb.dm.trans ha.dm, fun σ B hg hw Q q => w_e (pe_ix ix_list pe_w pe_w hs) ?_⟩
  refine ha.run σ B hg hw _ fun x C1 l1 o1 x1 => ?_
  refine hb.run σ C1 (Sig.mono l1.f hg) o1 _ fun y C2 l2 o2 y1 => ?_
  cases y1
  cases x1 with
  | lst hl hd =>
    have hl2 := ex_l l2.f hl
    unfold atI at h
    cases e : ixN ds.length i with
    | none => rw [e] at h; cases h
    | some j =>
      rw [e] at h
      obtain ⟨v, h1, h2⟩ := DpAll.get (DpAll.mono l2.f hd) (show ds[j]? = some d from h)
      refine ⟨_, _, i, v, rfl, rfl, ex_l C2.ok hl2, ?_, q v C2 (lift2 (S := w) ha.dm l1 o1 l2) o2 h2⟩
      unfold atI
      rw [DpAll.length hd, e]
      exact h1
theorem Ev.ixT {i : Int} (ha : Ev X a ρ w w1 (.tuple ds)) (hb : Ev X b ρ w1 w2 (.int i)) (h : atI ds i = some d) (hs : PlainIx b := by exact fun _ _ => rfl) : Ev X (.Subscript a b pos) ρ w w2 d := by
  refine ⟨hb.dm.trans ha.dm, fun σ B hg hw Q q => w_e (pe_ix ix_tup pe_w pe_w hs) ?_⟩
  refine ha.run σ B hg hw _ fun x C1 l1 o1 x1 => ?_
  refine hb.run σ C1 (Sig.mono l1.f hg) o1 _ fun y C2 l2 o2 y1 => ?_
  cases y1
  cases x1 with
  | tup hl hd =>
    have hl2 := ex_t l2.f hl
    unfold atI at h
    cases e : ixN ds.length i with
    | none => rw [e] at h; cases h
    | some j =>
      rw [e] at h
      obtain ⟨v, h1, h2⟩ := DpAll.get (DpAll.mono l2.f hd) (show ds[j]? = some d from h)
      refine ⟨_, _, i, v, rfl, rfl, ex_t C2.ok hl2, ?_, q v C2 (lift2 (S := w) ha.dm l1 o1 l2) o2 h2⟩
      unfold atI
      rw [DpAll.length hd, e]
      exact h1
/-- an owned list read by place -/
theorem Ev.ixO (k n : Nat) {ad : Addr} {i : Int} {px : Pos} (hi : ρ[n]? = some (.own ad)) (hk : w1[k]? = some (ad, Cell.L (ds))) (hb : Ev X b ρ w w1 (.int i)) (h : atI ds i = some d) (hN : X.N[n]? = some x := by rfl) (hv : Vis X.env.scope x := by first | exact Or.inl rfl | exact Or.inr (Or.inl rfl) | exact Or.inr (Or.inr rfl)) (hs : PlainIx b := by exact fun _ _ => rfl) (hd : (x == ("__debug__" : Str)) = false := by decide)
    (hcd : (x == ("__classdict__" : Str)) = false := by decide) : Ev X (.Subscript (.Name x px) b pos) ρ w w1 d := by
  refine ⟨hb.dm, fun σ B hg hw Q q => w_e (pe_ix ix_list (pe_var hN hv hd hcd) pe_w hs) ?_⟩
  obtain ⟨s, e1, h1⟩ := Paired.get hg hi
  refine ⟨.ref ad, by rw [e1]; exact congrArg some h1, ?_⟩
  refine hb.run σ B hg hw _ fun y C2 l2 o2 y1 => ?_
  cases y1
  obtain ⟨⟨vs, hl, hd⟩, _⟩ := o2.lst (List.mem_of_getElem? hk)
  unfold atI at h
  cases e : ixN ds.length i with
  | none => rw [e] at h; cases h
  | some j =>
    rw [e] at h
    obtain ⟨v, h2, h3⟩ := DpAll.get hd (show ds[j]? = some d from h)
    refine ⟨_, _, i, v, rfl, rfl, SqL.of hl, ?_, q v C2 l2 o2 h3⟩
    unfold atI
    rw [DpAll.length hd, e]
    exact h2
/-- the first n of a list -/
theorem DpAll.take {K : PySem.W.Frag} {f : Hp} : ∀ {vs : List V} {ds : List D} (n : Nat), DpAll K f vs ds → DpAll K f (vs.take n) (ds.take n)
  | _, _, 0, _ => .nil
  | _, _, _ + 1, .nil => .nil
  | _, _, n + 1, .cons r t => .cons r (DpAll.take n t)
theorem DpAll.drop {K : PySem.W.Frag} {f : Hp} : ∀ {vs : List V} {ds : List D} (n : Nat), DpAll K f vs ds → DpAll K f (vs.drop n) (ds.drop n)
  | _, _, 0, r => r
  | _, _, _ + 1, .nil => .nil
  | _, _, n + 1, .cons _ t => DpAll.drop n t
def cutP (xs : List D) (lo hi : Option Int) : List D := (xs.drop (HT.sIx xs.length 0 lo)).take (HT.sIx xs.length xs.length hi - HT.sIx xs.length 0 lo)
theorem DpAll.cut {K : PySem.W.Frag} {f : Hp} {vs : List V} {ds : List D} {lo hi : Option Int} (h : DpAll K f vs ds) : DpAll K f (cutV vs lo hi) (cutP ds lo hi) := by
  unfold cutV cutP
  rw [DpAll.length h]
  exact DpAll.take _ (DpAll.drop _ h)
/-- part of a slice -/
structure EvP (X : Cx) (e : Option Expr) (ρ : List Slot) (w : W) (o : Option Int) : Prop where
  run : ∃ t, PO X e t ∧ ∀ σ B, Sig X.K B.f σ ρ → Own X.K w B → ∀ Q : Option Int → Hp → Prop, (∀ C, Le (dom w) B C → Own X.K w C → Q o C.h) → t σ B.h Q
theorem EvP.none : EvP X none ρ w none := ⟨_, po_none, fun σ B hs hw Q q => q B (Le.refl _ _) hw⟩
theorem EvP.some {i : Int} (h : Ev X e ρ w w (.int i)) : EvP X (some e) ρ w (some i) := ⟨_, po_some pe_w, fun σ B hs hw Q q => h.run σ B hs hw _ fun v C l o r => by
  cases r
  exact ⟨i, rfl, q C l o⟩⟩
theorem EvN.slL {lo hi : Option Expr} {i j : Option Int} {p2 : Pos} (ha : Ev X a ρ w w1 (.list ds)) (h1 : EvP X lo ρ w1 i) (h2 : EvP X hi ρ w1 j) : EvN X (.Subscript a (.Slice lo hi none p2) pos) ρ w w1 (cutP ds i j) := by
  obtain ⟨t1, p1, r1⟩ := h1
  obtain ⟨t2, p2, r2⟩ := h2
  refine ⟨ha.dm, fun σ B hg hw Q q => w_e (pe_slice sl_list pe_w p1 p2) ?_⟩
  refine ha.run σ B hg hw _ fun x C1 l1 o1 x1 => ?_
  refine r1 σ C1 (Sig.mono l1.f hg) o1 _ fun C2 l2 o2 => ?_
  refine r2 σ C2 (Sig.mono (l1.f.trans l2.f) hg) o2 _ fun C3 l3 o3 => ?_
  cases x1 with
  | lst hl hd =>
    have l13 := Le.trans l2 l3
    have lw := lift2 (S := w) ha.dm l1 o1 l13
    refine ⟨_, _, rfl, ex_l C3.ok (ex_l l13.f hl), fun p hp => ?_⟩
    exact q p _ (C3.put p _ (HH.free hp)) (Le.back lw hw o3 ha.dm hp) (lift2 (S := w) ha.dm lw o3 (HH.put_le hp)) (o3.step (HH.put_le (S := []) hp) (by simp)) upd_same (HH.free (B := C3) hp) (DpAll.cut (DpAll.mono l13.f hd))
end
end Pm

namespace Pm
open PySem PySem.Spec PyProof.Rows L2 Evl

/-! ### a def's frame by its data -/
structure Good (K : PySem.W.Frag) (S : List Addr) (B0 : HH) (w : W) (C : HH) : Prop where
  le : Le S B0 C
  own : Own K w C
  loc : ∀ a ∈ dom w, a ∈ S ∨ B0.h a = none
section
variable {K : PySem.W.Frag} {S : List Addr} {B0 B C E : HH} {w w1 w2 : W}
theorem Good.start (o : Own K w B) : Good K (dom w) B w B := ⟨Le.refl _ _, o, fun a m => .inl m⟩
theorem Good.comp (g : Good K S B0 w1 B) (g2 : Good K (dom w1) B w C) : Good K S B0 w C := by
  refine ⟨⟨g.le.f.trans g2.le.f, fun a o n e => g2.le.h a o (fun m => ?_) (g.le.h a o n e), fun a n => ?_, fun a n => g2.le.st a (g.le.st a n)⟩, g2.own, fun a m => ?_⟩
  · rcases g.loc a m with k | k
    · exact n k
    · rw [k] at e; cases e
  · rcases g2.le.new a n with k | k | k
    · exact g.le.new a k
    · by_cases m : a ∈ S
      · exact .inr (.inr m)
      · refine .inr (.inl ?_)
        cases q : B0.h a with
        | none => rfl
        | some u => rw [g.le.h a u m q] at k; cases k
    · rcases g.loc a k with z | z
      · exact .inr (.inr z)
      · exact .inr (.inl z)
  · rcases g2.loc a m with k | k
    · exact g.loc a k
    · by_cases z : a ∈ S
      · exact .inl z
      · refine .inr ?_
        cases q : B0.h a with
        | none => rfl
        | some u => rw [g.le.h a u z q] at k; cases k
theorem Good.step (g : Good K S B0 w B) (l : Le (dom w) B C) (o : Own K w1 C) (d : dom w1 = dom w) : Good K S B0 w1 C :=
  g.comp ⟨l, o, fun a m => .inl (d ▸ m)⟩
/-- a free address is not of the frame -/
theorem Good.free (g : Good K S B0 w B) {p : Addr} (h : B.h p = none) : p ∈ S ∨ B0.h p = none := by
  by_cases m : p ∈ S
  · exact .inl m
  · refine .inr ?_
    cases q : B0.h p with
    | none => rfl
    | some u => rw [g.le.h p u m q] at h; cases h
end

theorem Good.fresh {K : PySem.W.Frag} {S : List Addr} {B0 B : HH} {w : W} (g : Good K S B0 w B) {p : Addr} (h : B.h p = none) : B0.h p = none := by
  cases q : B0.h p with
  | none => rfl
  | some u => exact absurd h (g.le.st p (by rw [q]; simp))

structure DE where
  nx : List Slot → W → Prop
  rt : D → W → Prop
  rn : List D → W → Prop := fun _ _ => False
  ro : Addr → W → Prop := fun _ _ => False
  bk : List Slot → W → Prop := fun _ _ => False
  ct : List Slot → W → Prop := fun _ _ => False
structure wD (K : PySem.W.Frag) (S : List Addr) (B0 : HH) (E : DE) (Q : Ends) : Prop where
  nx : ∀ σ C ρ w, Good K S B0 w C → Sig K C.f σ ρ → E.nx ρ w → Q.nx σ C.h
  rt : ∀ v C d w, Good K S B0 w C → Dp K C.f v d → E.rt d w → Q.rt v C.h
  rn : ∀ p vs C ds w, Good K S B0 w C → B0.h p = none → C.h p = some (.lst vs) → C.f p = none → DpAll K C.f vs ds → E.rn ds w → Q.rt (.ref p) C.h
  ro : ∀ a C w, Good K S B0 w C → E.ro a w → Q.rt (.ref a) C.h
  bk : ∀ σ C ρ w, Good K S B0 w C → Sig K C.f σ ρ → E.bk ρ w → Q.bk σ C.h
  ct : ∀ σ C ρ w, Good K S B0 w C → Sig K C.f σ ρ → E.ct ρ w → Q.ct σ C.h
theorem wD.sub {K : PySem.W.Frag} {S : List Addr} {B0 B : HH} {w : W} {E : DE} {Q : Ends} (h : wD K S B0 E Q) (g : Good K S B0 w B) : wD K (dom w) B E Q :=
  ⟨fun σ C ρ w2 k => h.nx σ C ρ w2 (g.comp k), fun v C d w2 k => h.rt v C d w2 (g.comp k), fun p vs C ds w2 k n => h.rn p vs C ds w2 (g.comp k) (g.fresh n), fun a C w2 k => h.ro a C w2 (g.comp k), fun σ C ρ w2 k => h.bk σ C ρ w2 (g.comp k), fun σ C ρ w2 k => h.ct σ C ρ w2 (g.comp k)⟩
def Ws (X : Cx) (sts : List Stmt) (E : DE) (ρ : List Slot) (w : W) : Prop := ∀ S B0 σ B Q, Good X.K S B0 w B → Sig X.K B.f σ ρ → wD X.K S B0 E Q → wSs X sts Q σ B.h
def Wt (X : Cx) (st : Stmt) (E : DE) (ρ : List Slot) (w : W) : Prop := ∀ S B0 σ B Q, Good X.K S B0 w B → Sig X.K B.f σ ρ → wD X.K S B0 E Q → wS X st Q σ B.h

section
variable {X : Cx} {e a b c : Expr} {es rest : List Expr} {st : Stmt} {sts body body2 : List Stmt} {E : DE} {ρ : List Slot} {w w1 w2 w3 : W} {d d1 d2 : D} {ds : List D} {pos p pos' : Pos} {x : Str}

theorem Ws.nil (h : E.nx ρ w) : Ws X [] E ρ w := fun S B0 σ B Q g s q => w_ss pss_nil (q.nx σ B ρ w g s h)
theorem Ws.cons (h : Wt X st { E with nx := fun ρ w => Ws X sts E ρ w } ρ w) : Ws X (st :: sts) E ρ w := fun S B0 σ B Q g s q =>
  w_ss (pss_cons ps_w pss_w) (h S B0 σ B _ g s ⟨fun σ C ρ w k z y => y S B0 σ C Q k z q, q.rt, q.rn, q.ro, q.bk, q.ct⟩)
theorem Ws.one (h : Wt X st E ρ w) : Ws X [st] E ρ w := fun S B0 σ B Q g s q => w_ss (pss_one ps_w) (h S B0 σ B Q g s q)
theorem Wt.ret (h : Ev X e ρ w w1 d) (q : E.rt d w1) : Wt X (.Return (some e) pos) E ρ w := fun S B0 σ B Q g s k =>
  w_s (ps_ret pe_w) (h.run σ B s g.own _ fun v C l o r => k.rt v C d w1 (g.step l o h.dm) r q)
/-- a new list is handed back -/
theorem Wt.retNew (h : EvN X e ρ w w1 ds) (q : E.rn ds w1) : Wt X (.Return (some e) pos) E ρ w := fun S B0 σ B Q g s k =>
  w_s (ps_ret pe_w) (h.run σ B s g.own _ fun p vs C hp l o h1 h2 r => k.rn p vs C ds w1 (g.step l o h.dm) (g.fresh hp) h1 h2 r q)
theorem Wt.iteT (h : EvT X c ρ w w1 true) (h1 : Ws X body E ρ w1) : Wt X (.If c body body2 pos) E ρ w := fun S B0 σ B Q g s q =>
  w_s (ps_if pt_w pss_w pss_w) (h.run σ B s g.own _ fun C l o => h1 S B0 σ C Q (g.step l o h.dm) (Sig.mono l.f s) q)
theorem Wt.iteF (h : EvT X c ρ w w1 false) (h2 : Ws X body2 E ρ w1) : Wt X (.If c body body2 pos) E ρ w := fun S B0 σ B Q g s q =>
  w_s (ps_if pt_w pss_w pss_w) (h.run σ B s g.own _ fun C l o => h2 S B0 σ C Q (g.step l o h.dm) (Sig.mono l.f s) q)
/-- an if without an else whose test is known to fail -/
theorem Wt.skip (h : EvT X c ρ w w1 false) (h2 : E.nx ρ w1) : Wt X (.If c body [] pos) E ρ w := Wt.iteF h (Ws.nil h2)
theorem Wt.retN (q : E.rt .none w) : Wt X (.Return none pos) E ρ w := fun S B0 σ B Q g s k => w_s ps_retN (k.rt .non B .none w g .non q)
theorem Wt.pass (q : E.nx ρ w) : Wt X (.Pass pos) E ρ w := fun S B0 σ B Q g s k => w_s ps_pass (k.nx σ B ρ w g s q)
theorem Wt.brk (q : E.bk ρ w) : Wt X (.Break pos) E ρ w := fun S B0 σ B Q g s k => w_s ps_break (k.bk σ B ρ w g s q)
theorem Wt.cont (q : E.ct ρ w) : Wt X (.Continue pos) E ρ w := fun S B0 σ B Q g s k => w_s ps_continue (k.ct σ B ρ w g s q)
theorem Wt.expr (h : Ev X e ρ w w1 d) (q : E.nx ρ w1) (hs : swapsWith e none pos.line X.env = pure false := by rfl) : Wt X (.Expr e pos) E ρ w := fun S B0 σ B Q g s k =>
  w_s (ps_expr pe_w hs) (h.run σ B s g.own _ fun v C l o r => k.nx σ C ρ w1 (g.step l o h.dm) (Sig.mono l.f s) q)
theorem Wt.ite {k : Bool} (h : EvT X c ρ w w1 k) (h1 : k = true → Ws X body E ρ w1) (h2 : k = false → Ws X body2 E ρ w1) : Wt X (.If c body body2 pos) E ρ w := fun S B0 σ B Q g s q =>
  w_s (ps_if pt_w pss_w pss_w) (h.run σ B s g.own _ fun C l o => by
    cases k with
    | true => exact h1 rfl S B0 σ C Q (g.step l o h.dm) (Sig.mono l.f s) q
    | false => exact h2 rfl S B0 σ C Q (g.step l o h.dm) (Sig.mono l.f s) q)
/-- x = e -/
theorem Wt.set (i : Nat) (h : Ev X e ρ w w1 d) (q : E.nx (ρ.set i (.dat d)) w1) (hN : X.N.Nodup) (hi : X.N[i]? = some x := by rfl) (hx : Loc X.env.scope x := by first | exact Or.inl rfl | exact Or.inr rfl) (hs : swapsWith e (some (.Name x pos')) pos.line X.env = pure false := by rfl) (hf : X.fn x = true ∨ X.env.scope.names.lookup x = some .local := by first | exact .inl rfl | exact .inr rfl | assumption) :
    Wt X (.Assign [.Name x pos'] e pos) E ρ w := fun S B0 σ B Q g s k =>
  w_s (ps_set hN hi hx pe_w hs hf) (h.run σ B s g.own _ fun v C l o r => k.nx _ C _ w1 (g.step l o h.dm) (Paired.set ⟨v, rfl, r⟩ i (Sig.mono l.f s)) q)
/-- x = a new list, owned -/
theorem Wt.new (i : Nat) (h : EvN X e ρ w w1 ds) (q : ∀ a, E.nx (ρ.set i (.own a)) (w1 ++ [(a, Cell.L (ds))])) (hN : X.N.Nodup) (hi : X.N[i]? = some x := by rfl) (hx : Loc X.env.scope x := by first | exact Or.inl rfl | exact Or.inr rfl) (hs : swapsWith e (some (.Name x pos')) pos.line X.env = pure false := by rfl) (hf : X.fn x = true ∨ X.env.scope.names.lookup x = some .local := by first | exact .inl rfl | exact .inr rfl | assumption) :
    Wt X (.Assign [.Name x pos'] e pos) E ρ w := fun S B0 σ B Q g s k =>
  w_s (ps_set hN hi hx pe_w hs hf) (h.run σ B s g.own _ fun a vs C hp l o h1 h2 r => by
    have na : a ∉ dom w := fun m => g.own.stands a m hp
    have gc : Good X.K S B0 w1 C := g.step l o h.dm
    refine k.nx _ C _ _ ⟨gc.le, ⟨?_, fun q hq => ?_⟩, fun y hy => ?_⟩ (Paired.set (show SlotOk X.K C.f (some (V.ref a)) (.own a) from rfl) i (Sig.mono l.f s)) (q a)
    · unfold dom
      rw [List.map_append]
      refine List.nodup_append.mpr ⟨o.nd, by simp, fun y hy z hz => ?_⟩
      have ez : z = a := by simpa using hz
      subst ez
      intro e
      subst e
      exact na (h.dm ▸ hy)
    · rcases List.mem_append.mp hq with m | m
      · exact o.has q m
      · have ez : q = (a, Cell.L ds) := by simpa using m
        subst ez
        exact ⟨⟨_, h1, vs, rfl, r⟩, h2⟩
    · unfold dom at hy
      rw [List.map_append] at hy
      rcases List.mem_append.mp hy with m | m
      · exact gc.loc y m
      · have ez : y = a := by simpa using m
        subst ez
        exact g.free hp)
theorem dom_erase : ∀ (w : W) (k : Nat), dom (w.eraseIdx k) = (dom w).eraseIdx k
  | [], _ => rfl
  | _ :: _, 0 => rfl
  | q :: w, k + 1 => congrArg (q.1 :: ·) (dom_erase w k)
/-- what an owned list holds becomes data; it is no longer owned -/
theorem Ws.freeze (k : Nat) {i : Nat} {ad : Addr} (hk : w[k]? = some (ad, Cell.L (ds))) (hi : ρ[i]? = some (.own ad)) (h : Ws X sts E (ρ.set i (.dat (.list ds))) (w.eraseIdx k)) : Ws X sts E ρ w := fun S B0 σ B Q g s q => by
  obtain ⟨⟨vs, h1, h2⟩, h3⟩ := g.own.lst (List.mem_of_getElem? hk)
  have nd := g.own.nd
  have hkl : k < w.length := (List.getElem?_eq_some_iff.mp hk).1
  have sub : ∀ q ∈ w.eraseIdx k, q ∈ w := fun q hq => (List.eraseIdx_sublist w k).subset hq
  have nad : ad ∉ dom (w.eraseIdx k) := fun m => by
    rw [dom_erase] at m
    have hd : (dom w)[k]? = some ad := by
      unfold dom
      rw [List.getElem?_map, hk]
      rfl
    obtain ⟨j, hj⟩ := List.getElem?_of_mem m
    rw [List.getElem?_eraseIdx] at hj
    split at hj
    · have := nd_ix nd hd hj
      omega
    · have := nd_ix nd hd hj
      omega
  have nd' : (dom (w.eraseIdx k)).Nodup := by
    rw [dom_erase]
    exact List.Nodup.sublist (List.eraseIdx_sublist _ _) nd
  have o' : Own X.K (w.eraseIdx k) B := ⟨nd', fun q hq => g.own.has q (sub q hq)⟩
  have mem : ad ∈ dom w := List.mem_map.mpr ⟨_, List.mem_of_getElem? hk, rfl⟩
  refine h S B0 σ (B.tell ad (.lst vs) h1) Q ⟨g.le.tell h1 h3 ((g.loc ad mem).elim .inr .inl), o'.tell h1 h3 nad, fun a m => g.loc a ?_⟩ ?_ q
  · obtain ⟨q, hq, e⟩ := List.mem_map.mp m
    exact List.mem_map.mpr ⟨q, sub q hq, e⟩
  · obtain ⟨t, e1, e2⟩ := Paired.get s hi
    have s2 : Sig X.K (B.tell ad (.lst vs) h1).f σ ρ := Sig.mono (HH.tell_ex h1 h3) s
    have z : SlotOk X.K (B.tell ad (.lst vs) h1).f t (.dat (.list ds)) := ⟨.ref ad, e2, .lst (SqL.of upd_same) (DpAll.mono (HH.tell_ex h1 h3) h2)⟩
    have s3 := Paired.set z i s2
    have e4 : σ.set i t = σ := by
      apply List.ext_getElem?
      intro j
      rw [List.getElem?_set]
      split
      · rename_i hij
        subst hij
        split
        · exact e1.symm
        · rw [List.getElem?_eq_none_iff.mpr (by omega)]
      · rfl
    rw [e4] at s3
    exact s3
theorem Ws.rho {ρ' : List Slot} (e : ρ = ρ') (h : Ws X sts E ρ' w) : Ws X sts E ρ w := e ▸ h
theorem Ws.wld {w' : W} (e : w = w') (h : Ws X sts E ρ w') : Ws X sts E ρ w := e ▸ h
/-- what comes behind a statement is shown once -/
theorem Wt.cut (J : List Slot → W → Prop) (h : Wt X st { E with nx := J } ρ w) (k : ∀ ρ w, J ρ w → E.nx ρ w) : Wt X st E ρ w := fun S B0 σ B Q g s q =>
  h S B0 σ B Q g s ⟨fun σ C ρ w a b c => q.nx σ C ρ w a b (k ρ w c), q.rt, q.rn, q.ro, q.bk, q.ct⟩
/-- forget -/
theorem Ws.forget {ρ' : List Slot} (h : Ws X sts E ρ' w) (k : ∀ K f σ, Sig K f σ ρ → Sig K f σ ρ') : Ws X sts E ρ w := fun S B0 σ B Q g s q => h S B0 σ B Q g (k _ _ _ s) q

/-! ### targets of several names -/
def setDs (ρ : List Slot) : List Nat → List D → List Slot
  | i :: is, d :: ds => setDs (ρ.set i (.dat d)) is ds
  | _, _ => ρ
inductive Tgs (X : Cx) : List Expr → List Nat → Prop where
  | nil : Tgs X [] []
  | cons {i : Nat} {x : Str} {es : List Expr} {is : List Nat} {p : Pos} (hi : X.N[i]? = some x) (hx : Loc X.env.scope x) (hf : X.fn x = true ∨ X.env.scope.names.lookup x = some .local) (hs : (assignEach (.Name x p :: es) X.env).map (·.2) = assign (.Name x p) X.env :: (assignEach es X.env).map (·.2)) (h : Tgs X es is) : Tgs X (.Name x p :: es) (i :: is)
theorem Tgs.pgs (hN : X.N.Nodup) : ∀ {es : List Expr} {is : List Nat}, Tgs X es is → ∃ t, PGs X es t ∧ ∀ (vs : List V) (ds : List D) σ ρ (C : HH) Q, vs.length = is.length → DpAll X.K C.f vs ds → Sig X.K C.f σ ρ → (∀ σ', Sig X.K C.f σ' (setDs ρ is ds) → Q σ' C.h) → t vs σ C.h Q
  | _, _, .nil => ⟨_, pgs_nil, fun vs ds σ ρ C Q hl hd s q => by
    cases vs with
    | nil =>
      cases hd
      exact ⟨rfl, q σ s⟩
    | cons v r => simp at hl⟩
  | _, _, .cons (i := i) hi hx hf hs h => by
    obtain ⟨t, pt, k⟩ := Tgs.pgs hN h
    refine ⟨_, pgs_cons (pg_name hN hi hx hf) pt hs, fun vs ds σ ρ C Q hl hd s q => ?_⟩
    cases hd with
    | nil => simp at hl
    | cons r1 r2 =>
      refine ⟨_, _, rfl, ?_⟩
      exact k _ _ _ _ C Q (by simpa using hl) r2 (Paired.set ⟨_, rfl, r1⟩ i s) q
theorem Wt.unT {is : List Nat} {k : Nat} {pt : Pos} {tgs : List Expr} (h : Ev X e ρ w w1 (.tuple ds)) (q : E.nx (setDs ρ is ds) w1) (hN : X.N.Nodup) (hc : X.calm = true) (ht : Tgs X tgs is) (hl : ds.length = is.length := by rfl)
    (hs : swapsWithSole [.Tuple tgs k pt] e pos.line X.env = pure false := by rfl) (hw : swappedStores [.Tuple tgs k pt] e X.env = pure none := by rfl) (h1 : (assignEach [.Tuple tgs k pt] X.env).map (·.2) = [assign (.Tuple tgs k pt) X.env] := by rfl)
    (hn : (assignEach tgs X.env).length = is.length := by rfl) (hst : (assignEach tgs X.env).findIdx? (·.1) = none := by rfl) : Wt X (.Assign [.Tuple tgs k pt] e pos) E ρ w := fun S B0 σ B Q g s kk => by
  obtain ⟨t, pt2, kt⟩ := Tgs.pgs hN ht
  refine w_s (ps_asg pe_w (pg_tup hc pt2 hn hst) hs hw h1) (h.run σ B s g.own _ fun v C l o r => ?_)
  cases r with
  | tup ha hd =>
    have el := DpAll.length hd
    exact ⟨_, _, rfl, ex_t C.ok ha, by rw [el, hl], kt _ ds σ ρ C _ (by rw [el, hl]) hd (Sig.mono l.f s) fun σ' s' => kk.nx σ' C _ w1 (g.step l o h.dm) s' q⟩

/-- a, b = e1, e2 with local names -/
theorem Wt.par (i j : Nat) {y : Str} {px py pt pt2 : Pos} {kt k2 : Nat} (ha : Ev X a ρ w w1 d1) (hb : Ev X b ρ w1 w2 d2) (q : E.nx ((ρ.set i (.dat d1)).set j (.dat d2)) w2) (hc : X.calm = true) (hN : X.N.Nodup) (hi : X.N[i]? = some x := by rfl) (hj : X.N[j]? = some y := by rfl) (hij : i ≠ j := by decide)
    (hx : X.env.scope.names.lookup x = some .local := by rfl) (hy : X.env.scope.names.lookup y = some .local := by rfl)
    (hst : starEach [a, b] X.env = (false, eval a X.env) :: starEach [b] X.env := by rfl) (hst2 : starEach [b] X.env = (false, eval b X.env) :: starEach [] X.env := by rfl)
    (hw : swappedStores [.Tuple [.Name x px, .Name y py] kt pt] (.Tuple [a, b] k2 pt2) X.env = pure (some [x, y]) := by rfl)
    (hs : swapsWithSole [.Tuple [.Name x px, .Name y py] kt pt] (.Tuple [a, b] k2 pt2) pos.line X.env = pure false := by rfl) :
    Wt X (.Assign [.Tuple [.Name x px, .Name y py] kt pt] (.Tuple [a, b] k2 pt2) pos) E ρ w := fun S B0 σ B Q g s k =>
  w_s (ps_par hc hN hi hj hij hx hy (pa_cons pe_w (pa_cons pe_w pa_nil hst2) hst) hw hs) (ha.run σ B s g.own _ fun v C l o r => hb.run σ C (Sig.mono l.f s) o _ fun u C2 l2 o2 r2 =>
    ⟨v, u, rfl, k.nx _ C2 _ w2 ((g.step l o ha.dm).step l2 o2 hb.dm) (Paired.set (show SlotOk X.K C2.f (some u) (.dat d2) from ⟨u, rfl, r2⟩) j (Paired.set (show SlotOk X.K C2.f (some v) (.dat d1) from ⟨v, rfl, Dp.mono l2.f r⟩) i (Sig.mono (l.f.trans l2.f) s))) q⟩)
/-! ### owned lists change -/
theorem own_upd {K : PySem.W.Frag} {B : HH} {k : Nat} {ad : Addr} {vs : List V} {ys : List D} (o : Own K w B) (hk : w[k]? = some (ad, Cell.L (ds))) (hv : DpAll K B.f vs ys) (hf : B.f ad = none) : Own K (w.set k (ad, Cell.L (ys))) (B.put ad (.lst vs) hf) ∧ dom (w.set k (ad, Cell.L (ys))) = dom w := by
  have hd : (dom w)[k]? = some ad := by
    unfold dom
    rw [List.getElem?_map, hk]
    rfl
  have e : dom (w.set k (ad, Cell.L (ys))) = dom w := by
    apply List.ext_getElem?
    intro j
    unfold dom at hd ⊢
    rw [List.getElem?_map, List.getElem?_set, List.getElem?_map]
    split
    · rename_i hj
      subst hj
      rw [hk]
      split
      · rfl
      · rename_i hh
        exact absurd (List.getElem?_eq_some_iff.mp hk).1 hh
    · rfl
  refine ⟨⟨by rw [e]; exact o.nd, fun q hq => ?_⟩, e⟩
  obtain ⟨j, hj⟩ := List.getElem?_of_mem hq
  rw [List.getElem?_set] at hj
  split at hj
  · split at hj
    · have z := Option.some.inj hj
      subst z
      exact ⟨⟨_, upd_same, vs, rfl, hv⟩, hf⟩
    · cases hj
  · rename_i hjk
    obtain ⟨⟨us, h1, h2⟩, h3⟩ := o.has q (List.mem_of_getElem? hj)
    have hq' : (dom w)[j]? = some q.1 := by
      unfold dom
      rw [List.getElem?_map, hj]
      rfl
    have ne : q.1 ≠ ad := fun z => hjk (nd_ix o.nd (hd.trans (by rw [z])) hq')
    exact ⟨⟨us, (upd_ne ne).trans h1, h2⟩, h3⟩
theorem put_le2 {B : HH} {S : List Addr} {ad : Addr} {o : HO} (hf : B.f ad = none) (m : ad ∈ S) : Le S B (B.put ad o hf) := ⟨Ex.refl _, fun a u n e => (upd_ne fun z => n (by rw [z]; exact m)).trans e, fun a n => .inl n, fun a n => upd_st n⟩
theorem dom_mem {k : Nat} {ad : Addr} (hk : w[k]? = some (ad, Cell.L (ds))) : ad ∈ dom w := List.mem_map.mpr ⟨_, List.mem_of_getElem? hk, rfl⟩
theorem DpAll.snoc {K : PySem.W.Frag} {f : Hp} {v : V} {d : D} (r : Dp K f v d) : ∀ {vs : List V} {ds : List D}, DpAll K f vs ds → DpAll K f (vs ++ [v]) (ds ++ [d])
  | _, _, .nil => .cons r .nil
  | _, _, .cons q t => .cons q (DpAll.snoc r t)
theorem DpAll.set {K : PySem.W.Frag} {f : Hp} {v : V} {d : D} (r : Dp K f v d) : ∀ {vs : List V} {ds : List D} (i : Nat), DpAll K f vs ds → DpAll K f (vs.set i v) (ds.set i d)
  | _, _, _, .nil => .nil
  | _, _, 0, .cons _ t => .cons r t
  | _, _, i + 1, .cons q t => .cons q (DpAll.set r i t)
/-- x.append(e) -/
theorem Wt.append (k i : Nat) {ad : Addr} {px apos : Pos} (hi : ρ[i]? = some (.own ad)) (h : Ev X e ρ w w1 d) (hk : w1[k]? = some (ad, Cell.L (ds))) (q : E.nx ρ (w1.set k (ad, Cell.L (ds ++ [d])))) (hl : ds.length < 100000) (h0 : ∃ ds0, w[k]? = some (ad, Cell.L ds0) := by exact ⟨_, rfl⟩) (hN : X.N[i]? = some x := by rfl) (hv : Vis X.env.scope x := by first | exact Or.inl rfl | exact Or.inr (Or.inl rfl) | exact Or.inr (Or.inr rfl))
    (hd : (x == ("__debug__" : Str)) = false := by decide) (hcd : (x == ("__classdict__" : Str)) = false := by decide)
    (hbase : attributeBase (.Name x px) "append" X.env (eval (.Name x px) X.env) = eval (.Name x px) X.env := by rfl)
    (hfew : ((backTo pos (starEach [e] X.env)).all (fun x => !x.1) && (backToKw pos (keywordEach [] X.env)).all (fun x => x.1.isSome)
      && decide (([e] : List Expr).length + ([] : List Keyword).length + (if ([] : List Keyword).isEmpty then 0 else 1) < 30)) = true := by rfl)
    (hline : (apos.endLine == pos.line) = true := by rfl) (hst : starEach [e] X.env = (false, eval e X.env) :: starEach [] X.env := by rfl) (hplain : (backTo pos (starEach [] X.env)).any (·.1) = false := by rfl)
    (hs : swapsWith (.Call (.Attribute (.Name x px) "append" apos) [e] [] pos) none pos'.line X.env = pure false := by rfl) : Wt X (.Expr (.Call (.Attribute (.Name x px) "append" apos) [e] [] pos) pos') E ρ w := fun S B0 σ B Q g s kk => by
  refine w_s (ps_expr (pe_bm PySem.F.plainAttrs_list PySem.F.slot_list_append PySem.F.type_list_append mt_append (pe_var hN hv hd hcd) (pa_cons pe_w pa_nil hst) hbase hfew hline hst hplain) hs) ?_
  obtain ⟨t, e1, e2⟩ := Paired.get s hi
  have m0 : ad ∈ dom w := h.dm ▸ dom_mem hk
  obtain ⟨ds0, h0⟩ := h0
  obtain ⟨⟨us, hu, _⟩, _⟩ := g.own.lst (List.mem_of_getElem? h0)
  refine ⟨.ref ad, by rw [e1]; exact congrArg some e2, .inl ⟨rfl, us, SqL.of hu⟩, ?_⟩
  refine h.run σ B s g.own _ fun v C l o r => ?_
  obtain ⟨⟨vs, h1, h2⟩, h3⟩ := o.lst (List.mem_of_getElem? hk)
  refine ⟨ad, vs, v, rfl, rfl, h1, sz_lt (by rw [DpAll.length h2]; exact hl), ?_⟩
  obtain ⟨o2, dm2⟩ := own_upd o hk (DpAll.snoc r h2) h3
  exact kk.nx σ (C.put ad (.lst (vs ++ [v])) h3) ρ _ ((g.step l o h.dm).step (put_le2 h3 (dom_mem hk)) o2 dm2) (Sig.mono l.f s) q
/-- x[i] = e -/
theorem Wt.setIx (k n : Nat) {ad : Addr} {j : Int} {m : Nat} {px tp : Pos} (hi : ρ[n]? = some (.own ad)) (h : Ev X e ρ w w1 d) (hb : Ev X b ρ w1 w2 (.int j)) (hk : w2[k]? = some (ad, Cell.L (ds))) (hj : ixN ds.length j = some m) (q : E.nx ρ (w2.set k (ad, Cell.L (ds.set m d)))) (hN : X.N[n]? = some x := by rfl) (hv : Vis X.env.scope x := by first | exact Or.inl rfl | exact Or.inr (Or.inl rfl) | exact Or.inr (Or.inr rfl))
    (hd : (x == ("__debug__" : Str)) = false := by decide) (hcd : (x == ("__classdict__" : Str)) = false := by decide)
    (ha : ∀ v, assign (.Subscript (.Name x px) b tp) X.env v = (do
      let ov ← holding [v] (eval (.Name x px) X.env)
      let iv ← holding [v, ov] (eval b X.env)
      standAt tp
      holding [v, ov, iv] (setItem ov iv v)
      release [v, ov, iv] []) := by intro _; rfl)
    (hs : swapsWithSole [.Subscript (.Name x px) b tp] e pos.line X.env = pure false := by rfl) (hw : swappedStores [.Subscript (.Name x px) b tp] e X.env = pure none := by rfl) (h1 : (assignEach [.Subscript (.Name x px) b tp] X.env).map (·.2) = [assign (.Subscript (.Name x px) b tp) X.env] := by rfl) :
    Wt X (.Assign [.Subscript (.Name x px) b tp] e pos) E ρ w := fun S B0 σ B Q g s kk => by
  refine w_s (ps_asg pe_w (pg_sub (pe_var hN hv hd hcd) pe_w set_list ha) hs hw h1) ?_
  refine h.run σ B s g.own _ fun v C l o r => ?_
  obtain ⟨t, e1, e2⟩ := Paired.get s hi
  refine ⟨.ref ad, by rw [e1]; exact congrArg some e2, ?_⟩
  refine hb.run σ C (Sig.mono l.f s) o _ fun y C2 l2 o2 y1 => ?_
  cases y1
  obtain ⟨⟨vs, z1, z2⟩, z3⟩ := o2.lst (List.mem_of_getElem? hk)
  refine ⟨ad, vs, j, m, rfl, rfl, z1, by rw [DpAll.length z2]; exact hj, ?_⟩
  obtain ⟨o3, dm3⟩ := own_upd o2 hk (DpAll.set (Dp.mono l2.f r) m z2) z3
  exact kk.nx σ (C2.put ad (.lst (vs.set m v)) z3) ρ _ (((g.step l o h.dm).step l2 o2 hb.dm).step (put_le2 z3 (dom_mem hk)) o3 dm3) (Sig.mono (l.f.trans l2.f) s) q
/-- x op= e on ints -/
theorem Wt.augI {op : Operator} {f : Int → Int → Int} {u v : Int} (i : Nat) (hi : ρ[i]? = some (.dat (.int u))) (h : Ev X e ρ w w1 (.int v)) (ho : OpR X (inplaceOp op) (rI0 fun i j => .int (f i j))) (q : E.nx (ρ.set i (.dat (.int (f u v)))) w1) (hN : X.N.Nodup) (hx' : X.N[i]? = some x := by rfl) (hx : Loc X.env.scope x := by first | exact Or.inl rfl | exact Or.inr rfl) (hf : X.fn x = true ∨ X.env.scope.names.lookup x = some .local := by first | exact .inl rfl | exact .inr rfl | assumption) :
    Wt X (.AugAssign (.Name x pos') op e pos) E ρ w := fun S B0 σ B Q g s k => by
  refine w_s (ps_aug hN hx' hx pe_w (ti := ipI f) (fun pins s σ H x y v u Q I rx ry h => ho pins s σ H x y v u Q I rx ry h) hf) ?_
  obtain ⟨t, e1, z, e2, r⟩ := Paired.get s hi
  cases r
  refine ⟨.int u, by rw [e1, e2], ?_⟩
  refine h.run σ B s g.own _ fun y C l o y1 => ?_
  cases y1
  exact ⟨u, v, rfl, rfl, k.nx _ C _ w1 (g.step l o h.dm) (Paired.set ⟨_, rfl, .int _⟩ i (Sig.mono l.f s)) q⟩
end
end Pm

namespace Pm
open PySem PySem.Spec PyProof.Rows L2 Evl

section
variable {X : Cx} {e a b c : Expr} {es rest : List Expr} {st : Stmt} {sts body body2 : List Stmt} {E : DE} {ρ : List Slot} {w w1 w2 w3 : W} {d d1 d2 : D} {ds : List D} {pos p pos' : Pos} {x : Str}

theorem slot_dat {K : PySem.W.Frag} {f : Hp} {v : V} {d : D} (h : Dp K f v d) : SlotOk K f (some v) (.dat d) := ⟨v, rfl, h⟩
/-! ### loops -/
/-- a state of a loop that began at B1 -/
def LSt (K : PySem.W.Frag) (B1 : HH) (w1 : W) (I : List Slot → W → Prop) (σ : L2.St) (H : Hp) : Prop := ∃ C ρ w, C.h = H ∧ Good K (dom w1) B1 w C ∧ Sig K C.f σ ρ ∧ I ρ w
theorem LSt.nx {K : PySem.W.Frag} {B1 : HH} {I : List Slot → W → Prop} {σ : L2.St} {C : HH} (g : Good K (dom w1) B1 w C) (s : Sig K C.f σ ρ) (i : I ρ w) : LSt K B1 w1 I σ C.h := ⟨C, ρ, w, rfl, g, s, i⟩
/-- a body that leads from I to I' -/
theorem body_ok {K : PySem.W.Frag} {S : List Addr} {B0 B1 C : HH} {I' : List Slot → W → Prop} {Q : Ends} {σ : L2.St} (hK : X.K = K)
    (hb : Ws X body { E with nx := I', ct := I', bk := E.nx } ρ w) (q : wD X.K S B0 E Q) (g1 : Good X.K S B0 w1 B1) (g : Good X.K (dom w1) B1 w C) (s : Sig X.K C.f σ ρ) :
    wSs X body { Q with nx := LSt X.K B1 w1 I', ct := LSt X.K B1 w1 I', bk := Q.nx } σ C.h := by
  have q2 := q.sub g1
  exact hb (dom w1) B1 σ C _ g s ⟨fun σ C ρ w k z i => ⟨C, ρ, w, rfl, k, z, i⟩, q2.rt, q2.rn, q2.ro, q2.nx, fun σ C ρ w k z i => ⟨C, ρ, w, rfl, k, z, i⟩⟩
theorem Wt.while (I : Nat → List Slot → W → Prop) (n : Nat) (h0 : I n ρ w)
    (hs : ∀ n ρ w, I n ρ w → ∃ k w1, EvT X c ρ w w1 k ∧ (k = true → Ws X body { E with nx := fun ρ w => ∃ m, m < n ∧ I m ρ w, ct := fun ρ w => ∃ m, m < n ∧ I m ρ w, bk := E.nx } ρ w1) ∧ (k = false → E.nx ρ w1))
    (hp : PassesOwn (model X.prog X.w) X.A X.env X.xe) : Wt X (.While c body [] pos) E ρ w := fun S B0 σ B Q g s q => by
  refine w_s (ps_while hp pt_w pss_w) ?_
  refine ⟨fun m => LSt X.K B w (I m), ⟨n, B, ρ, w, rfl, Good.start g.own, s, h0⟩, ?_⟩
  rintro m σ H ⟨C, ρ, w2, rfl, gc, sc, i⟩
  obtain ⟨k, w3, hc, ht, hf⟩ := hs m ρ w2 i
  refine hc.run σ C sc gc.own _ fun C2 l o => ?_
  have g2 := gc.step l o hc.dm
  have s2 := Sig.mono l.f sc
  cases k with
  | true =>
    refine L2.iteT ?_
    exact ⟨LSt X.K B w fun ρ w => ∃ m', m' < m ∧ I m' ρ w, fun σ' H' ⟨C, ρ, w4, e, g4, s4, m', hm, i4⟩ => ⟨m', hm, C, ρ, w4, e, g4, s4, i4⟩, body_ok rfl (ht rfl) q g g2 s2⟩
  | false =>
    refine L2.iteF ?_
    exact (q.sub g).nx σ C2 ρ w3 g2 s2 (hf rfl)
theorem Wt.forR1 (j : Nat) {ar : Expr} {n : Int} {pr px pc : Pos} (I : Nat → List Slot → W → Prop) (hr : EvA X [ar] ρ w w1 [.dat (.int n)]) (hb1 : -(2 ^ 62) ≤ n ∧ n < 2 ^ 62) (h0 : I 0 ρ w1)
    (hs : ∀ i ρ w, i < n.toNat → I i ρ w → Ws X body { E with nx := I (i + 1), ct := I (i + 1), bk := E.nx } (ρ.set j (.dat (.int (i : Int)))) w) (hd : ∀ ρ w, I n.toNat ρ w → E.nx ρ w)
    (hp : PassesOwn (model X.prog X.w) X.A X.env X.xe) (hc : X.calm = true) (hN : X.N.Nodup) (hm : X.mg "range" = none) (hg : Gl X "range" := by rfl) (hi : X.N[j]? = some x := by rfl) (hx : Loc X.env.scope x := by first | exact Or.inl rfl | exact Or.inr rfl) (hf : X.fn x = true ∨ X.env.scope.names.lookup x = some .local := by first | exact .inl rfl | exact .inr rfl | assumption)
    (hst : starEach [ar] X.env = [(false, eval ar X.env)] := by rfl) (hfs : ∀ x, foldedSetIterable (.Call (.Name "range" pr) [ar] [] pc) X.env x = pure x := by intro _; rfl) : Wt X (.For (.Name x px) (.Call (.Name "range" pr) [ar] [] pc) body [] pos) E ρ w := fun S B0 σ B Q g s q => by
  refine w_s (ps_for hp hc (pi_range1 hg hm pa_w hst) (pg_name hN hi hx hf) pss_w hfs) ?_
  refine hr.run σ B s g.own _ fun vs C l o v => ?_
  have g1 := g.step l o hr.dm
  cases v with
  | cons r t =>
    cases t
    cases r
    refine ⟨n, rfl, hb1.1, hb1.2, for_range (lo := 0) (n := n.toNat) (fun i => LSt X.K C w1 (I i)) ⟨C, ρ, w1, rfl, Good.start o, Sig.mono l.f s, h0⟩ ?_ ?_⟩
    · rintro i σ H hi ⟨C2, ρ2, w2, rfl, g2, s2, i2⟩
      refine body_ok rfl (hs i ρ2 w2 hi i2) q g1 g2 (Paired.set (slot_dat ?_) j s2)
      rw [Int.zero_add]
      exact .int _
    · rintro σ H ⟨C2, ρ2, w2, rfl, g2, s2, i2⟩
      exact (q.sub g1).nx σ C2 ρ2 w2 g2 s2 (hd ρ2 w2 i2)
theorem Wt.forR2 (j : Nat) {ar br : Expr} {lo n : Int} {pr px pc : Pos} (I : Nat → List Slot → W → Prop) (hr : EvA X [ar, br] ρ w w1 [.dat (.int lo), .dat (.int n)]) (hb1 : -(2 ^ 62) ≤ lo ∧ lo < 2 ^ 62 ∧ -(2 ^ 62) ≤ n ∧ n < 2 ^ 62) (h0 : I 0 ρ w1)
    (hs : ∀ i ρ w, i < (n - lo).toNat → I i ρ w → Ws X body { E with nx := I (i + 1), ct := I (i + 1), bk := E.nx } (ρ.set j (.dat (.int (lo + (i : Int))))) w) (hd : ∀ ρ w, I (n - lo).toNat ρ w → E.nx ρ w)
    (hp : PassesOwn (model X.prog X.w) X.A X.env X.xe) (hc : X.calm = true) (hN : X.N.Nodup) (hm : X.mg "range" = none) (hg : Gl X "range" := by rfl) (hi : X.N[j]? = some x := by rfl) (hx : Loc X.env.scope x := by first | exact Or.inl rfl | exact Or.inr rfl) (hf : X.fn x = true ∨ X.env.scope.names.lookup x = some .local := by first | exact .inl rfl | exact .inr rfl | assumption)
    (hst : starEach [ar, br] X.env = [(false, eval ar X.env), (false, eval br X.env)] := by rfl) (hst2 : starEach [br] X.env = [(false, eval br X.env)] := by rfl) (hfs : ∀ x, foldedSetIterable (.Call (.Name "range" pr) [ar, br] [] pc) X.env x = pure x := by intro _; rfl) : Wt X (.For (.Name x px) (.Call (.Name "range" pr) [ar, br] [] pc) body [] pos) E ρ w := fun S B0 σ B Q g s q => by
  refine w_s (ps_for hp hc (pi_range2 hg hm pa_w hst hst2) (pg_name hN hi hx hf) pss_w hfs) ?_
  refine hr.run σ B s g.own _ fun vs C l o v => ?_
  have g1 := g.step l o hr.dm
  cases v with
  | cons r t =>
    cases t with
    | cons r2 t2 =>
      cases t2
      cases r
      cases r2
      refine ⟨lo, n, rfl, hb1, for_range (lo := lo) (n := (n - lo).toNat) (fun i => LSt X.K C w1 (I i)) ⟨C, ρ, w1, rfl, Good.start o, Sig.mono l.f s, h0⟩ ?_ ?_⟩
      · rintro i σ H hi ⟨C2, ρ2, w2, rfl, g2, s2, i2⟩
        exact body_ok rfl (hs i ρ2 w2 hi i2) q g1 g2 (Paired.set (slot_dat (.int _)) j s2)
      · rintro σ H ⟨C2, ρ2, w2, rfl, g2, s2, i2⟩
        exact (q.sub g1).nx σ C2 ρ2 w2 g2 s2 (hd ρ2 w2 i2)
theorem Wt.forL (j : Nat) {it : Expr} {px : Pos} (I : Nat → List Slot → W → Prop) (hr : Ev X it ρ w w1 (.list ds)) (h0 : I 0 ρ w1)
    (hs : ∀ i y ρ w, ds[i]? = some y → I i ρ w → Ws X body { E with nx := I (i + 1), ct := I (i + 1), bk := E.nx } (ρ.set j (.dat y)) w) (hd : ∀ ρ w, I ds.length ρ w → E.nx ρ w)
    (hp : PassesOwn (model X.prog X.w) X.A X.env X.xe) (hc : X.calm = true) (hN : X.N.Nodup) (hi : X.N[j]? = some x := by rfl) (hx : Loc X.env.scope x := by first | exact Or.inl rfl | exact Or.inr rfl) (hf : X.fn x = true ∨ X.env.scope.names.lookup x = some .local := by first | exact .inl rfl | exact .inr rfl | assumption)
    (hfs : ∀ x, foldedSetIterable it X.env x = pure x := by intro _; rfl) : Wt X (.For (.Name x px) it body [] pos) E ρ w := fun S B0 σ B Q g s q => by
  refine w_s (ps_for hp hc (pi_list pe_w) (pg_name hN hi hx hf) pss_w hfs) ?_
  refine hr.run σ B s g.own _ fun v C l o r => ?_
  have g1 := g.step l o hr.dm
  cases r with
  | lst hl hd' =>
    rename_i ad xs
    have el := DpAll.length hd'
    refine ⟨ad, rfl, ⟨_, ex_l C.ok hl⟩, for_list (K := X.K) (a := ad) (xs := xs) (fun i => LSt X.K C w1 (I i)) ⟨C, ρ, w1, rfl, Good.start o, Sig.mono l.f s, h0⟩ ?_ ?_ ?_⟩
    · rintro i σ H hi ⟨C2, ρ2, w2, rfl, g2, s2, i2⟩
      exact ex_l C2.ok (ex_l g2.le.f hl)
    · rintro i y σ H hi ⟨C2, ρ2, w2, rfl, g2, s2, i2⟩
      have hlt : i < ds.length := by rw [← el]; exact (List.getElem?_eq_some_iff.mp hi).1
      obtain ⟨v, h1, h2⟩ := DpAll.get hd' (List.getElem?_eq_getElem hlt)
      have ev : v = y := Option.some.inj (h1.symm.trans hi)
      subst ev
      exact body_ok rfl (hs i _ ρ2 w2 (List.getElem?_eq_getElem hlt) i2) q g1 g2 (Paired.set (slot_dat (Dp.mono g2.le.f h2)) j s2)
    · rintro σ H ⟨C2, ρ2, w2, rfl, g2, s2, i2⟩
      rw [el] at i2
      exact (q.sub g1).nx σ C2 ρ2 w2 g2 s2 (hd ρ2 w2 i2)
theorem Wt.forT (j : Nat) {it : Expr} {px : Pos} (I : Nat → List Slot → W → Prop) (hr : Ev X it ρ w w1 (.tuple ds)) (h0 : I 0 ρ w1)
    (hs : ∀ i y ρ w, ds[i]? = some y → I i ρ w → Ws X body { E with nx := I (i + 1), ct := I (i + 1), bk := E.nx } (ρ.set j (.dat y)) w) (hd : ∀ ρ w, I ds.length ρ w → E.nx ρ w)
    (hp : PassesOwn (model X.prog X.w) X.A X.env X.xe) (hc : X.calm = true) (hN : X.N.Nodup) (hi : X.N[j]? = some x := by rfl) (hx : Loc X.env.scope x := by first | exact Or.inl rfl | exact Or.inr rfl) (hf : X.fn x = true ∨ X.env.scope.names.lookup x = some .local := by first | exact .inl rfl | exact .inr rfl | assumption)
    (hfs : ∀ x, foldedSetIterable it X.env x = pure x := by intro _; rfl) : Wt X (.For (.Name x px) it body [] pos) E ρ w := fun S B0 σ B Q g s q => by
  refine w_s (ps_for hp hc (pi_tup pe_w) (pg_name hN hi hx hf) pss_w hfs) ?_
  refine hr.run σ B s g.own _ fun v C l o r => ?_
  have g1 := g.step l o hr.dm
  cases r with
  | tup hl hd' =>
    rename_i ad xs
    have el := DpAll.length hd'
    refine ⟨ad, rfl, ⟨_, ex_t C.ok hl⟩, for_tup (K := X.K) (a := ad) (xs := xs) (fun i => LSt X.K C w1 (I i)) ⟨C, ρ, w1, rfl, Good.start o, Sig.mono l.f s, h0⟩ ?_ ?_ ?_⟩
    · rintro i σ H hi ⟨C2, ρ2, w2, rfl, g2, s2, i2⟩
      exact ex_t C2.ok (ex_t g2.le.f hl)
    · rintro i y σ H hi ⟨C2, ρ2, w2, rfl, g2, s2, i2⟩
      have hlt : i < ds.length := by rw [← el]; exact (List.getElem?_eq_some_iff.mp hi).1
      obtain ⟨v, h1, h2⟩ := DpAll.get hd' (List.getElem?_eq_getElem hlt)
      have ev : v = y := Option.some.inj (h1.symm.trans hi)
      subst ev
      exact body_ok rfl (hs i _ ρ2 w2 (List.getElem?_eq_getElem hlt) i2) q g1 g2 (Paired.set (slot_dat (Dp.mono g2.le.f h2)) j s2)
    · rintro σ H ⟨C2, ρ2, w2, rfl, g2, s2, i2⟩
      rw [el] at i2
      exact (q.sub g1).nx σ C2 ρ2 w2 g2 s2 (hd ρ2 w2 i2)

/-! ### comprehensions -/
/-- the state of a comprehension: the list at L holds ys -/
def CSt (K : PySem.W.Frag) (B : HH) (w : W) (L : Addr) (wi : W) (ys : List D) (H : Hp) : Prop := ∃ C vs, C.h = H ∧ Le (dom w) B C ∧ Own K wi C ∧ C.h L = some (.lst vs) ∧ C.f L = none ∧ DpAll K C.f vs ys
/-- the reading of an element, whatever block it stands in -/
def tBlk (X : Cx) (scope : Scope) (elt : Expr) : TE := fun σ H Q => ∀ (s : Shared) (H0 : Hp) (C : Addr) (cl : List (Str × Addr)) (fp : List Addr), wE (X.blk s H0 scope (compEnvC scope cl C X.env) fp) elt σ H Q
abbrev EvB (X : Cx) (scope : Scope) (elt : Expr) (ρ : List Slot) (w w' : W) (d : D) : Prop := ∀ (s : Shared) (H0 : Hp) (C : Addr) (cl : List (Str × Addr)) (fp : List Addr), Ev (X.blk s H0 scope (compEnvC scope cl C X.env) fp) elt ρ w w' d
theorem comp_step {scope : Scope} {elt : Expr} {B : HH} {L : Addr} {wi wj : W} {ys : List D} {y : D} {H : Hp} {σ : L2.St} (hb : EvB X scope elt ρ wi wj y) (dmi : dom wi = dom w) (hL : B.h L = none) (oB : Own X.K w B)
    (hs : ∀ C : HH, Le (dom w) B C → Sig X.K C.f σ ρ) (h : CSt X.K B w L wi ys H) (hz : ys.length < 100000) :
    tBlk X scope elt σ H fun v H4 => ∃ acc, H4 L = some (.lst acc) ∧ acc.length < sizeLine ∧ CSt X.K B w L wj (ys ++ [y]) (upd H4 L (.lst (acc ++ [v]))) := by
  obtain ⟨C, vs, rfl, l, o, h1, h2, h3⟩ := h
  intro s H0 Cc cl fp
  have hb := hb s H0 Cc cl fp
  have nL : L ∉ dom wi := fun m => oB.stands L (dmi ▸ m) hL
  refine hb.run σ C (hs C l) o _ fun v C2 l2 o2 r => ?_
  have e2 : C2.h L = some (.lst vs) := l2.h _ _ nL h1
  have f2 : C2.f L = none := by
    cases z : C2.f L with
    | none => rfl
    | some u =>
      rcases l2.new L (by rw [z]; simp) with k | k | k
      · exact absurd h2 k
      · rw [h1] at k; cases k
      · exact absurd k nL
  have l3 : Le (dom w) B C2 := l.trans (dmi ▸ l2)
  refine ⟨vs, e2, sz_lt (by rw [DpAll.length h3]; exact hz), C2.put L (.lst (vs ++ [v])) f2, vs ++ [v], rfl, ⟨l3.f, fun x u n e => ?_, l3.new, fun x n => upd_st (l3.st x n)⟩, ?_, upd_same, f2, DpAll.snoc r (DpAll.mono l2.f h3)⟩
  · have ne : x ≠ L := ne_of_none e hL
    exact (upd_ne ne).trans (l3.h x u n e)
  · have nL2 : L ∉ dom wj := fun m => nL (hb.dm ▸ m)
    exact o2.step (S := [L]) (put_le2 f2 (by simp)) fun x m z => nL2 (by simp at z; exact z ▸ m)
/-- a reading that makes a new list -/
structure RdN (K : PySem.W.Frag) (te : TE) (ρ : List Slot) (w w' : W) (ds : List D) : Prop where
  dm : dom w' = dom w
  run : ∀ σ B, Sig K B.f σ ρ → Own K w B → ∀ Q : VK, (∀ p vs C, B.h p = none → Le (dom w) B C → Own K w' C → C.h p = some (.lst vs) → C.f p = none → DpAll K C.f vs ds → Q (.ref p) C.h) → te σ B.h Q
theorem RdN.evn {t : TE} (h : RdN X.K t ρ w w1 ds) (p : PE X e t) : EvN X e ρ w w1 ds := ⟨h.dm, fun σ B hs hw Q q => w_e p (h.run σ B hs hw Q q)⟩
/-- x = [..], data -/
theorem Wt.setRd (i : Nat) {t : TE} (h : RdN X.K t ρ w w1 ds) (p : PS X st (tAsg t (gName i))) (q : E.nx (ρ.set i (.dat (.list ds))) w1) : Wt X st E ρ w := fun S B0 σ B Q g s k =>
  w_s p (h.run σ B s g.own _ fun a vs C hp l o h1 h2 r => by
    have np : a ∉ dom w1 := fun m => g.own.stands a (h.dm ▸ m) hp
    exact k.nx _ (C.tell a (.lst vs) h1) _ w1 (g.step (l.tell h1 h2 (.inl hp)) (o.tell h1 h2 np) h.dm) (Paired.set (slot_dat (.lst (SqL.of upd_same) (DpAll.mono (HH.tell_ex h1 h2) r))) i (Sig.mono (l.f.trans (HH.tell_ex h1 h2)) s)) q)
/-- x = [..], owned -/
theorem Wt.newRd (i : Nat) {t : TE} (h : RdN X.K t ρ w w1 ds) (p : PS X st (tAsg t (gName i))) (q : ∀ a, E.nx (ρ.set i (.own a)) (w1 ++ [(a, Cell.L (ds))])) : Wt X st E ρ w := fun S B0 σ B Q g s k =>
  w_s p (h.run σ B s g.own _ fun a vs C hp l o h1 h2 r => by
    have na : a ∉ dom w := fun m => g.own.stands a m hp
    have gc : Good X.K S B0 w1 C := g.step l o h.dm
    refine k.nx _ C _ _ ⟨gc.le, ⟨?_, fun q hq => ?_⟩, fun y hy => ?_⟩ (Paired.set (show SlotOk X.K C.f (some (V.ref a)) (.own a) from rfl) i (Sig.mono l.f s)) (q a)
    · unfold dom
      rw [List.map_append]
      refine List.nodup_append.mpr ⟨o.nd, by simp, fun y hy z hz => ?_⟩
      have ez : z = a := by simpa using hz
      subst ez
      intro e
      subst e
      exact na (h.dm ▸ hy)
    · rcases List.mem_append.mp hq with m | m
      · exact o.has q m
      · have ez : q = (a, Cell.L ds) := by simpa using m
        subst ez
        exact ⟨⟨_, h1, vs, rfl, r⟩, h2⟩
    · unfold dom at hy
      rw [List.map_append] at hy
      rcases List.mem_append.mp hy with m | m
      · exact gc.loc y m
      · have ez : y = a := by simpa using m
        subst ez
        exact g.free hp)
theorem compR_run (j : Nat) {elt ar : Expr} {scope : Scope} {n : Int} {ws : Nat → W} {ys : Nat → D} (hr : EvA X [ar] ρ w w1 [.dat (.int n)]) (hb1 : n ≤ 100000) (hb0 : -(2 ^ 62) ≤ n) (h0 : ws 0 = w1) (hdm : ∀ i, dom (ws i) = dom w1)
    (hb : ∀ i, i < n.toNat → EvB X scope elt ((wipeS ρ [j]).set j (.dat (.int (i : Int)))) (ws i) (ws (i + 1)) (ys i)) : RdN X.K (tLc (iRng1 (wA X [ar])) (gName j) tYes (tBlk X scope elt) [j]) ρ w (ws n.toNat) ((List.range n.toNat).map ys) := by
  refine ⟨(hdm _).trans hr.dm, fun σ B hsg hw Q q => ?_⟩
  refine hr.run σ B hsg hw _ fun vs C l o v => ?_
  cases v with
  | cons r t =>
    cases t
    cases r
    have hsC : Sig X.K C.f σ ρ := Sig.mono l.f hsg
    refine ⟨n, rfl, hb0, by omega, fun L hL => ?_⟩
    have hLB : B.h L = none := Le.back l hw o hr.dm hL
    refine lc_range (lo := 0) (n := n.toNat) (fun i H => CSt X.K C w1 L (ws i) ((List.range i).map ys) H) ?_ ?_ ?_
    · rw [h0]
      exact ⟨C.put L (.lst []) (HH.free hL), [], rfl, HH.put_le hL, o.step (HH.put_le (S := []) hL) (by simp), upd_same, HH.free (B := C) hL, .nil⟩
    · intro i H hin hC
      refine ⟨?_, ?_⟩
      · show wipe ((wipe σ [j]).set j _) [j] = wipe σ [j]
        simp only [wipe, List.set_set]
      · refine iteT (B := CSt X.K C w1 L (ws (i + 1)) ((List.range (i + 1)).map ys) H) ?_
        rw [Int.zero_add]
        have k := comp_step (σ := (wipe σ [j]).set j (some (.int (i : Int)))) (hb i hin) (hdm i) hL o (fun E l2 => Paired.set (slot_dat (.int _)) j (Sig.wipe (Sig.mono l2.f hsC) [j])) hC (by rw [List.length_map, List.length_range]; omega)
        have e : (List.range i).map ys ++ [ys i] = (List.range (i + 1)).map ys := by
          rw [List.range_succ, List.map_append]
          rfl
        rw [e] at k
        exact k
    · rintro H ⟨C2, vs2, rfl, l2, o2, h1, h2, h3⟩
      exact q L vs2 C2 hLB (lift2 (S := w) hr.dm l o l2) o2 h1 h2 h3
theorem pe_compR (j : Nat) {elt ar : Expr} {scope : Scope} {pr px pc : Pos} (ok : BlkOk X.N X.env.scope scope [(x, j)]) (hc : X.calm = true) (hN : X.N.Nodup) (hm : X.mg "range" = none) (hg : Gl X "range" := by rfl) (hi : X.N[j]? = some x := by rfl) (hx : Loc (relabel scope X.env) x := by first | exact Or.inl rfl | exact Or.inr rfl)
    (hf : (scope.names.lookup x == some .cell) = true ∨ (relabel scope X.env).names.lookup x = some .local := by first | exact .inr rfl | exact .inl rfl)
    (hst : starEach [ar] X.env = [(false, eval ar X.env)] := by rfl) (hfs : ∀ x, foldedSetIterable (.Call (.Name "range" pr) [ar] [] pc) X.env x = pure x := by intro _; rfl) :
    PE X (.ListComp elt [⟨.Name x px, .Call (.Name "range" pr) [ar] [] pc, [], 0⟩] scope pos) (tLc (iRng1 (wA X [ar])) (gName j) tYes (tBlk X scope elt) [j]) :=
  pe_lc (own := [(x, j)]) hc hN (pi_range1 hg hm pa_w hst) ok (fun s H C cl fp => pg_name hN hi hx hf) (fun s H C cl fp => pts_nil) (fun s H C cl fp => ⟨fun pins s' σ H Q I h => h s _ C cl fp pins s' I⟩) hfs
theorem ps_compR (i j : Nat) {y : Str} {py : Pos} {elt ar : Expr} {scope : Scope} {pr px pc spos : Pos} (ok : BlkOk X.N X.env.scope scope [(x, j)]) (hc : X.calm = true) (hN : X.N.Nodup) (hm : X.mg "range" = none) (hsw : swapsWith (.ListComp elt [⟨.Name x px, .Call (.Name "range" pr) [ar] [] pc, [], 0⟩] scope pos) (some (.Name y py)) spos.line X.env = pure true := by exact sw_true rfl rfl rfl (by decide +kernel))
    (hy : X.N[i]? = some y := by rfl) (hyl : X.env.scope.names.lookup y = some .local := by rfl) (hg : Gl X "range" := by rfl) (hi : X.N[j]? = some x := by rfl) (hx : Loc (relabel scope X.env) x := by first | exact Or.inl rfl | exact Or.inr rfl)
    (hf : (scope.names.lookup x == some .cell) = true ∨ (relabel scope X.env).names.lookup x = some .local := by first | exact .inr rfl | exact .inl rfl)
    (hst : starEach [ar] X.env = [(false, eval ar X.env)] := by rfl) (hfs : ∀ x, foldedSetIterable (.Call (.Name "range" pr) [ar] [] pc) X.env x = pure x := by intro _; rfl) :
    PS X (.Assign [.Name y py] (.ListComp elt [⟨.Name x px, .Call (.Name "range" pr) [ar] [] pc, [], 0⟩] scope pos) spos) (tAsg (tLc (iRng1 (wA X [ar])) (gName j) tYes (tBlk X scope elt) [j]) (gName i)) :=
  ps_setLc (own := [(x, j)]) hc hN hy hyl hsw (pi_range1 hg hm pa_w hst) ok (fun s H C cl fp => pg_name hN hi hx hf) (fun s H C cl fp => pts_nil) (fun s H C cl fp => ⟨fun pins s' σ H Q I h => h s _ C cl fp pins s' I⟩) hfs

/-! ### defs -/
def Ag.slot : Ag → Slot
  | .dat d => .dat d
  | .own a => .own a
def startS (N : List Str) (as : List Ag) : List Slot := as.map Ag.slot ++ List.replicate (N.length - as.length) .none
theorem start_sig {K : PySem.W.Frag} {f : Hp} : ∀ {vs : List V} {as : List Ag}, Paired (AgOk K f) vs as → Sig K f (vs.map some) (as.map Ag.slot)
  | _, _, .nil => .nil
  | _, _, .cons (b := .dat d) r t => .cons ⟨_, rfl, r⟩ (start_sig t)
  | _, _, .cons (b := .own a) r t => .cons (congrArg some r) (start_sig t)
theorem paired_app {α β : Type} {R : α → β → Prop} : ∀ {xs : List α} {ys : List β} {xs' : List α} {ys' : List β}, Paired R xs ys → Paired R xs' ys' → Paired R (xs ++ xs') (ys ++ ys')
  | _, _, _, _, .nil, h => h
  | _, _, _, _, .cons r t, h => .cons r (paired_app t h)
theorem sig_none {K : PySem.W.Frag} {f : Hp} : ∀ n : Nat, Sig K f (List.replicate n none) (List.replicate n .none)
  | 0 => .nil
  | n + 1 => .cons trivial (sig_none n)
theorem Paired.length' {α β : Type} {R : α → β → Prop} : ∀ {xs : List α} {ys : List β}, Paired R xs ys → xs.length = ys.length
  | _, _, .nil => rfl
  | _, _, .cons _ t => congrArg (· + 1) (Paired.length' t)
/-- a promise by data: R world args world' result -/
def spG (K : PySem.W.Frag) (n : Nat) (R : W → List Ag → W → D → Prop) : Sp := fun vs H Q _ => ∃ (B : HH) (w : W) (as : List Ag) (w' : W) (r : D), B.h = H ∧ as.length = n ∧ Own K w B ∧ dom w' = dom w ∧ Paired (AgOk K B.f) vs as ∧ R w as w' r ∧ ∀ v C, Le (dom w) B C → Own K w' C → Dp K C.f v r → Q v C.h
theorem fn_ok {P : Program} {wd : World} {K : PySem.W.Frag} {mg : Str → Option Value} {base : Heap} {nm qual : Str} {st : Stmt} {f : Addr} {fd : FuncData} {N ps : List Str} {k : Nat} {R : W → List Ag → W → D → Prop} (F : Fun K nm qual st f fd) (S : FnScope N ps (defScope st))
    (hbody : ∀ (cdv : Value) (A : Around) (outer : List Env) (s : Shared) (H : Hp) (E : XK), Room k (A.deeper (envOfC qual (defScope st) s.heap.objs.size f cdv)) → ∀ w as w' r, as.length = ps.length → dom w' = dom w → R w as w' r →
      Ws (cxOf CX0 P wd K mg base N qual (defScope st) f cdv A outer s H E).nox (defBody st) { nx := fun _ w2 => r = .none ∧ w2 = w', rt := fun d w2 => d = r ∧ w2 = w' } (startS N as) w) : FnOk P wd K mg base CX0 (k + 1) f fd ps (spG K ps.length R) := by
  refine F.ok S (fun vs H Q E h => ?_) (fun cdv A outer s H vs Q E hr h => ?_)
  · obtain ⟨B, w, as, w', r, _, e, _, _, pa, _⟩ := h
    rw [Paired.length' pa, e]
  · obtain ⟨B, w, as, w', r, rfl, e, o, dm, pa, hR, q⟩ := h
    refine ⟨_, pss_w, hbody cdv A outer s B.h E hr w as w' r e dm hR (dom w) B _ B _ (Good.start o) ?_ ⟨?_, ?_, fun _ _ _ _ _ _ _ _ _ _ h => h.elim, fun _ _ _ _ h => h.elim, fun _ _ _ _ _ _ h => h.elim, fun _ _ _ _ _ _ h => h.elim⟩⟩
    · refine paired_app (start_sig pa) ?_
      rw [Paired.length' pa]
      exact sig_none _
    · rintro σ C ρ w2 g s ⟨rfl, rfl⟩
      exact q .non C g.le g.own .non
    · rintro v C d w2 g r2 ⟨rfl, rfl⟩
      exact q v C g.le g.own r2
theorem Own.left {K : PySem.W.Frag} {B : HH} {t : W} (o : Own K (w ++ t) B) : Own K w B := by
  refine ⟨?_, fun q hq => o.has q (List.mem_append_left _ hq)⟩
  have h := o.nd
  unfold dom at h ⊢
  rw [List.map_append] at h
  exact (List.nodup_append.mp h).1
/-- .. where the def's own lists are dropped at its end -/
theorem fn_okT {P : Program} {wd : World} {K : PySem.W.Frag} {mg : Str → Option Value} {base : Heap} {nm qual : Str} {st : Stmt} {f : Addr} {fd : FuncData} {N ps : List Str} {k : Nat} {R : W → List Ag → W → D → Prop} (F : Fun K nm qual st f fd) (S : FnScope N ps (defScope st))
    (hbody : ∀ (cdv : Value) (A : Around) (outer : List Env) (s : Shared) (H : Hp) (E : XK), Room k (A.deeper (envOfC qual (defScope st) s.heap.objs.size f cdv)) → ∀ w as w' r, as.length = ps.length → dom w' = dom w → R w as w' r →
      Ws (cxOf CX0 P wd K mg base N qual (defScope st) f cdv A outer s H E).nox (defBody st) { nx := fun _ w2 => r = .none ∧ ∃ t, w2 = w' ++ t, rt := fun d w2 => d = r ∧ ∃ t, w2 = w' ++ t } (startS N as) w) : FnOk P wd K mg base CX0 (k + 1) f fd ps (spG K ps.length R) := by
  refine F.ok S (fun vs H Q E h => ?_) (fun cdv A outer s H vs Q E hr h => ?_)
  · obtain ⟨B, w, as, w', r, _, e, _, _, pa, _⟩ := h
    rw [Paired.length' pa, e]
  · obtain ⟨B, w, as, w', r, rfl, e, o, dm, pa, hR, q⟩ := h
    refine ⟨_, pss_w, hbody cdv A outer s B.h E hr w as w' r e dm hR (dom w) B _ B _ (Good.start o) ?_ ⟨?_, ?_, fun _ _ _ _ _ _ _ _ _ _ h => h.elim, fun _ _ _ _ h => h.elim, fun _ _ _ _ _ _ h => h.elim, fun _ _ _ _ _ _ h => h.elim⟩⟩
    · refine paired_app (start_sig pa) ?_
      rw [Paired.length' pa]
      exact sig_none _
    · rintro σ C ρ w2 g s ⟨rfl, t, rfl⟩
      exact q .non C g.le g.own.left .non
    · rintro v C d w2 g r2 ⟨rfl, t, rfl⟩
      exact q v C g.le g.own.left r2
/-- a def that hands back a new list -/
def spN (K : PySem.W.Frag) (n : Nat) (R : W → List Ag → W → List D → Prop) : Sp := fun vs H Q _ => ∃ (B : HH) (w : W) (as : List Ag) (w' : W) (r : List D), B.h = H ∧ as.length = n ∧ Own K w B ∧ dom w' = dom w ∧ Paired (AgOk K B.f) vs as ∧ R w as w' r ∧ ∀ p vs C, B.h p = none → Le (dom w) B C → Own K w' C → C.h p = some (.lst vs) → C.f p = none → DpAll K C.f vs r → Q (.ref p) C.h
theorem fn_okN {P : Program} {wd : World} {K : PySem.W.Frag} {mg : Str → Option Value} {base : Heap} {nm qual : Str} {st : Stmt} {f : Addr} {fd : FuncData} {N ps : List Str} {k : Nat} {R : W → List Ag → W → List D → Prop} (F : Fun K nm qual st f fd) (S : FnScope N ps (defScope st))
    (hbody : ∀ (cdv : Value) (A : Around) (outer : List Env) (s : Shared) (H : Hp) (E : XK), Room k (A.deeper (envOfC qual (defScope st) s.heap.objs.size f cdv)) → ∀ w as w' r, as.length = ps.length → dom w' = dom w → R w as w' r →
      Ws (cxOf CX0 P wd K mg base N qual (defScope st) f cdv A outer s H E).nox (defBody st) { nx := fun _ _ => False, rt := fun _ _ => False, rn := fun d w2 => d = r ∧ w2 = w' } (startS N as) w) : FnOk P wd K mg base CX0 (k + 1) f fd ps (spN K ps.length R) := by
  refine F.ok S (fun vs H Q E h => ?_) (fun cdv A outer s H vs Q E hr h => ?_)
  · obtain ⟨B, w, as, w', r, _, e, _, _, pa, _⟩ := h
    rw [Paired.length' pa, e]
  · obtain ⟨B, w, as, w', r, rfl, e, o, dm, pa, hR, q⟩ := h
    refine ⟨_, pss_w, hbody cdv A outer s B.h E hr w as w' r e dm hR (dom w) B _ B _ (Good.start o) ?_ ⟨fun _ _ _ _ _ _ h => h.elim, fun _ _ _ _ _ _ h => h.elim, ?_, fun _ _ _ _ h => h.elim, fun _ _ _ _ _ _ h => h.elim, fun _ _ _ _ _ _ h => h.elim⟩⟩
    · refine paired_app (start_sig pa) ?_
      rw [Paired.length' pa]
      exact sig_none _
    · rintro p vs C d w2 g hp h1 h2 r2 ⟨rfl, rfl⟩
      exact q p vs C hp g.le g.own h1 h2 r2
theorem EvN.call {f : Addr} {fd : FuncData} {ps : List Str} {k n : Nat} {R : W → List Ag → W → List D → Prop} {as : List Ag} (F : FnOk X.prog X.w X.K X.mg X.base CX0 k f fd ps (spN X.K n R)) (hr : Room k X.A) (hm : X.mg x = some (.ref f)) (hk : PySem.W.keepIn X.K (.ref f) = true) (hb : Binds X.K fd ps [])
    (ha : EvA X (e :: es) ρ w w1 as) (hl : as.length = n) (hR : R [] as [] ds) (hx : Passes CX0 X E0) (hg : Gl X x := by rfl) (hdb : (x == ("__debug__" : Str)) = false := by decide) 
    (he : starEach (e :: es) X.env = (false, eval e X.env) :: starEach es X.env := by rfl) (hpl : (backTo pos (starEach es X.env)).any (·.1) = false := by rfl) : EvN X (.Call (.Name x p) (e :: es) [] pos) ρ w w1 ds := by
  refine ⟨ha.dm, fun σ B hs hw Q q => w_e (pe_call F hr hg hm hk hb .nil hx pa_w hdb he hpl) ?_⟩
  refine ha.run σ B hs hw _ fun vs C l o v => ?_
  rw [List.append_nil]
  exact ⟨C, [], as, [], ds, rfl, hl, own_nil, rfl, v, hR, fun z us E hz l2 _ h1 h2 h3 => q z us E (Le.back l hw o ha.dm hz) (lift2 (S := w) ha.dm l o l2.nil) (o.step l2 (by simp [dom])) h1 h2 h3⟩
theorem FnOk.weak {P : Program} {wd : World} {K : PySem.W.Frag} {mg : Str → Option Value} {base : Heap} {f : Addr} {fd : FuncData} {ps : List Str} {k n : Nat} {R R' : W → List Ag → W → D → Prop} (F : FnOk P wd K mg base CX0 k f fd ps (spG K n R)) (h : ∀ w as w' r, R' w as w' r → R w as w' r) : FnOk P wd K mg base CX0 k f fd ps (spG K n R') :=
  F.imp fun vs H Q E ⟨B, w, as, w', r, h1, h2, h3, h4, h5, h6, h7⟩ => ⟨B, w, as, w', r, h1, h2, h3, h4, h5, h _ _ _ _ h6, h7⟩
/-- a call that leaves the owned lists alone -/
theorem Ev.call {f : Addr} {fd : FuncData} {ps : List Str} {k n : Nat} {R : W → List Ag → W → D → Prop} {as : List Ag} (F : FnOk X.prog X.w X.K X.mg X.base CX0 k f fd ps (spG X.K n R)) (hr : Room k X.A) (hm : X.mg x = some (.ref f)) (hk : PySem.W.keepIn X.K (.ref f) = true) (hb : Binds X.K fd ps [])
    (ha : EvA X (e :: es) ρ w w1 as) (hl : as.length = n) (hR : R [] as [] d) (hx : Passes CX0 X E0) (hg : Gl X x := by rfl) (hdb : (x == ("__debug__" : Str)) = false := by decide) 
    (he : starEach (e :: es) X.env = (false, eval e X.env) :: starEach es X.env := by rfl) (hpl : (backTo pos (starEach es X.env)).any (·.1) = false := by rfl) : Ev X (.Call (.Name x p) (e :: es) [] pos) ρ w w1 d := by
  refine ⟨ha.dm, fun σ B hs hw Q q => w_e (pe_call F hr hg hm hk hb .nil hx pa_w hdb he hpl) ?_⟩
  refine ha.run σ B hs hw _ fun vs C l o v => ?_
  rw [List.append_nil]
  exact ⟨C, [], as, [], d, rfl, hl, own_nil, rfl, v, hR, fun z E l2 _ r => q z E (lift2 (S := w) ha.dm l o l2.nil) (o.step l2 (by simp [dom])) r⟩
/-- a call that changes the owned list at place m -/
theorem Ev.callS (m : Nat) {f ad : Addr} {fd : FuncData} {ps : List Str} {k n : Nat} {R : W → List Ag → W → D → Prop} {as : List Ag} {c0 c1 : Cell} (F : FnOk X.prog X.w X.K X.mg X.base CX0 k f fd ps (spG X.K n R)) (hr : Room k X.A) (hm : X.mg x = some (.ref f)) (hk : PySem.W.keepIn X.K (.ref f) = true) (hb : Binds X.K fd ps [])
    (ha : EvA X (e :: es) ρ w w1 as) (hl : as.length = n) (hw1 : w1[m]? = some (ad, c0)) (hR : R [(ad, c0)] as [(ad, c1)] d) (hx : Passes CX0 X E0) (hg : Gl X x := by rfl) (hdb : (x == ("__debug__" : Str)) = false := by decide)
    (he : starEach (e :: es) X.env = (false, eval e X.env) :: starEach es X.env := by rfl) (hpl : (backTo pos (starEach es X.env)).any (·.1) = false := by rfl) : Ev X (.Call (.Name x p) (e :: es) [] pos) ρ w (w1.set m (ad, c1)) d := by
  have mem : ad ∈ dom w1 := List.mem_map.mpr ⟨_, List.mem_of_getElem? hw1, rfl⟩
  have hd : (dom w1)[m]? = some ad := by
    unfold dom
    rw [List.getElem?_map, hw1]
    rfl
  have edm : dom (w1.set m (ad, c1)) = dom w1 := by
    apply List.ext_getElem?
    intro j
    unfold dom
    rw [List.getElem?_map, List.getElem?_set, List.getElem?_map]
    split
    · rename_i hj
      subst hj
      rw [hw1]
      split
      · rfl
      · rename_i hh
        exact absurd (List.getElem?_eq_some_iff.mp hw1).1 hh
    · rfl
  refine ⟨edm.trans ha.dm, fun σ B hs hw Q q => w_e (pe_call F hr hg hm hk hb .nil hx pa_w hdb he hpl) ?_⟩
  refine ha.run σ B hs hw _ fun vs C l o v => ?_
  rw [List.append_nil]
  obtain ⟨⟨us, h1, h2⟩, h3⟩ := o.has _ (List.mem_of_getElem? hw1)
  refine ⟨C, [(ad, c0)], as, [(ad, c1)], d, rfl, hl, ⟨by simp [dom], fun q hq => ?_⟩, rfl, v, hR, fun z E l2 o2 r => ?_⟩
  · have ez : q = (ad, c0) := by simpa using hq
    subst ez
    exact ⟨⟨us, h1, h2⟩, h3⟩
  · have l3 : Le (dom w1) C E := l2.widen fun a m => by
      have ez : a = ad := by simpa [dom] using m
      subst ez
      exact mem
    refine q z E (lift2 (S := w) ha.dm l o l3) ⟨by rw [edm]; exact o.nd, fun q hq => ?_⟩ r
    obtain ⟨j, hj⟩ := List.getElem?_of_mem hq
    rw [List.getElem?_set] at hj
    split at hj
    · split at hj
      · have z := Option.some.inj hj
        subst z
        exact o2.has _ (List.mem_singleton.mpr rfl)
      · cases hj
    · rename_i hjk
      obtain ⟨⟨us2, g1, g2⟩, g3⟩ := o.has q (List.mem_of_getElem? hj)
      have hq' : (dom w1)[j]? = some q.1 := by
        unfold dom
        rw [List.getElem?_map, hj]
        rfl
      have ne : q.1 ∉ dom [(ad, c0)] := fun z => by
        have ez : q.1 = ad := by simpa [dom] using z
        exact hjk (nd_ix o.nd (hd.trans (by rw [ez])) hq')
      refine ⟨⟨us2, l2.h _ _ ne g1, CellOk.mono l2.f g2⟩, ?_⟩
      cases y : E.f q.1 with
      | none => rfl
      | some u =>
        rcases l2.new q.1 (by rw [y]; simp) with k | k | k
        · exact absurd g3 k
        · rw [g1] at k; cases k
        · exact absurd k ne
end
end Pm

namespace Pm
open PySem PySem.Spec PyProof.Rows L2 Evl
section
variable {X : Cx} {e a b c : Expr} {es rest : List Expr} {ρ : List Slot} {w w1 w2 w3 : W} {d d1 d2 : D} {ds : List D} {pos p : Pos} {x : Str}
/-- an item by its place -/
def itemD : D → Int → Option D
  | .list ds, i => atI ds i
  | .tuple ds, i => atI ds i
  | _, _ => none
theorem Ev.ix {i : Int} (ha : Ev X a ρ w w1 d1) (hb : Ev X b ρ w1 w2 (.int i)) (h : itemD d1 i = some d := by rfl) (hs : PlainIx b := by exact fun _ _ => rfl) : Ev X (.Subscript a b pos) ρ w w2 d := by
  cases d1 with
  | list ds => exact Ev.ixL ha hb h hs
  | tuple ds => exact Ev.ixT ha hb h hs
  | none => cases h
  | bool _ => cases h
  | int _ => cases h
  | str _ => cases h
  | dict _ => cases h
theorem item_nat {i : Nat} (h : ds[i]? = some d) : itemD (.tuple ds) (i : Int) = some d := by
  show atI ds (i : Int) = some d
  exact atI_nat h
theorem item_natL {i : Nat} (h : ds[i]? = some d) : itemD (.list ds) (i : Int) = some d := by
  show atI ds (i : Int) = some d
  exact atI_nat h
/-- and, the first known to hold: the second may change the owned lists -/
theorem Ev.andT (ha : Ev X a ρ w w1 (.bool true)) (hb : Ev X (.BoolOp .And (b :: rest) pos) ρ w1 w2 d) : Ev X (.BoolOp .And (a :: b :: rest) pos) ρ w w2 d := by
  refine ⟨hb.dm.trans ha.dm, fun σ B hs hw Q q => w_e (pe_and pe_w pe_w) ?_⟩
  refine ha.run σ B hs hw _ fun x C1 l1 o1 x1 => ?_
  cases x1
  exact ⟨true, rfl, hb.run σ C1 (Sig.mono l1.f hs) o1 _ fun v C2 l2 o2 v2 => q v C2 (lift2 (S := w) ha.dm l1 o1 l2) o2 v2⟩
theorem Ev.intB {k : Bool} (h : Ev X e ρ w w1 (.bool k)) (hm : X.mg "int" = none) (hg : Gl X "int" := by rfl) (he : starEach [e] X.env = (false, eval e X.env) :: starEach [] X.env := by rfl) (hpl : (backTo pos (starEach [] X.env)).any (·.1) = false := by rfl) : Ev X (.Call (.Name "int" p) [e] [] pos) ρ w w1 (.int (if k then 1 else 0)) :=
  Ev.callTy (ds := [.bool k]) (EvA.cons h .nil he) (fun B xs h Q q => by
    obtain ⟨v, rfl, r⟩ := dp1 h
    cases r
    exact cw_of call_int1 (.inr ⟨k, rfl, q _ B (Le.refl _ _) (.int _)⟩)) hm (by decide +kernel) hg (by decide) (by decide) he hpl
/-- a loop over range(n), n a numeral: turn by turn -/
def Unr (X : Cx) (body : List Stmt) (E : DE) (j : Nat) : Nat → Nat → List Slot → W → Prop
  | 0, _, ρ, w => E.nx ρ w
  | m + 1, i, ρ, w => Ws X body { E with nx := fun ρ w => Unr X body E j m (i + 1) ρ w, ct := fun ρ w => Unr X body E j m (i + 1) ρ w, bk := E.nx } (ρ.set j (.dat (.int (i : Int)))) w
theorem Wt.forU (j : Nat) {body : List Stmt} {E : DE} {ar : Expr} {n : Nat} {pr px pc : Pos} (hr : EvA X [ar] ρ w w1 [.dat (.int (n : Int))]) (hb1 : n ≤ 1000) (h0 : Unr X body E j n 0 ρ w1)
    (hp : PassesOwn (model X.prog X.w) X.A X.env X.xe) (hc : X.calm = true) (hN : X.N.Nodup) (hm : X.mg "range" = none) (hg : Gl X "range" := by rfl) (hi : X.N[j]? = some x := by rfl) (hx : Loc X.env.scope x := by first | exact Or.inl rfl | exact Or.inr rfl) (hf : X.fn x = true ∨ X.env.scope.names.lookup x = some .local := by first | exact .inl rfl | exact .inr rfl | assumption)
    (hst : starEach [ar] X.env = [(false, eval ar X.env)] := by rfl) (hfs : ∀ x, foldedSetIterable (.Call (.Name "range" pr) [ar] [] pc) X.env x = pure x := by intro _; rfl) : Wt X (.For (.Name x px) (.Call (.Name "range" pr) [ar] [] pc) body [] pos) E ρ w := by
  refine Wt.forR1 j (fun i ρ w => Unr X body E j (n - i) i ρ w) hr ⟨by omega, by omega⟩ h0 (fun i ρ w hi h => ?_) (fun ρ w h => ?_) hp hc hN hm hg hi hx hf hst hfs
  · rw [Int.toNat_natCast] at hi
    have e : n - i = (n - (i + 1)) + 1 := by omega
    rw [e] at h
    exact h
  · rw [Int.toNat_natCast, Nat.sub_self] at h
    exact h
/-- a module's constant -/
structure Glob (K : PySem.W.Frag) (mg : Str → Option Value) (x : Str) (d : D) : Prop where
  ex : ∃ (u : Value) (v : V), mg x = some u ∧ RelV v u ∧ ∀ f : Hp, Dp K f v d
theorem Ev.globC (G : Glob X.K X.mg x d) (hg : Gl X x := by rfl) (hdb : (x == ("__debug__" : Str)) = false := by decide) : Ev X (.Name x pos) ρ w w d := by
  obtain ⟨u, v, h1, h2, h3⟩ := G.ex
  exact Ev.glob h1 h2 h3 hg hdb
/-- a def that can be called -/
structure Cal (P : Program) (wd : World) (K : PySem.W.Frag) (mg : Str → Option Value) (base : Heap) (k : Nat) (x : Str) (n : Nat) (R : W → List Ag → W → D → Prop) : Prop where
  ex : ∃ (f : Addr) (fd : FuncData) (ps : List Str), FnOk P wd K mg base CX0 k f fd ps (spG K n R) ∧ mg x = some (.ref f) ∧ PySem.W.keepIn K (.ref f) = true ∧ Binds K fd ps []
theorem Cal.mono {P : Program} {wd : World} {K : PySem.W.Frag} {mg : Str → Option Value} {base : Heap} {k k' : Nat} {n : Nat} {R R' : W → List Ag → W → D → Prop} (c : Cal P wd K mg base k x n R) (h : k ≤ k') (hR : ∀ w as w' r, R' w as w' r → R w as w' r) : Cal P wd K mg base k' x n R' := by
  obtain ⟨f, fd, ps, h1, h2, h3, h4⟩ := c.ex
  exact ⟨f, fd, ps, (FnOk.weak h1 hR).mono h, h2, h3, h4⟩
theorem Ev.callC {k kk n : Nat} {R : W → List Ag → W → D → Prop} {as : List Ag} (C : Cal X.prog X.w X.K X.mg X.base k x n R) (hr : Room kk X.A)
    (ha : EvA X (e :: es) ρ w w1 as) (hR : R [] as [] d) (hl : as.length = n := by rfl) (hkk : k ≤ kk := by decide) (hx : Passes CX0 X E0 := by exact pass0) (hg : Gl X x := by rfl) (hdb : (x == ("__debug__" : Str)) = false := by decide)
    (he : starEach (e :: es) X.env = (false, eval e X.env) :: starEach es X.env := by rfl) (hpl : (backTo pos (starEach es X.env)).any (·.1) = false := by rfl) : Ev X (.Call (.Name x p) (e :: es) [] pos) ρ w w1 d := by
  obtain ⟨f, fd, ps, F, hm, hk, hb⟩ := C.ex
  exact Ev.call F (hr.mono hkk) hm hk hb ha hl hR hx hg hdb he hpl
theorem Ev.callCS (m : Nat) {k kk n : Nat} {ad : Addr} {R : W → List Ag → W → D → Prop} {as : List Ag} {c0 c1 : Cell} (C : Cal X.prog X.w X.K X.mg X.base k x n R) (hr : Room kk X.A)
    (ha : EvA X (e :: es) ρ w w1 as) (hw1 : w1[m]? = some (ad, c0)) (hR : R [(ad, c0)] as [(ad, c1)] d) (hl : as.length = n := by rfl) (hkk : k ≤ kk := by decide) (hx : Passes CX0 X E0 := by exact pass0) (hg : Gl X x := by rfl) (hdb : (x == ("__debug__" : Str)) = false := by decide)
    (he : starEach (e :: es) X.env = (false, eval e X.env) :: starEach es X.env := by rfl) (hpl : (backTo pos (starEach es X.env)).any (·.1) = false := by rfl) : Ev X (.Call (.Name x p) (e :: es) [] pos) ρ w (w1.set m (ad, c1)) d := by
  obtain ⟨f, fd, ps, F, hm, hk, hb⟩ := C.ex
  exact Ev.callS m F (hr.mono hkk) hm hk hb ha hl hw1 hR hx hg hdb he hpl
structure CalN (P : Program) (wd : World) (K : PySem.W.Frag) (mg : Str → Option Value) (base : Heap) (k : Nat) (x : Str) (n : Nat) (R : W → List Ag → W → List D → Prop) : Prop where
  ex : ∃ (f : Addr) (fd : FuncData) (ps : List Str), FnOk P wd K mg base CX0 k f fd ps (spN K n R) ∧ mg x = some (.ref f) ∧ PySem.W.keepIn K (.ref f) = true ∧ Binds K fd ps []
theorem EvN.callC {k kk n : Nat} {R : W → List Ag → W → List D → Prop} {as : List Ag} (C : CalN X.prog X.w X.K X.mg X.base k x n R) (hr : Room kk X.A)
    (ha : EvA X (e :: es) ρ w w1 as) (hR : R [] as [] ds) (hl : as.length = n := by rfl) (hkk : k ≤ kk := by decide) (hx : Passes CX0 X E0 := by exact pass0) (hg : Gl X x := by rfl) (hdb : (x == ("__debug__" : Str)) = false := by decide)
    (he : starEach (e :: es) X.env = (false, eval e X.env) :: starEach es X.env := by rfl) (hpl : (backTo pos (starEach es X.env)).any (·.1) = false := by rfl) : EvN X (.Call (.Name x p) (e :: es) [] pos) ρ w w1 ds := by
  obtain ⟨f, fd, ps, F, hm, hk, hb⟩ := C.ex
  exact EvN.call F (hr.mono hkk) hm hk hb ha hl hR hx hg hdb he hpl
/-! kinds -/
theorem kit_int_int : kitB "int" "int" = some true := by decide +kernel
theorem kit_int_bool : kitB "int" "bool" = some false := by decide +kernel
theorem kit_int_str : kitB "int" "str" = some false := by decide +kernel
theorem kit_int_tuple : kitB "int" "tuple" = some false := by decide +kernel
theorem kit_int_list : kitB "int" "list" = some false := by decide +kernel
theorem kit_bool_int : kitB "bool" "int" = some true := by decide +kernel
theorem kit_bool_bool : kitB "bool" "bool" = some true := by decide +kernel
theorem kit_bool_str : kitB "bool" "str" = some false := by decide +kernel
theorem kit_bool_tuple : kitB "bool" "tuple" = some false := by decide +kernel
theorem kit_bool_list : kitB "bool" "list" = some false := by decide +kernel
theorem kit_str_int : kitB "str" "int" = some false := by decide +kernel
theorem kit_str_bool : kitB "str" "bool" = some false := by decide +kernel
theorem kit_str_str : kitB "str" "str" = some true := by decide +kernel
theorem kit_str_tuple : kitB "str" "tuple" = some false := by decide +kernel
theorem kit_str_list : kitB "str" "list" = some false := by decide +kernel
theorem kit_tuple_int : kitB "tuple" "int" = some false := by decide +kernel
theorem kit_tuple_bool : kitB "tuple" "bool" = some false := by decide +kernel
theorem kit_tuple_str : kitB "tuple" "str" = some false := by decide +kernel
theorem kit_tuple_tuple : kitB "tuple" "tuple" = some true := by decide +kernel
theorem kit_tuple_list : kitB "tuple" "list" = some false := by decide +kernel
theorem kit_list_int : kitB "list" "int" = some false := by decide +kernel
theorem kit_list_bool : kitB "list" "bool" = some false := by decide +kernel
theorem kit_list_str : kitB "list" "str" = some false := by decide +kernel
theorem kit_list_tuple : kitB "list" "tuple" = some false := by decide +kernel
theorem kit_list_list : kitB "list" "list" = some true := by decide +kernel
theorem kit_none_int : kitB "NoneType" "int" = some false := by decide +kernel
theorem kit_none_bool : kitB "NoneType" "bool" = some false := by decide +kernel
theorem kit_none_str : kitB "NoneType" "str" = some false := by decide +kernel
theorem kit_none_tuple : kitB "NoneType" "tuple" = some false := by decide +kernel
theorem kit_none_list : kitB "NoneType" "list" = some false := by decide +kernel
theorem bt_int : bootBuiltins "int" = some (.type "int") := by decide +kernel
theorem bt_bool : bootBuiltins "bool" = some (.type "bool") := by decide +kernel
theorem bt_str : bootBuiltins "str" = some (.type "str") := by decide +kernel
theorem bt_tuple : bootBuiltins "tuple" = some (.type "tuple") := by decide +kernel
theorem bt_list : bootBuiltins "list" = some (.type "list") := by decide +kernel
/-! built-ins by name -/
theorem Ev.intC {i : Int} (h : Ev X e ρ w w1 (.int i)) (hm : X.mg "int" = none) (hg : Gl X "int" := by rfl) (he : starEach [e] X.env = (false, eval e X.env) :: starEach [] X.env := by rfl) (hpl : (backTo pos (starEach [] X.env)).any (·.1) = false := by rfl) : Ev X (.Call (.Name "int" p) [e] [] pos) ρ w w1 (.int i) :=
  Ev.callTy (ds := [.int i]) (EvA.cons h .nil he) cd_int hm (by decide +kernel) hg (by decide) (by decide) he hpl
theorem Ev.absC {i : Int} (h : Ev X e ρ w w1 (.int i)) (hm : X.mg "abs" = none) (hg : Gl X "abs" := by rfl) (he : starEach [e] X.env = (false, eval e X.env) :: starEach [] X.env := by rfl) (hpl : (backTo pos (starEach [] X.env)).any (·.1) = false := by rfl) : Ev X (.Call (.Name "abs" p) [e] [] pos) ρ w w1 (.int (if i < 0 then -i else i)) :=
  Ev.callB (ds := [.int i]) (EvA.cons h .nil he) cd_abs hm (by decide +kernel) hg (by decide) (by decide) he hpl
def lenD : D → Option Nat
  | .list ds => some ds.length
  | .tuple ds => some ds.length
  | _ => none
theorem cd_len {n : Nat} (h : lenD d = some n) : CallD X (.builtin "len") [d] (.int (n : Int)) := by
  cases d with
  | list ds => cases h; exact cd_lenL
  | tuple ds => cases h; exact cd_lenT
  | none => cases h
  | bool _ => cases h
  | int _ => cases h
  | str _ => cases h
  | dict _ => cases h
theorem Ev.lenC {n : Nat} (h : Ev X e ρ w w1 d) (hm : X.mg "len" = none) (hn : lenD d = some n := by rfl) (hg : Gl X "len" := by rfl) (he : starEach [e] X.env = (false, eval e X.env) :: starEach [] X.env := by rfl) (hpl : (backTo pos (starEach [] X.env)).any (·.1) = false := by rfl) : Ev X (.Call (.Name "len" p) [e] [] pos) ρ w w1 (.int (n : Int)) :=
  Ev.callB (ds := [d]) (EvA.cons h .nil he) (cd_len hn) hm (by decide +kernel) hg (by decide) (by decide) he hpl
theorem Ev.tupleL (h : Ev X e ρ w w1 (.list ds)) (hm : X.mg "tuple" = none) (hg : Gl X "tuple" := by rfl) (he : starEach [e] X.env = (false, eval e X.env) :: starEach [] X.env := by rfl) (hpl : (backTo pos (starEach [] X.env)).any (·.1) = false := by rfl) : Ev X (.Call (.Name "tuple" p) [e] [] pos) ρ w w1 (.tuple ds) :=
  Ev.callTy (ds := [.list ds]) (EvA.cons h .nil he) cd_tupleL hm (by decide +kernel) hg (by decide) (by decide) he hpl
def seqD : D → Option (List D)
  | .list ds => some ds
  | .tuple ds => some ds
  | _ => none
theorem cn_list {xs : List D} (h : seqD d = some xs) : CallN X (.type "list") [d] xs := by
  cases d with
  | list ds => cases h; exact cn_listL
  | tuple ds => cases h; exact cn_listT
  | none => cases h
  | bool _ => cases h
  | int _ => cases h
  | str _ => cases h
  | dict _ => cases h
theorem EvN.listC {xs : List D} (h : Ev X e ρ w w1 d) (hm : X.mg "list" = none) (hn : seqD d = some xs := by rfl) (hg : Gl X "list" := by rfl) (he : starEach [e] X.env = (false, eval e X.env) :: starEach [] X.env := by rfl) (hpl : (backTo pos (starEach [] X.env)).any (·.1) = false := by rfl) : EvN X (.Call (.Name "list" p) [e] [] pos) ρ w w1 xs :=
  EvN.callTy (ds := [d]) (EvA.cons h .nil he) (cn_list hn) hm (by decide +kernel) hg (by decide) (by decide) he hpl
theorem Ev.maxC {ns : List Int} {m : Int} (h : Ev X e ρ w w1 (.list (ns.map PyData.int))) (hm : X.mg "max" = none) (hc : X.calm = true) (h0 : m ∈ ns) (h1 : ∀ y ∈ ns, y ≤ m) (hg : Gl X "max" := by rfl) (he : starEach [e] X.env = (false, eval e X.env) :: starEach [] X.env := by rfl) (hpl : (backTo pos (starEach [] X.env)).any (·.1) = false := by rfl) : Ev X (.Call (.Name "max" p) [e] [] pos) ρ w w1 (.int m) :=
  Ev.callB (ds := [.list (ns.map PyData.int)]) (EvA.cons h .nil he) (cd_maxL hc h0 h1) hm (by decide +kernel) hg (by decide) (by decide) he hpl

/-- [elt for x in a list] -/
theorem compL_run (j : Nat) {elt it : Expr} {scope : Scope} {ys : List D} (hr : Ev X it ρ w w1 (.list ds)) (hl : ys.length = ds.length)
    (hb : ∀ (i : Nat) (y z : D), ds[i]? = some y → ys[i]? = some z → EvB X scope elt ((wipeS ρ [j]).set j (.dat y)) w1 w1 z) (hz : ds.length ≤ 100000) : RdN X.K (tLc (iList X.K (wE X it)) (gName j) tYes (tBlk X scope elt) [j]) ρ w w1 ys := by
  refine ⟨hr.dm, fun σ B hsg hw Q q => ?_⟩
  refine hr.run σ B hsg hw _ fun v C l o r => ?_
  cases r with
  | lst hl2 hd =>
    rename_i ad xs
    have el := DpAll.length hd
    have hsC : Sig X.K C.f σ ρ := Sig.mono l.f hsg
    refine ⟨ad, rfl, ⟨_, ex_l C.ok hl2⟩, fun L hL => ?_⟩
    have hLB : B.h L = none := Le.back l hw o hr.dm hL
    refine lc_list (K := X.K) (a := ad) (xs := xs) (fun i H => CSt X.K C w1 L w1 (ys.take i) H) ?_ ?_ ?_ ?_
    · exact ⟨C.put L (.lst []) (HH.free hL), [], rfl, HH.put_le hL, o.step (HH.put_le (S := []) hL) (by simp), upd_same, HH.free (B := C) hL, .nil⟩
    · rintro i H hin ⟨C2, vs2, rfl, l2, _⟩
      exact ex_l C2.ok (ex_l l2.f hl2)
    · intro i y H hiy hC
      refine ⟨?_, ?_⟩
      · show wipe ((wipe σ [j]).set j _) [j] = wipe σ [j]
        simp only [wipe, List.set_set]
      · refine iteT (B := CSt X.K C w1 L w1 (ys.take (i + 1)) H) ?_
        have hlt : i < ds.length := by rw [← el]; exact (List.getElem?_eq_some_iff.mp hiy).1
        obtain ⟨v, h1, h2⟩ := DpAll.get hd (List.getElem?_eq_getElem hlt)
        have ev : v = y := Option.some.inj (h1.symm.trans hiy)
        subst ev
        have hlt2 : i < ys.length := by omega
        have k := comp_step (σ := (wipe σ [j]).set j (some v)) (hb i _ _ (List.getElem?_eq_getElem hlt) (List.getElem?_eq_getElem hlt2)) rfl hL o (fun E l2 => Paired.set (slot_dat (Dp.mono l2.f h2)) j (Sig.wipe (Sig.mono l2.f hsC) [j])) hC (by rw [List.length_take]; omega)
        have e : ys.take i ++ [ys[i]] = ys.take (i + 1) := by
          rw [List.take_add_one, List.getElem?_eq_getElem hlt2]
          rfl
        rw [e] at k
        exact k
    · rintro H ⟨C2, vs2, rfl, l2, o2, h1, h2, h3⟩
      rw [List.take_of_length_le (by omega)] at h3
      exact q L vs2 C2 hLB (lift2 (S := w) hr.dm l o l2) o2 h1 h2 h3
theorem pe_compL (j : Nat) {elt it : Expr} {scope : Scope} {px : Pos} (ok : BlkOk X.N X.env.scope scope [(x, j)]) (hc : X.calm = true) (hN : X.N.Nodup) (hi : X.N[j]? = some x := by rfl) (hx : Loc (relabel scope X.env) x := by first | exact Or.inl rfl | exact Or.inr rfl)
    (hf : (scope.names.lookup x == some .cell) = true ∨ (relabel scope X.env).names.lookup x = some .local := by first | exact .inr rfl | exact .inl rfl)
    (hfs : ∀ x, foldedSetIterable it X.env x = pure x := by intro _; rfl) :
    PE X (.ListComp elt [⟨.Name x px, it, [], 0⟩] scope pos) (tLc (iList X.K (wE X it)) (gName j) tYes (tBlk X scope elt) [j]) :=
  pe_lc (own := [(x, j)]) hc hN (pi_list pe_w) ok (fun s H C cl fp => pg_name hN hi hx hf) (fun s H C cl fp => pts_nil) (fun s H C cl fp => ⟨fun pins s' σ H Q I h => h s _ C cl fp pins s' I⟩) hfs
theorem ps_compL (i j : Nat) {y : Str} {py : Pos} {elt it : Expr} {scope : Scope} {px spos : Pos} (ok : BlkOk X.N X.env.scope scope [(x, j)]) (hc : X.calm = true) (hN : X.N.Nodup) (hsw : swapsWith (.ListComp elt [⟨.Name x px, it, [], 0⟩] scope pos) (some (.Name y py)) spos.line X.env = pure true := by exact sw_true rfl rfl rfl (by decide +kernel))
    (hy : X.N[i]? = some y := by rfl) (hyl : X.env.scope.names.lookup y = some .local := by rfl) (hi : X.N[j]? = some x := by rfl) (hx : Loc (relabel scope X.env) x := by first | exact Or.inl rfl | exact Or.inr rfl)
    (hf : (scope.names.lookup x == some .cell) = true ∨ (relabel scope X.env).names.lookup x = some .local := by first | exact .inr rfl | exact .inl rfl)
    (hfs : ∀ x, foldedSetIterable it X.env x = pure x := by intro _; rfl) :
    PS X (.Assign [.Name y py] (.ListComp elt [⟨.Name x px, it, [], 0⟩] scope pos) spos) (tAsg (tLc (iList X.K (wE X it)) (gName j) tYes (tBlk X scope elt) [j]) (gName i)) :=
  ps_setLc (own := [(x, j)]) hc hN hy hyl hsw (pi_list pe_w) ok (fun s H C cl fp => pg_name hN hi hx hf) (fun s H C cl fp => pts_nil) (fun s H C cl fp => ⟨fun pins s' σ H Q I h => h s _ C cl fp pins s' I⟩) hfs
/-- the greatest -/
def maxI : Int → List Int → Int
  | m, [] => m
  | m, y :: r => maxI (if m < y then y else m) r
theorem maxI_le : ∀ (r : List Int) (m : Int), m ≤ maxI m r ∧ (∀ y ∈ r, y ≤ maxI m r) ∧ (maxI m r = m ∨ maxI m r ∈ r)
  | [], m => ⟨Int.le_refl _, by simp, .inl rfl⟩
  | y :: r, m => by
    obtain ⟨h1, h2, h3⟩ := maxI_le r (if m < y then y else m)
    have e : maxI m (y :: r) = maxI (if m < y then y else m) r := rfl
    rw [e]
    split at h1
    all_goals (rename_i hmy; simp only [hmy, if_true, if_false] at h1 h2 h3 ⊢; refine ⟨by omega, ?_, ?_⟩)
    · intro z hz
      rcases List.mem_cons.mp hz with rfl | hz
      · exact h1
      · exact h2 z hz
    · rcases h3 with h3 | h3
      · exact .inr (by rw [h3]; exact List.mem_cons_self ..)
      · exact .inr (List.mem_cons_of_mem _ h3)
    · intro z hz
      rcases List.mem_cons.mp hz with rfl | hz
      · omega
      · exact h2 z hz
    · rcases h3 with h3 | h3
      · exact .inl h3
      · exact .inr (List.mem_cons_of_mem _ h3)
theorem Ev.maxN {n : Int} {ns : List Int} (h : Ev X e ρ w w1 (.list ((n :: ns).map PyData.int))) (hm : X.mg "max" = none) (hc : X.calm = true) (hg : Gl X "max" := by rfl) (he : starEach [e] X.env = (false, eval e X.env) :: starEach [] X.env := by rfl) (hpl : (backTo pos (starEach [] X.env)).any (·.1) = false := by rfl) : Ev X (.Call (.Name "max" p) [e] [] pos) ρ w w1 (.int (maxI n ns)) := by
  obtain ⟨h1, h2, h3⟩ := maxI_le ns n
  refine Ev.maxC h hm hc ?_ (fun y hy => ?_) hg he hpl
  · rcases h3 with h3 | h3
    · rw [h3]; exact List.mem_cons_self ..
    · exact List.mem_cons_of_mem _ h3
  · rcases List.mem_cons.mp hy with rfl | hy
    · exact h1
    · exact h2 y hy
end
end Pm

namespace Pm
open PySem PySem.Spec PyProof.Rows L2 Evl
section
variable {X : Cx} {ρ : List Slot} {w w1 w2 : W} {ds : List D} {x : Str} {pos : Pos}
theorem compT_run (j : Nat) {elt it : Expr} {scope : Scope} {ys : List D} (hr : Ev X it ρ w w1 (.tuple ds)) (hl : ys.length = ds.length)
    (hb : ∀ (i : Nat) (y z : D), ds[i]? = some y → ys[i]? = some z → EvB X scope elt ((wipeS ρ [j]).set j (.dat y)) w1 w1 z) (hz : ds.length ≤ 100000) : RdN X.K (tLc (iTup X.K (wE X it)) (gName j) tYes (tBlk X scope elt) [j]) ρ w w1 ys := by
  refine ⟨hr.dm, fun σ B hsg hw Q q => ?_⟩
  refine hr.run σ B hsg hw _ fun v C l o r => ?_
  cases r with
  | tup hl2 hd =>
    rename_i ad xs
    have el := DpAll.length hd
    have hsC : Sig X.K C.f σ ρ := Sig.mono l.f hsg
    refine ⟨ad, rfl, ⟨_, ex_t C.ok hl2⟩, fun L hL => ?_⟩
    have hLB : B.h L = none := Le.back l hw o hr.dm hL
    refine lc_tup (K := X.K) (a := ad) (xs := xs) (fun i H => CSt X.K C w1 L w1 (ys.take i) H) ?_ ?_ ?_ ?_
    · exact ⟨C.put L (.lst []) (HH.free hL), [], rfl, HH.put_le hL, o.step (HH.put_le (S := []) hL) (by simp), upd_same, HH.free (B := C) hL, .nil⟩
    · rintro i H hin ⟨C2, vs2, rfl, l2, _⟩
      exact ex_t C2.ok (ex_t l2.f hl2)
    · intro i y H hiy hC
      refine ⟨?_, ?_⟩
      · show wipe ((wipe σ [j]).set j _) [j] = wipe σ [j]
        simp only [wipe, List.set_set]
      · refine iteT (B := CSt X.K C w1 L w1 (ys.take (i + 1)) H) ?_
        have hlt : i < ds.length := by rw [← el]; exact (List.getElem?_eq_some_iff.mp hiy).1
        obtain ⟨v, h1, h2⟩ := DpAll.get hd (List.getElem?_eq_getElem hlt)
        have ev : v = y := Option.some.inj (h1.symm.trans hiy)
        subst ev
        have hlt2 : i < ys.length := by omega
        have k := comp_step (σ := (wipe σ [j]).set j (some v)) (hb i _ _ (List.getElem?_eq_getElem hlt) (List.getElem?_eq_getElem hlt2)) rfl hL o (fun E l2 => Paired.set (slot_dat (Dp.mono l2.f h2)) j (Sig.wipe (Sig.mono l2.f hsC) [j])) hC (by rw [List.length_take]; omega)
        have e : ys.take i ++ [ys[i]] = ys.take (i + 1) := by
          rw [List.take_add_one, List.getElem?_eq_getElem hlt2]
          rfl
        rw [e] at k
        exact k
    · rintro H ⟨C2, vs2, rfl, l2, o2, h1, h2, h3⟩
      rw [List.take_of_length_le (by omega)] at h3
      exact q L vs2 C2 hLB (lift2 (S := w) hr.dm l o l2) o2 h1 h2 h3
theorem pe_compT (j : Nat) {elt it : Expr} {scope : Scope} {px : Pos} (ok : BlkOk X.N X.env.scope scope [(x, j)]) (hc : X.calm = true) (hN : X.N.Nodup) (hi : X.N[j]? = some x := by rfl) (hx : Loc (relabel scope X.env) x := by first | exact Or.inl rfl | exact Or.inr rfl)
    (hf : (scope.names.lookup x == some .cell) = true ∨ (relabel scope X.env).names.lookup x = some .local := by first | exact .inr rfl | exact .inl rfl)
    (hfs : ∀ x, foldedSetIterable it X.env x = pure x := by intro _; rfl) :
    PE X (.ListComp elt [⟨.Name x px, it, [], 0⟩] scope pos) (tLc (iTup X.K (wE X it)) (gName j) tYes (tBlk X scope elt) [j]) :=
  pe_lc (own := [(x, j)]) hc hN (pi_tup pe_w) ok (fun s H C cl fp => pg_name hN hi hx hf) (fun s H C cl fp => pts_nil) (fun s H C cl fp => ⟨fun pins s' σ H Q I h => h s _ C cl fp pins s' I⟩) hfs
end
end Pm

namespace Pm
open PySem PySem.Spec PyProof.Rows L2 Evl
/-! ### owned dicts with int and text keys -/
abbrev KD (K : PySem.W.Frag) (f : Hp) (kvs : List (Key × V)) (kds : List (Key × D)) : Prop := Paired (fun (p : Key × V) (q : Key × D) => p.1 = q.1 ∧ Dp K f p.2 q.2) kvs kds
def valD (kds : List (Key × D)) (k : Key) : Option D := (kds.find? fun kv => decide (kv.1 = k)).map (·.2)
def putD (kds : List (Key × D)) (k : Key) (d : D) : List (Key × D) :=
  if (kds.any fun kv => decide (kv.1 = k)) = true then kds.map (fun kv => if kv.1 = k then (kv.1, d) else kv) else kds ++ [(k, d)]
section
variable {K : PySem.W.Frag} {f : Hp}
theorem KD.val (k : Key) : ∀ {kvs : List (Key × V)} {kds : List (Key × D)}, KD K f kvs kds → (valV kvs k = none ∧ valD kds k = none) ∨ ∃ v d, valV kvs k = some v ∧ valD kds k = some d ∧ Dp K f v d
  | _, _, .nil => .inl ⟨rfl, rfl⟩
  | p :: _, q :: _, .cons ⟨e, r⟩ t => by
    by_cases h : p.1 = k
    · exact .inr ⟨p.2, q.2, by simp [valV, List.find?_cons, h], by simp [valD, List.find?_cons, ← e, h], r⟩
    · have h' : ¬ q.1 = k := fun z => h (e.trans z)
      rcases KD.val k t with ⟨h1, h2⟩ | ⟨v, d, h1, h2, h3⟩
      · exact .inl ⟨by simpa [valV, List.find?_cons, h] using h1, by simpa [valD, List.find?_cons, h'] using h2⟩
      · exact .inr ⟨v, d, by simpa [valV, List.find?_cons, h] using h1, by simpa [valD, List.find?_cons, h'] using h2, h3⟩
theorem KD.some {k : Key} {d : D} {kvs : List (Key × V)} {kds : List (Key × D)} (h : KD K f kvs kds) (e : valD kds k = some d) : ∃ v, valV kvs k = some v ∧ Dp K f v d := by
  rcases h.val k with ⟨_, h2⟩ | ⟨v, d', h1, h2, h3⟩
  · rw [e] at h2; cases h2
  · rw [e] at h2; cases h2; exact ⟨v, h1, h3⟩
theorem KD.none {k : Key} {kvs : List (Key × V)} {kds : List (Key × D)} (h : KD K f kvs kds) (e : valD kds k = .none) : valV kvs k = .none := by
  rcases h.val k with ⟨h1, _⟩ | ⟨v, d', h1, h2, h3⟩
  · exact h1
  · rw [e] at h2; cases h2
theorem KD.isSome {k : Key} {kvs : List (Key × V)} {kds : List (Key × D)} (h : KD K f kvs kds) : (valV kvs k).isSome = (valD kds k).isSome := by
  rcases h.val k with ⟨h1, h2⟩ | ⟨v, d', h1, h2, h3⟩ <;> rw [h1, h2] <;> rfl
theorem KD.any (k : Key) : ∀ {kvs : List (Key × V)} {kds : List (Key × D)}, KD K f kvs kds → (kvs.any fun kv => decide (kv.1 = k)) = (kds.any fun kv => decide (kv.1 = k))
  | _, _, .nil => rfl
  | p :: _, q :: _, .cons ⟨e, _⟩ t => by simp only [List.any_cons, KD.any k t, e]
theorem KD.map {k : Key} {v : V} {d : D} (r : Dp K f v d) : ∀ {kvs : List (Key × V)} {kds : List (Key × D)}, KD K f kvs kds → KD K f (kvs.map (fun kv => if kv.1 = k then (kv.1, v) else kv)) (kds.map (fun kv => if kv.1 = k then (kv.1, d) else kv))
  | _, _, .nil => .nil
  | p :: _, q :: _, .cons ⟨e, u⟩ t => by
    refine .cons ?_ (KD.map r t)
    dsimp only
    by_cases h : p.1 = k
    · rw [if_pos h, if_pos (e ▸ h)]; exact ⟨e, r⟩
    · rw [if_neg h, if_neg (fun z => h (e.trans z))]; exact ⟨e, u⟩
theorem KD.snoc {p : Key × V} {q : Key × D} (r : p.1 = q.1 ∧ Dp K f p.2 q.2) : ∀ {kvs : List (Key × V)} {kds : List (Key × D)}, KD K f kvs kds → KD K f (kvs ++ [p]) (kds ++ [q])
  | _, _, .nil => .cons r .nil
  | _, _, .cons u t => .cons u (KD.snoc r t)
theorem KD.put {k : Key} {v : V} {d : D} {kvs : List (Key × V)} {kds : List (Key × D)} (h : KD K f kvs kds) (r : Dp K f v d) : KD K f (putK kvs k v) (putD kds k d) := by
  unfold putK putD
  rw [h.any k]
  split
  · exact KD.map r h
  · exact KD.snoc ⟨rfl, r⟩ h
theorem KD.len : ∀ {kvs : List (Key × V)} {kds : List (Key × D)}, KD K f kvs kds → kvs.length = kds.length
  | _, _, .nil => rfl
  | _, _, .cons _ t => congrArg (· + 1) (KD.len t)
theorem Own.dic {w : W} {B : HH} (o : Own K w B) {a : Addr} {kds : List (Key × D)} (m : (a, Cell.M kds) ∈ w) : (∃ kvs, B.h a = Option.some (.dK kvs) ∧ KD K B.f kvs kds) ∧ B.f a = Option.none := by
  obtain ⟨⟨u, h1, vs, rfl, h2⟩, n⟩ := o.has _ m
  exact ⟨⟨vs, h1, h2⟩, n⟩
/-- a key as data -/
def kD : Key → D
  | .inl i => .int i
  | .inr x => .str x
theorem dp_key {v : V} : ∀ {k : Key}, Dp K f v (kD k) → v = kV k
  | .inl _, h => by cases h; rfl
  | .inr _, h => by cases h; rfl
end
section
variable {X : Cx} {e a b c : Expr} {es rest : List Expr} {ρ : List Slot} {w w1 w2 w3 : W} {d d1 d2 : D} {ds : List D} {kds : List (Key × D)} {pos p pos' : Pos} {x : Str} {E : DE}
theorem own_updC {K : PySem.W.Frag} {B : HH} {k : Nat} {ad : Addr} {c0 c : Cell} {u : HO} (o : Own K w B) (hk : w[k]? = some (ad, c0)) (hv : CellOk K B.f u c) (hf : B.f ad = none) : Own K (w.set k (ad, c)) (B.put ad u hf) ∧ dom (w.set k (ad, c)) = dom w := by
  have hd : (dom w)[k]? = some ad := by
    unfold dom
    rw [List.getElem?_map, hk]
    rfl
  have e : dom (w.set k (ad, c)) = dom w := by
    apply List.ext_getElem?
    intro j
    unfold dom at hd ⊢
    rw [List.getElem?_map, List.getElem?_set, List.getElem?_map]
    split
    · rename_i hj
      subst hj
      rw [hk]
      split
      · rfl
      · rename_i hh
        exact absurd (List.getElem?_eq_some_iff.mp hk).1 hh
    · rfl
  refine ⟨⟨by rw [e]; exact o.nd, fun q hq => ?_⟩, e⟩
  obtain ⟨j, hj⟩ := List.getElem?_of_mem hq
  rw [List.getElem?_set] at hj
  split at hj
  · split at hj
    · have z := Option.some.inj hj
      subst z
      exact ⟨⟨u, upd_same, hv⟩, hf⟩
    · cases hj
  · rename_i hjk
    obtain ⟨⟨us, h1, h2⟩, h3⟩ := o.has q (List.mem_of_getElem? hj)
    have hq' : (dom w)[j]? = some q.1 := by
      unfold dom
      rw [List.getElem?_map, hj]
      rfl
    have ne : q.1 ≠ ad := fun z => hjk (nd_ix o.nd (hd.trans (by rw [z])) hq')
    exact ⟨⟨us, (upd_ne ne).trans h1, h2⟩, h3⟩

/-- x = {} -/
theorem Wt.newM (i : Nat) {pe : Pos} (q : ∀ a, E.nx (ρ.set i (.own a)) (w ++ [(a, Cell.M [])])) (hN : X.N.Nodup) (hi : X.N[i]? = some x := by rfl) (hx : Loc X.env.scope x := by first | exact Or.inl rfl | exact Or.inr rfl) (hs : swapsWith (.Dict [] [] pe) (some (.Name x pos')) pos.line X.env = pure false := by rfl) (hf : X.fn x = true ∨ X.env.scope.names.lookup x = some .local := by first | exact .inl rfl | exact .inr rfl | assumption) :
    Wt X (.Assign [.Name x pos'] (.Dict [] [] pe) pos) E ρ w := fun S B0 σ B Q g s k =>
  w_s (ps_set hN hi hx pe_dnewK hs hf) (fun a hp => by
    let C : HH := B.put a (.dK []) (HH.free hp)
    have l : Le (dom w) B C := HH.put_le hp
    have o : Own X.K w C := g.own.step (HH.put_le (S := []) hp) (by simp)
    have h1 : C.h a = some (.dK []) := upd_same
    have h2 : C.f a = none := HH.free (B := B) hp
    have na : a ∉ dom w := fun m => g.own.stands a m hp
    have gc : Good X.K S B0 w C := g.step l o rfl
    refine k.nx _ C _ _ ⟨gc.le, ⟨?_, fun q hq => ?_⟩, fun y hy => ?_⟩ (Paired.set (show SlotOk X.K C.f (some (V.ref a)) (.own a) from rfl) i (Sig.mono l.f s)) (q a)
    · unfold dom
      rw [List.map_append]
      refine List.nodup_append.mpr ⟨o.nd, by simp, fun y hy z hz => ?_⟩
      have ez : z = a := by simpa using hz
      subst ez
      intro e
      subst e
      exact na hy
    · rcases List.mem_append.mp hq with m | m
      · exact o.has q m
      · have ez : q = (a, Cell.M []) := by simpa using m
        subst ez
        exact ⟨⟨_, h1, [], rfl, .nil⟩, h2⟩
    · unfold dom at hy
      rw [List.map_append] at hy
      rcases List.mem_append.mp hy with m | m
      · exact gc.loc y m
      · have ez : y = a := by simpa using m
        subst ez
        exact g.free hp)

theorem Own.key {B : HH} {k : Nat} {ad : Addr} (o : Own X.K w B) (hk : w[k]? = some (ad, Cell.M kds)) : (∃ kvs, B.h ad = some (.dK kvs) ∧ KD X.K B.f kvs kds) ∧ B.f ad = none := o.dic (List.mem_of_getElem? hk)
/-- x[k] of an owned dict -/
theorem Ev.ixM (m n : Nat) {ad : Addr} {k : Key} {px : Pos} (hu : X.A.units + 64 < cLine) (hi : ρ[n]? = some (.own ad)) (hk : w1[m]? = some (ad, Cell.M kds)) (hb : Ev X b ρ w w1 (kD k)) (h : valD kds k = some d) (hN : X.N[n]? = some x := by rfl) (hv : Vis X.env.scope x := by first | exact Or.inl rfl | exact Or.inr (Or.inl rfl) | exact Or.inr (Or.inr rfl)) (hs : NoSl b := by exact fun _ _ => rfl) (hd : (x == ("__debug__" : Str)) = false := by decide)
    (hcd : (x == ("__classdict__" : Str)) = false := by decide) : Ev X (.Subscript (.Name x px) b pos) ρ w w1 d := by
  refine ⟨hb.dm, fun σ B hg hw Q q => w_e (pe_dget (by omega) (pe_var hN hv hd hcd) pe_w hs) ?_⟩
  obtain ⟨s, e1, h1⟩ := Paired.get hg hi
  refine ⟨.ref ad, by rw [e1]; exact congrArg some h1, ?_⟩
  refine hb.run σ B hg hw _ fun y C2 l2 o2 y1 => ?_
  obtain ⟨⟨kvs, hl, hd⟩, _⟩ := o2.key hk
  obtain ⟨v, hv2, hr⟩ := hd.some h
  refine ⟨ad, v, rfl, ?_, q v C2 l2 o2 hr⟩
  rw [dp_key y1, ← hv2]
  exact DGet.k hl
/-- x[k] = e of an owned dict -/
theorem Wt.setKey (m n : Nat) {ad : Addr} {k : Key} {px tp : Pos} (hu : X.A.units + 64 < cLine) (hi : ρ[n]? = some (.own ad)) (h : Ev X e ρ w w1 d) (hb : Ev X b ρ w1 w2 (kD k)) (hk : w2[m]? = some (ad, Cell.M kds)) (hz : kds.length < 100000) (q : E.nx ρ (w2.set m (ad, Cell.M (putD kds k d)))) (hN : X.N[n]? = some x := by rfl) (hv : Vis X.env.scope x := by first | exact Or.inl rfl | exact Or.inr (Or.inl rfl) | exact Or.inr (Or.inr rfl))
    (hd : (x == ("__debug__" : Str)) = false := by decide) (hcd : (x == ("__classdict__" : Str)) = false := by decide)
    (hs : swapsWith e (some (.Subscript (.Name x px) b tp)) pos.line X.env = pure false := by rfl) :
    Wt X (.Assign [.Subscript (.Name x px) b tp] e pos) E ρ w := fun S B0 σ B Q g s kk => by
  refine w_s (ps_dput (by omega) (pe_var hN hv hd hcd) pe_w pe_w hs) ?_
  refine h.run σ B s g.own _ fun v C l o r => ?_
  obtain ⟨t, e1, e2⟩ := Paired.get s hi
  refine ⟨.ref ad, by rw [e1]; exact congrArg some e2, ?_⟩
  refine hb.run σ C (Sig.mono l.f s) o _ fun y C2 l2 o2 y1 => ?_
  obtain ⟨⟨kvs, z1, z2⟩, z3⟩ := o2.key hk
  refine ⟨ad, upd C2.h ad (.dK (putK kvs k v)), rfl, ?_, ?_⟩
  · rw [dp_key y1]
    exact DPut.k z1 (sz_lt (by rw [z2.len]; exact hz))
  · obtain ⟨o3, dm3⟩ := own_updC (u := .dK (putK kvs k v)) (c := Cell.M (putD kds k d)) o2 hk ⟨_, rfl, z2.put (Dp.mono l2.f r)⟩ z3
    exact kk.nx σ (C2.put ad (.dK (putK kvs k v)) z3) ρ _ (((g.step l o h.dm).step l2 o2 hb.dm).step (put_le2 z3 (List.mem_map.mpr ⟨_, List.mem_of_getElem? hk, rfl⟩)) o3 dm3) (Sig.mono (l.f.trans l2.f) s) q
/-- x.get(k, e) of an owned dict -/
theorem Ev.getM (m n : Nat) {ad : Addr} {k : Key} {px apos : Pos} (hu : X.A.units + 64 < cLine) (hi : ρ[n]? = some (.own ad)) (h0 : ∃ k0, w[m]? = some (ad, Cell.M k0)) (hb : Ev X b ρ w w1 (kD k)) (hc : Ev X c ρ w1 w2 d1) (hk : w2[m]? = some (ad, Cell.M kds)) (h : (valD kds k).getD d1 = d) (hN : X.N[n]? = some x := by rfl) (hv : Vis X.env.scope x := by first | exact Or.inl rfl | exact Or.inr (Or.inl rfl) | exact Or.inr (Or.inr rfl))
    (hd : (x == ("__debug__" : Str)) = false := by decide) (hcd : (x == ("__classdict__" : Str)) = false := by decide) (hm : M2 X (.Name x px) "get" apos b c pos := by exact ⟨rfl, rfl, rfl, rfl⟩) : Ev X (.Call (.Attribute (.Name x px) "get" apos) [b, c] [] pos) ρ w w2 d := by
  refine ⟨hc.dm.trans hb.dm, fun σ B hg hw Q q => w_e (pe_dget2 (by omega) (pe_var hN hv hd hcd) pe_w pe_w hm) ?_⟩
  obtain ⟨s, e1, h1⟩ := Paired.get hg hi
  obtain ⟨k0, h0⟩ := h0
  obtain ⟨⟨kv0, hl0, _⟩, _⟩ := hw.key h0
  refine ⟨.ref ad, by rw [e1]; exact congrArg some h1, ad, rfl, .inl ⟨kv0, .inl hl0⟩, ?_⟩
  refine hb.run σ B hg hw _ fun y C1 l1 o1 y1 => ?_
  refine hc.run σ C1 (Sig.mono l1.f hg) o1 _ fun z C2 l2 o2 z1 => ?_
  obtain ⟨⟨kvs, hl, hd⟩, _⟩ := o2.key hk
  refine ⟨valV kvs k, ?_, ?_⟩
  · rw [dp_key y1]
    exact DGet.k hl
  · refine q _ C2 (lift2 (S := w) hb.dm l1 o1 l2) o2 ?_
    subst h
    rcases hd.val k with ⟨g1, g2⟩ | ⟨v, d', g1, g2, g3⟩
    · rw [g1, g2]; exact z1
    · rw [g1, g2]; exact g3
/-- k in x, k not in x -/
theorem EvT.inM (m n : Nat) {ad : Addr} {k : Key} {px : Pos} (hu : X.A.units + 64 < cLine) (hi : ρ[n]? = some (.own ad)) (hb : Ev X b ρ w w1 (kD k)) (hk : w1[m]? = some (ad, Cell.M kds)) (hN : X.N[n]? = some x := by rfl) (hv : Vis X.env.scope x := by first | exact Or.inl rfl | exact Or.inr (Or.inl rfl) | exact Or.inr (Or.inr rfl))
    (hd : (x == ("__debug__" : Str)) = false := by decide) (hcd : (x == ("__classdict__" : Str)) = false := by decide) : EvT X (.Compare b [.In] [.Name x px] pos) ρ w w1 (valD kds k).isSome := by
  refine ⟨hb.dm, fun σ B hg hw Q q => w_t (pt_cmp (pc_din (by omega) pe_w (pe_var hN hv hd hcd))) ?_⟩
  obtain ⟨s, e1, h1⟩ := Paired.get hg hi
  refine hb.run σ B hg hw _ fun y C2 l2 o2 y1 => ?_
  obtain ⟨⟨kvs, hl, hd⟩, _⟩ := o2.key hk
  refine ⟨.ref ad, by rw [e1]; exact congrArg some h1, ad, valV kvs k, rfl, ?_, _, rfl, ?_⟩
  · rw [dp_key y1]
    exact DGet.k hl
  · rw [hd.isSome]
    exact q C2 l2 o2
theorem EvT.notInM (m n : Nat) {ad : Addr} {k : Key} {px : Pos} (hu : X.A.units + 64 < cLine) (hi : ρ[n]? = some (.own ad)) (hb : Ev X b ρ w w1 (kD k)) (hk : w1[m]? = some (ad, Cell.M kds)) (hN : X.N[n]? = some x := by rfl) (hv : Vis X.env.scope x := by first | exact Or.inl rfl | exact Or.inr (Or.inl rfl) | exact Or.inr (Or.inr rfl))
    (hd : (x == ("__debug__" : Str)) = false := by decide) (hcd : (x == ("__classdict__" : Str)) = false := by decide) : EvT X (.Compare b [.NotIn] [.Name x px] pos) ρ w w1 (!(valD kds k).isSome) := by
  refine ⟨hb.dm, fun σ B hg hw Q q => w_t (pt_cmp (pc_dnotin (by omega) pe_w (pe_var hN hv hd hcd))) ?_⟩
  obtain ⟨s, e1, h1⟩ := Paired.get hg hi
  refine hb.run σ B hg hw _ fun y C2 l2 o2 y1 => ?_
  obtain ⟨⟨kvs, hl, hd⟩, _⟩ := o2.key hk
  refine ⟨.ref ad, by rw [e1]; exact congrArg some h1, ad, valV kvs k, rfl, ?_, _, rfl, ?_⟩
  · rw [dp_key y1]
    exact DGet.k hl
  · rw [hd.isSome]
    exact q C2 l2 o2

end
end Pm

namespace Pm
open PySem PySem.Spec PyProof.Rows L2 Evl
section
variable {X : Cx} {e a b c : Expr} {es rest : List Expr} {st : Stmt} {sts body body2 : List Stmt} {E : DE} {ρ : List Slot} {w w1 w2 w3 : W} {d d1 d2 : D} {ds xs : List D} {kds : List (Key × D)} {pos p pos' : Pos} {x : Str} {cl c0 c1 : Cell}

/-! ### new owned things -/
structure EvC (X : Cx) (e : Expr) (ρ : List Slot) (w w' : W) (c : Cell) : Prop where
  dm : dom w' = dom w
  run : ∀ σ B, Sig X.K B.f σ ρ → Own X.K w B → ∀ Q : VK, (∀ p o C, B.h p = none → Le (dom w) B C → Own X.K w' C → C.h p = some o → C.f p = none → CellOk X.K C.f o c → Q (.ref p) C.h) → wE X e σ B.h Q
theorem EvN.evc (h : EvN X e ρ w w1 ds) : EvC X e ρ w w1 (.L ds) := ⟨h.dm, fun σ B hs hw Q q => h.run σ B hs hw Q fun p vs C hp l o h1 h2 v => q p _ C hp l o h1 h2 ⟨vs, rfl, v⟩⟩
theorem Wt.newC (i : Nat) (h : EvC X e ρ w w1 cl) (q : ∀ a, E.nx (ρ.set i (.own a)) (w1 ++ [(a, cl)])) (hN : X.N.Nodup) (hi : X.N[i]? = some x := by rfl) (hx : Loc X.env.scope x := by first | exact Or.inl rfl | exact Or.inr rfl) (hs : swapsWith e (some (.Name x pos')) pos.line X.env = pure false := by rfl) (hf : X.fn x = true ∨ X.env.scope.names.lookup x = some .local := by first | exact .inl rfl | exact .inr rfl | assumption) :
    Wt X (.Assign [.Name x pos'] e pos) E ρ w := fun S B0 σ B Q g s k =>
  w_s (ps_set hN hi hx pe_w hs hf) (h.run σ B s g.own _ fun a ob C hp l o h1 h2 r => by
    have na : a ∉ dom w := fun m => g.own.stands a m hp
    have gc : Good X.K S B0 w1 C := g.step l o h.dm
    refine k.nx _ C _ _ ⟨gc.le, ⟨?_, fun q hq => ?_⟩, fun y hy => ?_⟩ (Paired.set (show SlotOk X.K C.f (some (V.ref a)) (.own a) from rfl) i (Sig.mono l.f s)) (q a)
    · unfold dom
      rw [List.map_append]
      refine List.nodup_append.mpr ⟨o.nd, by simp, fun y hy z hz => ?_⟩
      have ez : z = a := by simpa using hz
      subst ez
      intro e
      subst e
      exact na (h.dm ▸ hy)
    · rcases List.mem_append.mp hq with m | m
      · exact o.has q m
      · have ez : q = (a, cl) := by simpa using m
        subst ez
        exact ⟨⟨_, h1, r⟩, h2⟩
    · unfold dom at hy
      rw [List.map_append] at hy
      rcases List.mem_append.mp hy with m | m
      · exact gc.loc y m
      · have ez : y = a := by simpa using m
        subst ez
        exact g.free hp)
/-- an owned thing is no longer followed -/
theorem Ws.drop {w' : W} (hs : List.Sublist w' w) (h : Ws X sts E ρ w') : Ws X sts E ρ w := fun S B0 σ B Q g s q => by
  refine h S B0 σ B Q ⟨g.le, ⟨?_, fun q hq => g.own.has q (hs.subset hq)⟩, fun a m => g.loc a ?_⟩ s q
  · exact List.Nodup.sublist (List.Sublist.map _ hs) g.own.nd
  · exact (List.Sublist.map Prod.fst hs).subset m
/-- an owned thing is handed back by its name -/
theorem Wt.retOwn (i : Nat) {ad : Addr} {px : Pos} (hi : ρ[i]? = some (.own ad)) (q : E.ro ad w) (hN : X.N[i]? = some x := by rfl) (hv : Vis X.env.scope x := by first | exact Or.inl rfl | exact Or.inr (Or.inl rfl) | exact Or.inr (Or.inr rfl)) (hd : (x == ("__debug__" : Str)) = false := by decide)
    (hcd : (x == ("__classdict__" : Str)) = false := by decide) : Wt X (.Return (some (.Name x px)) pos) E ρ w := fun S B0 σ B Q g s k => by
  refine w_s (ps_ret (pe_var hN hv hd hcd)) ?_
  obtain ⟨t, e1, h⟩ := Paired.get s hi
  exact ⟨.ref ad, by rw [e1]; exact congrArg some h, k.ro ad B w g q⟩
/-- a def that hands back a new owned thing -/
def spM (K : PySem.W.Frag) (n : Nat) (R : W → List Ag → W → Cell → Prop) : Sp := fun vs H Q _ => ∃ (B : HH) (w : W) (as : List Ag) (w' : W) (r : Cell), B.h = H ∧ as.length = n ∧ Own K w B ∧ dom w' = dom w ∧ Paired (AgOk K B.f) vs as ∧ R w as w' r ∧ ∀ p o C, B.h p = none → Le (dom w) B C → Own K w' C → C.h p = some o → C.f p = none → CellOk K C.f o r → Q (.ref p) C.h
theorem fn_okM {P : Program} {wd : World} {K : PySem.W.Frag} {mg : Str → Option Value} {base : Heap} {nm qual : Str} {st : Stmt} {f : Addr} {fd : FuncData} {N ps : List Str} {k : Nat} {R : W → List Ag → W → Cell → Prop} (F : Fun K nm qual st f fd) (S : FnScope N ps (defScope st))
    (hbody : ∀ (cdv : Value) (A : Around) (outer : List Env) (s : Shared) (H : Hp) (E : XK), Room k (A.deeper (envOfC qual (defScope st) s.heap.objs.size f cdv)) → ∀ w as w' r, as.length = ps.length → dom w' = dom w → R w as w' r →
      Ws (cxOf CX0 P wd K mg base N qual (defScope st) f cdv A outer s H E).nox (defBody st) { nx := fun _ _ => False, rt := fun _ _ => False, ro := fun a w2 => ∃ t, w2 = w' ++ t ∧ (a, r) ∈ t } (startS N as) w) : FnOk P wd K mg base CX0 (k + 1) f fd ps (spM K ps.length R) := by
  refine F.ok S (fun vs H Q E h => ?_) (fun cdv A outer s H vs Q E hr h => ?_)
  · obtain ⟨B, w, as, w', r, _, e, _, _, pa, _⟩ := h
    rw [Paired.length' pa, e]
  · obtain ⟨B, w, as, w', r, rfl, e, o, dm, pa, hR, q⟩ := h
    refine ⟨_, pss_w, hbody cdv A outer s B.h E hr w as w' r e dm hR (dom w) B _ B _ (Good.start o) ?_ ⟨fun _ _ _ _ _ _ h => h.elim, fun _ _ _ _ _ _ h => h.elim, fun _ _ _ _ _ _ _ _ _ _ h => h.elim, ?_, fun _ _ _ _ _ _ h => h.elim, fun _ _ _ _ _ _ h => h.elim⟩⟩
    · refine paired_app (start_sig pa) ?_
      rw [Paired.length' pa]
      exact sig_none _
    · rintro a C w2 g ⟨t, rfl, m⟩
      obtain ⟨⟨u, h1, h2⟩, h3⟩ := g.own.has _ (List.mem_append_right _ m)
      have nd := g.own.nd
      unfold dom at nd
      rw [List.map_append] at nd
      have na : a ∉ dom w := fun z => (List.nodup_append.mp nd).2.2 a (by rw [← dm] at z; exact z) a (List.mem_map.mpr ⟨_, m, rfl⟩) rfl
      have ha : B.h a = none := by
        rcases g.loc a (List.mem_map.mpr ⟨_, List.mem_append_right _ m, rfl⟩) with z | z
        · exact absurd z na
        · exact z
      exact q a u C ha g.le g.own.left h1 h3 h2
structure CalM (P : Program) (wd : World) (K : PySem.W.Frag) (mg : Str → Option Value) (base : Heap) (k : Nat) (x : Str) (n : Nat) (R : W → List Ag → W → Cell → Prop) : Prop where
  ex : ∃ (f : Addr) (fd : FuncData) (ps : List Str), FnOk P wd K mg base CX0 k f fd ps (spM K n R) ∧ mg x = some (.ref f) ∧ PySem.W.keepIn K (.ref f) = true ∧ Binds K fd ps []
/-- .. with one owned thing handed in, that stays as it is -/
theorem EvC.callC (m : Nat) {k kk n : Nat} {ad : Addr} {R : W → List Ag → W → Cell → Prop} {as : List Ag} (CC : CalM X.prog X.w X.K X.mg X.base k x n R) (hr : Room kk X.A)
    (ha : EvA X (e :: es) ρ w w1 as) (hw1 : w1[m]? = some (ad, c0)) (hR : R [(ad, c0)] as [(ad, c0)] cl) (hl : as.length = n := by rfl) (hkk : k ≤ kk := by decide) (hx : Passes CX0 X E0 := by exact pass0) (hg : Gl X x := by rfl) (hdb : (x == ("__debug__" : Str)) = false := by decide)
    (he : starEach (e :: es) X.env = (false, eval e X.env) :: starEach es X.env := by rfl) (hpl : (backTo pos (starEach es X.env)).any (·.1) = false := by rfl) : EvC X (.Call (.Name x p) (e :: es) [] pos) ρ w w1 cl := by
  obtain ⟨f, fd, ps, F, hm, hk, hb⟩ := CC.ex
  have mem : ad ∈ dom w1 := List.mem_map.mpr ⟨_, List.mem_of_getElem? hw1, rfl⟩
  refine ⟨ha.dm, fun σ B hs hw Q q => w_e (pe_call F (hr.mono hkk) hg hm hk hb .nil hx pa_w hdb he hpl) ?_⟩
  refine ha.run σ B hs hw _ fun vs C l o v => ?_
  rw [List.append_nil]
  obtain ⟨⟨us, h1, h2⟩, h3⟩ := o.has _ (List.mem_of_getElem? hw1)
  refine ⟨C, [(ad, c0)], as, [(ad, c0)], cl, rfl, hl, ⟨by simp [dom], fun q hq => ?_⟩, rfl, v, hR, fun z ob E hz l2 o2 g1 g2 g3 => ?_⟩
  · have ez : q = (ad, c0) := by simpa using hq
    subst ez
    exact ⟨⟨us, h1, h2⟩, h3⟩
  · have l3 : Le (dom w1) C E := l2.widen fun a m => by
      have ez : a = ad := by simpa [dom] using m
      subst ez
      exact mem
    refine q z ob E (Le.back l hw o ha.dm hz) (lift2 (S := w) ha.dm l o l3) ⟨o.nd, fun q hq => ?_⟩ g1 g2 g3
    by_cases hq1 : q.1 = ad
    · have e2 : q = (ad, c0) := by
        obtain ⟨j, hj⟩ := List.getElem?_of_mem hq
        have d1 : (dom w1)[j]? = some ad := by unfold dom; rw [List.getElem?_map, hj, ← hq1]; rfl
        have d2 : (dom w1)[m]? = some ad := by unfold dom; rw [List.getElem?_map, hw1]; rfl
        have := nd_ix o.nd d1 d2
        subst this
        rw [hj] at hw1
        exact Option.some.inj hw1
      subst e2
      exact o2.has _ (List.mem_singleton.mpr rfl)
    · obtain ⟨⟨us2, k1, k2⟩, k3⟩ := o.has q hq
      have ne : q.1 ∉ dom [(ad, c0)] := fun z => by
        have ez : q.1 = ad := by simpa [dom] using z
        exact hq1 ez
      refine ⟨⟨us2, l2.h _ _ ne k1, CellOk.mono l2.f k2⟩, ?_⟩
      cases y : E.f q.1 with
      | none => rfl
      | some u =>
        rcases l2.new q.1 (by rw [y]; simp) with k | k | k
        · exact absurd k3 k
        · rw [k1] at k; cases k
        · exact absurd k ne
/-- a built-in's call -/
theorem CallD.of1 {f : Value} {r : List V → Hp → VK → Prop} (o : CallR X f r) (h : ∀ (B : HH) (v : V), Dp X.K B.f v d1 → ∀ Q : VK, (∀ z C, Le [] B C → Dp X.K C.f z d → Q z C.h) → r [v] B.h Q) : CallD X f [d1] d := fun B xs hx Q q => by
  obtain ⟨v, rfl, r⟩ := dp1 hx
  exact cw_of o (h B v r Q q)

/-! ### tuples: + and * -/
theorem tup_new {B : HH} {vs : List V} {ds : List D} (h : DpAll X.K B.f vs ds) {Q : VK} (q : ∀ v C, Le [] B C → Dp X.K C.f v (.tuple ds) → Q v C.h) : ∀ p, B.h p = none → Q (.ref p) (upd B.h p (.tup vs)) := fun p hp =>
  q (.ref p) (B.add p (.tup vs) hp) (HH.add_le hp) (.tup (SqT.of upd_same) (DpAll.mono (HH.add_le (S := []) hp).f h))
theorem DpAll.app {K : PySem.W.Frag} {f : Hp} : ∀ {vs us : List V} {ds es : List D}, DpAll K f vs ds → DpAll K f us es → DpAll K f (vs ++ us) (ds ++ es)
  | _, _, _, _, .nil, h => h
  | _, _, _, _, .cons r t, h => .cons r (DpAll.app t h)
theorem cat_run {B : HH} {x y : V} (hl : ds.length + xs.length ≤ 100000) (hx : Dp X.K B.f x (.tuple ds)) (hy : Dp X.K B.f y (.tuple xs)) (Q : VK) (q : ∀ v C, Le [] B C → Dp X.K C.f v (.tuple (ds ++ xs)) → Q v C.h) : rCatA X.K x y B.h Q := by
  cases hx with
  | tup h1 a1 =>
    cases hy with
    | tup h2 a2 =>
      refine ⟨_, _, _, _, rfl, rfl, ex_t B.ok h1, ex_t B.ok h2, sz_of (by rw [DpAll.length a1, DpAll.length a2]; exact hl), fun z => ?_, fun z1 z2 => ?_, fun z1 z2 => tup_new (DpAll.app a1 a2) q⟩
      · subst z
        have e : ds = [] := List.eq_nil_of_length_eq_zero (DpAll.length a1).symm
        subst e
        exact q _ B (Le.refl _ _) (.tup h2 a2)
      · subst z2
        have e : xs = [] := List.eq_nil_of_length_eq_zero (DpAll.length a2).symm
        subst e
        exact q _ B (Le.refl _ _) (by rw [List.append_nil]; exact .tup h1 a1)
theorem od_cat (hl : ds.length + xs.length ≤ 100000) : OpB X .Add (.tuple ds) (.tuple xs) (.tuple (ds ++ xs)) := ⟨fun B x y hx hy Q q => r_w op_catA (cat_run hl hx hy Q q)⟩
end
end Pm

namespace HT
open PySem PySem.Spec PyProof.Rows L2
theorem noI_tuple_add : typeLookup (.type "tuple") (dunderI "add") = pure none := by rw [typeLookup_type, builtinLookup_eq_fast]; kernel_rfl
section
variable {prog : Program} {w : World} {A : Around} {E : Value → Shared → Prop} {s : Shared}
theorem icat_tup {t b : Addr} {vs ws : List Value} {Q : Value → Shared → Prop} (ht : IsTup s.heap t vs.toArray) (hb : IsTup s.heap b ws.toArray)
    (h0 : vs = [] → Q (.ref b) s) (h1 : vs ≠ [] → ws = [] → Q (.ref t) s) (h2 : vs ≠ [] → ws ≠ [] → Q (.ref s.heap.objs.size) { s with heap := s.heap.push { cls := .type "tuple", data := .seq (vs ++ ws).toArray } })
    (hsz : vs.length + ws.length ≤ sizeLine) : wpAny (model prog w) A (inplaceOp .Add (.ref t) (.ref b)) Q E s := by
  obtain ⟨⟨cls, dd, data, sl⟩, ho, hc, n, hd⟩ := id ht
  obtain ⟨⟨cls2, dd2, data2, sl2⟩, ho2, hc2, n2, hd2⟩ := id hb
  simp only at hc hd hc2 hd2
  subst hc hd hc2 hd2
  have e : vs.toArray ++ ws.toArray = (vs ++ ws).toArray := by simp
  refine wpAny_inplaceOp_concat (T := "tuple") ⟨_, ho, rfl⟩ ⟨_, ho2, rfl⟩ noI_tuple_add noFill_tuple_add seq_tuple_add ?_
  by_cases hv : vs = []
  · exact call_meets PySem.F.slot_tuple_add ⟨_, ho, rfl⟩ PySem.F.entry_tuple_add (PySem.F.args_tuple_add_2 _ _) (tuple_addW0 t b vs.toArray ws.toArray n n2 dd dd2 sl sl2 (by simp [hv])) ⟨ho, ho2, h0 hv⟩
  · by_cases hw : ws = []
    · exact call_meets PySem.F.slot_tuple_add ⟨_, ho, rfl⟩ PySem.F.entry_tuple_add (PySem.F.args_tuple_add_2 _ _)
        (tuple_addW1 t b vs.toArray ws.toArray n n2 dd dd2 sl sl2 (by simpa using hv) (by simp [hw])) ⟨ho, ho2, h1 hv hw⟩
    · refine call_meets PySem.F.slot_tuple_add ⟨_, ho, rfl⟩ PySem.F.entry_tuple_add (PySem.F.args_tuple_add_2 _ _)
        (tuple_addW2 t b vs.toArray ws.toArray n n2 dd dd2 sl sl2 (by simpa using hv) (by simpa using hw) (by rw [List.size_toArray, List.size_toArray]; exact hsz)) ⟨ho, ho2, ?_⟩
      rw [e]
      exact h2 hv hw
end
end HT
namespace L2
open PySem PySem.Spec PyProof.Rows
theorem tuple_mul1 (l : Addr) (items : Array Value) (n : Nat) (dd : Option Addr) (sl : Array (Option Value)) (x : Int) (u : Tok) (hx : x = 1) :
    Meets (Builtin.«tuple.__mul__» ⟨[.ref l, .int x u], []⟩) (fun _ R s => s.heap.get? l = some { cls := .type "tuple", dict := dd, data := .seq items n, slots := sl } ∧
      R (.ok (.ret (Value.ref l))) s) :=
  .of_wp fun prog w A R s h => by
    obtain ⟨hp, g, d, tk, os⟩ := s
    obtain ⟨hl, h⟩ := h
    have f1 := AutoSeq1.idx_int
    subst hx
    wp_walk using wpAny_loadPart' hl
    repeat (first
      | (refine wpAny_ite_false (decide_eq_false (by decide)) ?_; wp_walk using wpAny_loadPart' hl)
      | (refine wpAny_ite_true (by simp) ?_; wp_walk using wpAny_loadPart' hl))
    exact ⟨_, rfl, h⟩
theorem tuple_mul0 (l : Addr) (items : Array Value) (n : Nat) (dd : Option Addr) (sl : Array (Option Value)) (x : Int) (u : Tok) (hx : x = 0) (hi : items.isEmpty = false) :
    Meets (Builtin.«tuple.__mul__» ⟨[.ref l, .int x u], []⟩) (fun _ R s => s.heap.get? l = some { cls := .type "tuple", dict := dd, data := .seq items n, slots := sl } ∧
      R (.ok (.ret (Value.ref s.heap.objs.size))) { s with heap := s.heap.push { cls := Value.type "tuple", data := Data.seq #[] }, toks := s.toks }) :=
  .of_wp fun prog w A R s h => by
    obtain ⟨hp, g, d, tk, os⟩ := s
    obtain ⟨hl, h⟩ := h
    have f1 := AutoSeq1.idx_int
    subst hx
    wp_walk using wpAny_loadPart' hl
    repeat (first
      | (refine wpAny_ite_false (decide_eq_false (by first | decide | (rw [hi]; decide))) ?_; wp_walk using wpAny_loadPart' hl)
      | (refine wpAny_ite_true (by simp) ?_; wp_walk using wpAny_loadPart' hl))
    exact ⟨_, rfl, h⟩
section
variable {X : Cx}
theorem op_repTA {l : Addr} {k : Int} {xs : List V} (hk : 0 ≤ k ∧ k ≤ 1000) (hne : xs ≠ []) (hz : xs.length ≤ 1000) : OpR X (binaryOp .Mult) (fun x y H Q => x = .ref l ∧ y = .int k ∧ SqT X.K H l xs ∧ (k = 1 → Q (.ref l) H) ∧ (k ≠ 1 → ∀ p, H p = none → Q (.ref p) (upd H p (.tup (List.replicate k.toNat xs).flatten)))) := by
  intro pins s σ H x y v u Q I rx ry h
  obtain ⟨rfl, rfl, hT, q1, q2⟩ := h
  by_cases h2 : 2 ≤ k
  · exact op_repT pins s σ H _ _ v u Q I rx ry ⟨l, k, xs, rfl, rfl, hT, hne, h2, hk.2, hz, q2 (by omega)⟩
  cases rx
  obtain ⟨t, rfl⟩ := ry
  obtain ⟨its, r, ⟨⟨cls, dd, data, sl⟩, ho, hc, n, hd⟩, hs⟩ := I.tuple hT
  simp only at hc hd
  subst hc hd
  have hle : its.length = xs.length := r.length.symm
  have hn : its ≠ [] := fun e => hne (by
    rw [e] at hle
    exact List.eq_nil_of_length_eq_zero hle.symm)
  have hi : its.toArray.isEmpty = false := by
    cases its with
    | nil => exact absurd rfl hn
    | cons a b => rfl
  by_cases h1 : k = 1
  · refine wpAny_binaryOp_repeat_ref (T := "tuple") (U := "int") (by decide) ⟨_, ho, rfl⟩ (fun s' => typeIs_int s' k t) noFill_tuple_mul F.fills_int_mul F.slot_int_rmul repeat_tuple F.slot_int_index.lookup
      (call_meets F.slot_int_rmul (typeIs_int s k t) F.entry_int_rmul (F.args_int_rmul_2 _ _) (int_rmul_tuple k t l its.toArray n dd sl)
        ⟨ho, rfl, ⟨_, ho, rfl⟩, call_meets F.slot_tuple_mul ⟨_, ho, rfl⟩ F.entry_tuple_mul (F.args_tuple_mul_2 _ _) (tuple_mul1 l its.toArray n dd sl k t h1) ⟨ho, ?_⟩⟩)
    exact ⟨.ref l, H, I, rfl, q1 h1⟩
  · have h0 : k = 0 := by omega
    refine wpAny_binaryOp_repeat_ref (T := "tuple") (U := "int") (by decide) ⟨_, ho, rfl⟩ (fun s' => typeIs_int s' k t) noFill_tuple_mul F.fills_int_mul F.slot_int_rmul repeat_tuple F.slot_int_index.lookup
      (call_meets F.slot_int_rmul (typeIs_int s k t) F.entry_int_rmul (F.args_int_rmul_2 _ _) (int_rmul_tuple k t l its.toArray n dd sl)
        ⟨ho, rfl, ⟨_, ho, rfl⟩, call_meets F.slot_tuple_mul ⟨_, ho, rfl⟩ F.entry_tuple_mul (F.args_tuple_mul_2 _ _) (tuple_mul0 l its.toArray n dd sl k t h0 hi) ⟨ho, ?_⟩⟩)
    have q3 := q2 h1 s.heap.objs.size (I.hok.fresh (Nat.le_refl _))
    rw [h0] at q3
    exact ⟨.ref s.heap.objs.size, _, I.laid (t' := s.toks) (o := .tup []) (fun b ob q => Heap.get?_push_of_some _ q) (Nat.le_refl _) ⟨Nat.zero_le _, [], .nil, IsTup.new _ _⟩, rfl, q3⟩
end
end L2
namespace Pm
open PySem PySem.Spec PyProof.Rows L2 Evl
section
variable {X : Cx} {e a b c : Expr} {es rest : List Expr} {st : Stmt} {sts body body2 : List Stmt} {E : DE} {ρ : List Slot} {w w1 w2 w3 : W} {d d1 d2 : D} {ds xs : List D} {kds : List (Key × D)} {pos p pos' : Pos} {x : Str} {cl c0 c1 : Cell}
theorem DpAll.rep {K : PySem.W.Frag} {f : Hp} {vs : List V} {ds : List D} (h : DpAll K f vs ds) : ∀ n : Nat, DpAll K f (List.replicate n vs).flatten (List.replicate n ds).flatten
  | 0 => .nil
  | n + 1 => by
    rw [List.replicate_succ, List.replicate_succ, List.flatten_cons, List.flatten_cons]
    exact DpAll.app h (DpAll.rep h n)
theorem od_repT {k : Int} (hk : 0 ≤ k ∧ k ≤ 1000) (hne : ds ≠ []) (hz : ds.length ≤ 1000) : OpB X .Mult (.tuple ds) (.int k) (.tuple (List.replicate k.toNat ds).flatten) := ⟨fun B x y hx hy Q q => by
  cases hy
  cases hx with
  | tup h1 a1 =>
    have el := DpAll.length a1
    refine r_w (op_repTA hk (fun z => hne (List.eq_nil_of_length_eq_zero (by rw [← el, z]; rfl))) (by rw [el]; exact hz)) ⟨rfl, rfl, ex_t B.ok h1, fun e => ?_, fun e => tup_new (DpAll.rep a1 _) q⟩
    subst e
    refine q _ B (Le.refl _ _) ?_
    have e1 : (List.replicate (1 : Int).toNat ds).flatten = ds := by simp
    rw [e1]
    exact .tup h1 a1⟩
/-- x += e on tuples -/
theorem icat_run {B : HH} {x y : V} (hl : ds.length + xs.length ≤ 100000) (hx : Dp X.K B.f x (.tuple ds)) (hy : Dp X.K B.f y (.tuple xs)) (Q : VK) (q : ∀ v C, Le [] B C → Dp X.K C.f v (.tuple (ds ++ xs)) → Q v C.h) : rW X (inplaceOp .Add) x y B.h Q := by
  have hc := cat_run hl hx hy Q q
  intro pins s σ v u I rx ry
  obtain ⟨a, b, xs, ys, rfl, rfl, ha, hb, hz, q0, q1, q2⟩ := hc
  cases rx
  cases ry
  obtain ⟨its, r1, p1, _⟩ := I.tuple ha
  obtain ⟨its2, r2, p2, _⟩ := I.tuple hb
  refine HT.icat_tup p1 p2 (fun z => ⟨.ref b, B.h, I, rfl, q0 (r1.nil_iff.mp z)⟩) (fun z1 z2 => ⟨.ref a, B.h, I, rfl, q1 (fun z => z1 (r1.nil_iff.mpr z)) (r2.nil_iff.mp z2)⟩) (fun z1 z2 => ?_) (by rw [← r1.length, ← r2.length]; exact hz)
  refine ⟨.ref s.heap.objs.size, _, I.laid (t' := s.toks) (o := .tup (xs ++ ys)) (fun b ob q => Heap.get?_push_of_some _ q) (Nat.le_refl _) ?_, rfl, q2 (fun z => z1 (r1.nil_iff.mpr z)) (fun z => z2 (r2.nil_iff.mpr z)) _ (I.hok.fresh (Nat.le_refl _))⟩
  exact ⟨by rw [List.length_append]; exact hz, _, r1.append r2, IsTup.new _ _⟩
theorem Wt.augT (i : Nat) (hi : ρ[i]? = some (.dat (.tuple ds))) (h : Ev X e ρ w w1 (.tuple xs)) (hl : ds.length + xs.length ≤ 100000) (q : E.nx (ρ.set i (.dat (.tuple (ds ++ xs)))) w1) (hN : X.N.Nodup) (hx' : X.N[i]? = some x := by rfl) (hx : Loc X.env.scope x := by first | exact Or.inl rfl | exact Or.inr rfl) (hf : X.fn x = true ∨ X.env.scope.names.lookup x = some .local := by first | exact .inl rfl | exact .inr rfl | assumption) :
    Wt X (.AugAssign (.Name x pos') .Add e pos) E ρ w := fun S B0 σ B Q g s k => by
  refine w_s (ps_aug hN hx' hx pe_w (ti := rW X (inplaceOp .Add)) (fun pins s σ H x y v u Q I rx ry h => h pins s σ v u I rx ry) hf) ?_
  obtain ⟨t, e1, z, e2, r⟩ := Paired.get s hi
  refine ⟨z, by rw [e1, e2], ?_⟩
  refine h.run σ B s g.own _ fun y C l o y1 => ?_
  refine icat_run hl (Dp.mono l.f r) y1 _ fun v C2 l2 v2 => ?_
  exact k.nx _ C2 _ w1 ((g.step l o h.dm).step (l2.nil) (o.step l2 (by simp)) rfl) (Paired.set (slot_dat v2) i (Sig.mono (l.f.trans l2.f) s)) q

/-! ### lists: * , sum, min, in, index, slices, remove -/
theorem EvN.rep {k : Int} (ha : Ev X a ρ w w1 d1) : True := trivial
/-- [..] * k -/
theorem EvN.repL {k : Int} (ha : EvA X es ρ w w1 (dats ds)) (hb : Ev X b ρ w1 w2 (.int k)) (hk : 0 ≤ k ∧ k ≤ 1000) (hz : ds.length ≤ 100) {p2 : Pos} : EvN X (.BinOp (.List es p2) .Mult b pos) ρ w w2 (List.replicate k.toNat ds).flatten := by
  have hn : EvN X (.List es p2) ρ w w1 ds := EvN.lst ha (by omega)
  refine ⟨hb.dm.trans hn.dm, fun σ B hs hw Q q => w_e (pe_op op_rep pe_w pe_w) ?_⟩
  refine hn.run σ B hs hw _ fun p vs C hp l o h1 h2 v => ?_
  have np : p ∉ dom w1 := fun m => hw.stands p (hn.dm ▸ m) hp
  refine hb.run σ C (Sig.mono l.f hs) o _ fun y C2 l2 o2 y1 => ?_
  cases y1
  have e1 : C2.h p = some (.lst vs) := l2.h p _ np h1
  have el := DpAll.length v
  refine ⟨p, k, vs, rfl, rfl, e1, by omega, by omega, sz_of ?_, fun r hr => ?_⟩
  · rw [el]
    have a1 : ds.length * k.toNat ≤ 100 * 1000 := Nat.mul_le_mul hz (by omega)
    omega
  · have l3 : Le (dom w) B C2 := lift2 (S := w) hn.dm l o l2
    have lv := DpAll.rep (DpAll.mono l2.f v) k.toNat
    exact q r _ (C2.put r (.lst _) (HH.free hr)) (Le.back l3 hw o2 (hb.dm.trans hn.dm) hr) (lift2 (S := w) (hb.dm.trans hn.dm) l3 o2 (HH.put_le hr)) (o2.step (HH.put_le (S := []) hr) (by simp)) upd_same (HH.free (B := C2) hr) lv
theorem cd_sumL (hc : X.calm = true) {ns : List Int} : CallD X (.builtin "sum") [.list (ns.map PyData.int)] (.int ns.sum) := fun B xs h Q q => by
  obtain ⟨v, rfl, r⟩ := dp1 h
  cases r with
  | lst hs ha =>
    have e := DpAll.ints ha
    subst e
    exact cw_of (cr_sum hc) ⟨_, ns, rfl, ex_l B.ok hs, q _ B (Le.refl _ _) (.int _)⟩
theorem cr_sumT (hc : X.calm = true) : CallR X (.builtin "sum") (fun vs H Q => ∃ (a : Addr) (ns : List Int), vs = [V.ref a] ∧ SqT X.K H a (ns.map V.int) ∧ Q (.int ns.sum) H) := by
  intro pins s σ H vs us Q I r h
  obtain ⟨a, ns, rfl, hs, q⟩ := h
  obtain ⟨its, rv, hl, _⟩ := I.tuple hs
  rw [Vals.ref1 r]
  have hi := rv.ints
  obtain ⟨xs, hx⟩ := hi.allInts.items
  have hn : numsOf (intItems xs).toList = ns := by rw [← hx]; exact hi.numsOf
  rw [nums_intItems] at hn
  have hl' : s.heap.IsTuple a its.toArray := hl
  rw [hx] at hl'
  refine PySem.W.ktm_sumG (I.ok.hd hc) hl' fun h' tk t' hk => ?_
  rw [preSum_eq, List.take_of_length_le (by simp), hn]
  exact ⟨.int _, H, I.kept hk, ⟨_, rfl⟩, q⟩
theorem cd_sumT (hc : X.calm = true) {ns : List Int} : CallD X (.builtin "sum") [.tuple (ns.map PyData.int)] (.int ns.sum) := fun B xs h Q q => by
  obtain ⟨v, rfl, r⟩ := dp1 h
  cases r with
  | tup hs ha =>
    have e := DpAll.ints ha
    subst e
    exact cw_of (cr_sumT hc) ⟨_, ns, rfl, ex_t B.ok hs, q _ B (Le.refl _ _) (.int _)⟩
theorem Ev.sumL {ns : List Int} (h : Ev X e ρ w w1 (.list (ns.map PyData.int))) (hm : X.mg "sum" = none) (hc : X.calm = true) (hg : Gl X "sum" := by rfl) (he : starEach [e] X.env = (false, eval e X.env) :: starEach [] X.env := by rfl) (hpl : (backTo pos (starEach [] X.env)).any (·.1) = false := by rfl) : Ev X (.Call (.Name "sum" p) [e] [] pos) ρ w w1 (.int ns.sum) :=
  Ev.callB (ds := [_]) (EvA.cons h .nil he) (cd_sumL hc) hm (by decide +kernel) hg (by decide) (by decide) he hpl
theorem Ev.sumT {ns : List Int} (h : Ev X e ρ w w1 (.tuple (ns.map PyData.int))) (hm : X.mg "sum" = none) (hc : X.calm = true) (hg : Gl X "sum" := by rfl) (he : starEach [e] X.env = (false, eval e X.env) :: starEach [] X.env := by rfl) (hpl : (backTo pos (starEach [] X.env)).any (·.1) = false := by rfl) : Ev X (.Call (.Name "sum" p) [e] [] pos) ρ w w1 (.int ns.sum) :=
  Ev.callB (ds := [_]) (EvA.cons h .nil he) (cd_sumT hc) hm (by decide +kernel) hg (by decide) (by decide) he hpl
theorem cd_minL (hc : X.calm = true) {ns : List Int} {m : Int} (h0 : m ∈ ns) (h1 : ∀ y ∈ ns, m ≤ y) : CallD X (.builtin "min") [.list (ns.map PyData.int)] (.int m) := fun B xs h Q q => by
  obtain ⟨v, rfl, r⟩ := dp1 h
  cases r with
  | lst hs ha =>
    have e := DpAll.ints ha
    subst e
    refine cw_of (cr_min hc) ⟨_, ns, rfl, ex_l B.ok hs, List.length_pos_of_mem h0, fun m' a1 a2 => ?_⟩
    have e : m' = m := Int.le_antisymm (a2 _ h0) (h1 _ a1)
    rw [e]
    exact q _ B (Le.refl _ _) (.int m)
theorem Ev.minC {ns : List Int} {m : Int} (h : Ev X e ρ w w1 (.list (ns.map PyData.int))) (hm : X.mg "min" = none) (hc : X.calm = true) (h0 : m ∈ ns) (h1 : ∀ y ∈ ns, m ≤ y) (hg : Gl X "min" := by rfl) (he : starEach [e] X.env = (false, eval e X.env) :: starEach [] X.env := by rfl) (hpl : (backTo pos (starEach [] X.env)).any (·.1) = false := by rfl) : Ev X (.Call (.Name "min" p) [e] [] pos) ρ w w1 (.int m) :=
  Ev.callB (ds := [_]) (EvA.cons h .nil he) (cd_minL hc h0 h1) hm (by decide +kernel) hg (by decide) (by decide) he hpl
/-! flat data -/
def flatD : D → Bool
  | .none => true
  | .bool _ => true
  | .int _ => true
  | .str _ => true
  | _ => false
theorem flat_dp {K : PySem.W.Frag} {f : Hp} {v : V} {d : D} (h : Dp K f v d) (hf : flatD d = true) : flatV v = true := by
  cases h <;> first | rfl | cases hf
theorem flat_all {K : PySem.W.Frag} {f : Hp} : ∀ {vs : List V} {ds : List D}, DpAll K f vs ds → ds.all flatD = true → vs.all flatV = true
  | _, _, .nil, _ => rfl
  | _, _, .cons r t, h => by
    rw [List.all_cons, Bool.and_eq_true] at h ⊢
    exact ⟨flat_dp r h.1, flat_all t h.2⟩
/-- == of flat data -/
def eqF : D → D → Bool
  | .none, .none => true
  | .bool a, .bool b => a == b
  | .bool a, .int b => (if a then 1 else 0) == b
  | .int a, .bool b => a == (if b then 1 else 0)
  | .int a, .int b => a == b
  | .str a, .str b => a == b
  | _, _ => false
theorem eq_flat {K : PySem.W.Frag} {f g : Hp} {v u : V} {d e : D} (h : Dp K f v d) (k : Dp K g u e) (hd : flatD d = true) (he : flatD e = true) : eqV v u = eqF d e := by
  cases h <;> first | (cases hd; done) | (cases k <;> first | (cases he; done) | rfl)
theorem in_flat {K : PySem.W.Frag} {f g : Hp} {v : V} {d : D} (h : Dp K f v d) (hd : flatD d = true) : ∀ {us : List V} {es : List D}, DpAll K g us es → es.all flatD = true → inV v us = es.any fun y => eqF y d
  | _, _, .nil, _ => rfl
  | _, _, .cons r t, hf => by
    rw [List.all_cons, Bool.and_eq_true] at hf
    have ih := in_flat h hd t hf.2
    unfold inV at ih ⊢
    rw [List.any_cons, List.any_cons, ih, eq_flat r h hf.1 hd]
def seqD2 : D → List D
  | .list ds => ds
  | .tuple ds => ds
  | _ => []
def isSeqD : D → Bool
  | .list _ => true
  | .tuple _ => true
  | _ => false
theorem od_in (hd : flatD d1 = true) (hs : isSeqD d2 = true) (hf : (seqD2 d2).all flatD = true) : OpC X .In d1 d2 (.bool ((seqD2 d2).any fun y => eqF y d1)) := ⟨fun B x y hx hy Q q => by
  cases hy with
  | lst h1 a1 => exact r_w op_in_seq ⟨_, _, rfl, .inl (ex_l B.ok h1), flat_dp hx hd, flat_all a1 hf, q _ B (Le.refl _ _) (by rw [if_neg Bool.false_ne_true, in_flat hx hd a1 hf]; exact .bl _)⟩
  | tup h1 a1 => exact r_w op_in_seq ⟨_, _, rfl, .inr (ex_t B.ok h1), flat_dp hx hd, flat_all a1 hf, q _ B (Le.refl _ _) (by rw [if_neg Bool.false_ne_true, in_flat hx hd a1 hf]; exact .bl _)⟩
  | non => cases hs
  | bl _ => cases hs
  | int _ => cases hs
  | str _ => cases hs⟩
theorem od_notIn (hd : flatD d1 = true) (hs : isSeqD d2 = true) (hf : (seqD2 d2).all flatD = true) : OpC X .NotIn d1 d2 (.bool (!(seqD2 d2).any fun y => eqF y d1)) := ⟨fun B x y hx hy Q q => by
  cases hy with
  | lst h1 a1 => exact r_w op_notIn_seq ⟨_, _, rfl, .inl (ex_l B.ok h1), flat_dp hx hd, flat_all a1 hf, q _ B (Le.refl _ _) (by rw [if_pos rfl, in_flat hx hd a1 hf]; exact .bl _)⟩
  | tup h1 a1 => exact r_w op_notIn_seq ⟨_, _, rfl, .inr (ex_t B.ok h1), flat_dp hx hd, flat_all a1 hf, q _ B (Le.refl _ _) (by rw [if_pos rfl, in_flat hx hd a1 hf]; exact .bl _)⟩
  | non => cases hs
  | bl _ => cases hs
  | int _ => cases hs
  | str _ => cases hs⟩
theorem od_eqS {i j : Str} : OpC X .Eq (.str i) (.str j) (.bool (decide (i = j))) := ⟨fun B x y hx hy Q q => by
  cases hx
  cases hy
  have e : decide (V.str i = V.str j) = decide (i = j) := by
    by_cases h : i = j
    · subst h; simp
    · rw [decide_eq_false h, decide_eq_false (fun z => h (V.str.inj z))]
  exact r_w op_eq ⟨rfl, q _ B (Le.refl _ _) (by rw [e]; exact .bl _)⟩⟩
theorem od_and {i j : Int} : OpB X .BitAnd (.int i) (.int j) (.int (Builtin.bitAnd i j)) := ⟨.int0 op_and fun _ => .int _⟩
theorem od_xor {i j : Int} : OpB X .BitXor (.int i) (.int j) (.int (Builtin.bitXor i j)) := ⟨.int0 op_xor fun _ => .int _⟩
theorem od_shr {i j : Int} (h : 0 ≤ j) : OpB X .RShift (.int i) (.int j) (.int (i / 2 ^ j.toNat)) := ⟨.int op_shr h fun _ => .int _⟩
end
end Pm

namespace Pm
open PySem PySem.Spec PyProof.Rows L2 Evl
section
variable {X : Cx} {e a b c : Expr} {es rest : List Expr} {st : Stmt} {sts body body2 : List Stmt} {E : DE} {ρ : List Slot} {w w1 w2 w3 : W} {d d1 d2 : D} {ds xs : List D} {kds : List (Key × D)} {pos p pos' : Pos} {x : Str} {cl c0 c1 : Cell}
/-! ### slices -/
/-- t[lo:hi] -/
theorem Ev.slT {lo hi : Option Expr} {i j : Option Int} {p2 : Pos} (ha : Ev X a ρ w w1 (.tuple ds)) (h1 : EvP X lo ρ w1 i) (h2 : EvP X hi ρ w1 j) : Ev X (.Subscript a (.Slice lo hi none p2) pos) ρ w w1 (.tuple (cutP ds i j)) := by
  obtain ⟨t1, p1, r1⟩ := h1
  obtain ⟨t2, p2, r2⟩ := h2
  refine ⟨ha.dm, fun σ B hg hw Q q => w_e (pe_slice sl_tupA pe_w p1 p2) ?_⟩
  refine ha.run σ B hg hw _ fun x C1 l1 o1 x1 => ?_
  refine r1 σ C1 (Sig.mono l1.f hg) o1 _ fun C2 l2 o2 => ?_
  refine r2 σ C2 (Sig.mono (l1.f.trans l2.f) hg) o2 _ fun C3 l3 o3 => ?_
  have l13 := Le.trans l2 l3
  have lw := lift2 (S := w) ha.dm l1 o1 l13
  have x3 := Dp.mono l13.f x1
  cases x3 with
  | tup hl hd =>
    have el := DpAll.length hd
    refine ⟨_, _, rfl, ex_t C3.ok hl, fun z => ?_, fun z => tup_new (DpAll.cut hd) fun v C l2 v2 => q v C (lift2 (S := w) ha.dm lw o3 l2.nil) (o3.step l2 (by simp)) v2⟩
    refine q _ C3 lw o3 ?_
    have e : cutP ds i j = ds := by
      unfold cutP
      rw [el] at z
      rw [z.1, z.2]
      simp
    rw [e]
    exact .tup hl hd
/-- x[lo:hi] of an owned list -/
theorem EvN.slO (k n : Nat) {ad : Addr} {lo hi : Option Expr} {i j : Option Int} {p2 px : Pos} (hi0 : ρ[n]? = some (.own ad)) (hk : w[k]? = some (ad, Cell.L ds)) (h1 : EvP X lo ρ w i) (h2 : EvP X hi ρ w j) (hN : X.N[n]? = some x := by rfl) (hv : Vis X.env.scope x := by first | exact Or.inl rfl | exact Or.inr (Or.inl rfl) | exact Or.inr (Or.inr rfl)) (hd : (x == ("__debug__" : Str)) = false := by decide)
    (hcd : (x == ("__classdict__" : Str)) = false := by decide) : EvN X (.Subscript (.Name x px) (.Slice lo hi none p2) pos) ρ w w (cutP ds i j) := by
  obtain ⟨t1, p1, r1⟩ := h1
  obtain ⟨t2, p2, r2⟩ := h2
  refine ⟨rfl, fun σ B hg hw Q q => w_e (pe_slice sl_list (pe_var hN hv hd hcd) p1 p2) ?_⟩
  obtain ⟨s, e1, h1⟩ := Paired.get hg hi0
  refine ⟨.ref ad, by rw [e1]; exact congrArg some h1, ?_⟩
  refine r1 σ B hg hw _ fun C2 l2 o2 => ?_
  refine r2 σ C2 (Sig.mono l2.f hg) o2 _ fun C3 l3 o3 => ?_
  have lw := Le.trans l2 l3
  obtain ⟨⟨vs, hl, hd⟩, _⟩ := o3.lst (List.mem_of_getElem? hk)
  refine ⟨_, _, rfl, SqL.of hl, fun p hp => ?_⟩
  exact q p _ (C3.put p _ (HH.free hp)) (Le.back lw hw o3 rfl hp) (lift2 (S := w) rfl lw o3 (HH.put_le hp)) (o3.step (HH.put_le (S := []) hp) (by simp)) upd_same (HH.free (B := C3) hp) (DpAll.cut hd)
/-! ### list(range(n)), x.remove(e), [..].index(e) -/
theorem EvN.listRg {n : Int} {pr pc : Pos} (h : Ev X e ρ w w1 (.int n)) (h0 : 0 ≤ n ∧ n ≤ 100000) (hc : X.calm = true) (hm : X.mg "list" = none) (hm2 : X.mg "range" = none) (hg : Gl X "list" := by rfl) (hg2 : Gl X "range" := by rfl)
    (na1 : starEach [e] X.env = (false, eval e X.env) :: starEach [] X.env := by rfl) (na : starEach [.Call (.Name "range" pr) [e] [] pc] X.env = (false, eval (.Call (.Name "range" pr) [e] [] pc) X.env) :: starEach [] X.env := by rfl) : EvN X (.Call (.Name "list" p) [.Call (.Name "range" pr) [e] [] pc] [] pos) ρ w w1 ((List.range n.toNat).map fun i => PyData.int ((i : Nat) : Int)) := by
  refine ⟨h.dm, fun σ B hs hw Q q => w_e (pe_listRg hc hg hm (prg_1 hg2 hm2 pe_w na1) na) ?_⟩
  refine h.run σ B hs hw _ fun v C l o r => ?_
  cases r
  refine ⟨n, rfl, .of_le (Int.le_refl 0) (by omega) (by omega) h0.1, fun r hr => ?_⟩
  refine q r (rgV 0 n) (C.put r _ (HH.free hr)) (Le.back l hw o h.dm hr) (lift2 (S := w) h.dm l o (HH.put_le hr)) (o.step (HH.put_le (S := []) hr) (by simp)) upd_same (HH.free (B := C) hr) ?_
  unfold rgV
  rw [Int.sub_zero]
  have e : ∀ l : List Nat, DpAll X.K C.f (l.map fun i => V.int (0 + ((i : Nat) : Int))) (l.map fun i => PyData.int ((i : Nat) : Int)) := fun l => by
    induction l with
    | nil => exact .nil
    | cons a r ih =>
      refine .cons ?_ ih
      show Dp X.K C.f (V.int (0 + ((a : Nat) : Int))) (.int ((a : Nat) : Int))
      rw [Int.zero_add]
      exact .int _
  exact e _
theorem Wt.remove (k i : Nat) {ad : Addr} {px apos : Pos} {ns : List Int} {n : Int} {j : Nat} (hi : ρ[i]? = some (.own ad)) (h : Ev X e ρ w w (.int n)) (hk : w[k]? = some (ad, Cell.L (ns.map PyData.int))) (hj : ns[j]? = some n) (hno : ∀ m : Nat, m < j → ns[m]? ≠ some n) (q : E.nx ρ (w.set k (ad, Cell.L ((ns.eraseIdx j).map PyData.int)))) (hN : X.N[i]? = some x := by rfl) (hv : Vis X.env.scope x := by first | exact Or.inl rfl | exact Or.inr (Or.inl rfl) | exact Or.inr (Or.inr rfl))
    (hd : (x == ("__debug__" : Str)) = false := by decide) (hcd : (x == ("__classdict__" : Str)) = false := by decide)
    (hbase : attributeBase (.Name x px) "remove" X.env (eval (.Name x px) X.env) = eval (.Name x px) X.env := by rfl)
    (hfew : ((backTo pos (starEach [e] X.env)).all (fun x => !x.1) && (backToKw pos (keywordEach [] X.env)).all (fun x => x.1.isSome)
      && decide (([e] : List Expr).length + ([] : List Keyword).length + (if ([] : List Keyword).isEmpty then 0 else 1) < 30)) = true := by rfl)
    (hline : (apos.endLine == pos.line) = true := by rfl) (hst : starEach [e] X.env = (false, eval e X.env) :: starEach [] X.env := by rfl) (hplain : (backTo pos (starEach [] X.env)).any (·.1) = false := by rfl)
    (hs : swapsWith (.Call (.Attribute (.Name x px) "remove" apos) [e] [] pos) none pos'.line X.env = pure false := by rfl) : Wt X (.Expr (.Call (.Attribute (.Name x px) "remove" apos) [e] [] pos) pos') E ρ w := fun S B0 σ B Q g s kk => by
  refine w_s (ps_expr (pe_bm PySem.F.plainAttrs_list PySem.F.slot_list_remove PySem.F.type_list_remove mt_remove (pe_var hN hv hd hcd) (pa_cons pe_w pa_nil hst) hbase hfew hline hst hplain) hs) ?_
  obtain ⟨t, e1, e2⟩ := Paired.get s hi
  obtain ⟨⟨us, hu, _⟩, _⟩ := g.own.lst (List.mem_of_getElem? hk)
  refine ⟨.ref ad, by rw [e1]; exact congrArg some e2, .inl ⟨rfl, us, SqL.of hu⟩, ?_⟩
  refine h.run σ B s g.own _ fun v C l o r => ?_
  cases r
  obtain ⟨⟨vs, h1, h2⟩, h3⟩ := o.lst (List.mem_of_getElem? hk)
  have ev := DpAll.ints h2
  subst ev
  refine ⟨ad, ns, n, j, rfl, rfl, h1, hj, hno, ?_⟩
  obtain ⟨o2, dm2⟩ := own_upd o hk (ints_dp (ns.eraseIdx j)) h3
  exact kk.nx σ (C.put ad (.lst ((ns.eraseIdx j).map V.int)) h3) ρ _ ((g.step l o h.dm).step (put_le2 h3 (dom_mem hk)) o2 dm2) (Sig.mono l.f s) q
theorem Ev.indexL {j : Nat} {z : D} {apos : Pos} (ha : Ev X a ρ w w1 (.list ds)) (h : Ev X e ρ w1 w2 d) (fd : flatD d = true) (fa : ds.all flatD = true) (hz : ds[j]? = some z) (he : eqF z d = true) (hno : ∀ (m : Nat) (z' : D), m < j → ds[m]? = some z' → eqF z' d = false)
    (hbase : attributeBase a "index" X.env (eval a X.env) = eval a X.env := by rfl)
    (hfew : ((backTo pos (starEach [e] X.env)).all (fun x => !x.1) && (backToKw pos (keywordEach [] X.env)).all (fun x => x.1.isSome)
      && decide (([e] : List Expr).length + ([] : List Keyword).length + (if ([] : List Keyword).isEmpty then 0 else 1) < 30)) = true := by rfl)
    (hline : (apos.endLine == pos.line) = true := by rfl) (hst : starEach [e] X.env = (false, eval e X.env) :: starEach [] X.env := by rfl) (hplain : (backTo pos (starEach [] X.env)).any (·.1) = false := by rfl) : Ev X (.Call (.Attribute a "index" apos) [e] [] pos) ρ w w2 (.int (j : Nat)) := by
  refine ⟨h.dm.trans ha.dm, fun σ B hs hw Q q => w_e (pe_bm PySem.F.plainAttrs_list PySem.F.slot_list_index PySem.F.type_list_index mt_index pe_w (pa_cons pe_w pa_nil hst) hbase hfew hline hst hplain) ?_⟩
  refine ha.run σ B hs hw _ fun x C1 l1 o1 x1 => ?_
  cases x1 with
  | lst hl hd =>
    refine ⟨.inl ⟨rfl, _, ex_l C1.ok hl⟩, ?_⟩
    refine h.run σ C1 (Sig.mono l1.f hs) o1 _ fun y C2 l2 o2 y1 => ?_
    have hd2 := DpAll.mono l2.f hd
    obtain ⟨v, v1, v2⟩ := DpAll.get hd2 hz
    have fz : flatD z = true := List.all_eq_true.mp fa z (List.mem_of_getElem? hz)
    refine ⟨_, _, y, j, v, rfl, rfl, ex_l C2.ok (ex_l l2.f hl), flat_dp y1 fd, flat_all hd2 fa, v1, by rw [eq_flat v2 y1 fz fd]; exact he, fun m z' hm hz' => ?_, q _ C2 (lift2 (S := w) ha.dm l1 o1 l2) o2 (.int _)⟩
    have hml : m < ds.length := by
      have := (List.getElem?_eq_some_iff.mp hz').1
      rw [← DpAll.length hd2]
      exact this
    obtain ⟨u, u1, u2⟩ := DpAll.get hd2 (List.getElem?_eq_getElem hml)
    have eu : u = z' := Option.some.inj (u1.symm.trans hz')
    subst eu
    rw [eq_flat u2 y1 (List.all_eq_true.mp fa _ (List.mem_of_getElem? (List.getElem?_eq_getElem hml))) fd]
    exact hno m _ hm (List.getElem?_eq_getElem hml)
/-! ### dicts -/
/-- {k: e} -/
theorem EvC.disp1 {k : Key} (ha : Ev X a ρ w w1 (kD k)) (hb : Ev X b ρ w1 w2 d) : EvC X (.Dict [some a] [b] pos) ρ w w2 (.M [(k, d)]) := by
  refine ⟨hb.dm.trans ha.dm, fun σ B hs hw Q q => w_e (pe_disp (pps_cons pe_w pe_w pps_nil) rfl rfl (by simp) (by simp)) ?_⟩
  intro p hp
  let B1 : HH := B.put p (.dK []) (HH.free hp)
  have l0 : Le (dom w) B B1 := HH.put_le hp
  have o0 : Own X.K w B1 := hw.step (HH.put_le (S := []) hp) (by simp)
  have n0 : p ∉ dom w := fun m => hw.stands p m hp
  refine ha.run σ B1 (Sig.mono l0.f hs) o0 _ fun x C1 l1 o1 x1 => ?_
  refine hb.run σ C1 (Sig.mono (l0.f.trans l1.f) hs) o1 _ fun y C2 l2 o2 y1 => ?_
  have l12 : Le (dom w) B1 C2 := lift2 (S := w) ha.dm l1 o1 l2
  have e2 : C2.h p = some (.dK []) := l12.h p _ n0 upd_same
  have f2 : C2.f p = none := by
    cases z : C2.f p with
    | none => rfl
    | some u =>
      rcases l12.new p (by rw [z]; simp) with k | k | k
      · exact absurd (HH.free (B := B) hp) k
      · rw [show B1.h p = some (.dK []) from upd_same] at k; cases k
      · exact absurd k n0
  have ex : x = kV k := dp_key x1
  subst ex
  refine ⟨e2, [(k, y)], rfl, by simp, ?_⟩
  have hn2 : p ∉ dom w2 := by rw [hb.dm, ha.dm]; exact n0
  have lp : Le [p] C2 (C2.put p (.dK (mergeK [] [(k, y)])) f2) := put_le2 f2 (by simp)
  refine q p _ (C2.put p (.dK (mergeK [] [(k, y)])) f2) hp ⟨(l0.trans l12).f, fun x u n e => ?_, (l0.trans l12).new, fun x n => upd_st ((l0.trans l12).st x n)⟩ (o2.step lp (by
    intro a m z
    have ez : a = p := by simpa using z
    exact hn2 (ez ▸ m))) upd_same f2 ⟨_, rfl, .cons ⟨rfl, y1⟩ .nil⟩
  have ne : x ≠ p := ne_of_none e hp
  exact (upd_ne ne).trans ((l0.trans l12).h x u n e)
/-- len(x) of an owned dict -/
theorem Ev.lenM (m n : Nat) {ad : Addr} {px : Pos} (hi : ρ[n]? = some (.own ad)) (hk : w[m]? = some (ad, Cell.M kds)) (hm : X.mg "len" = none) (hN : X.N[n]? = some x := by rfl) (hv : Vis X.env.scope x := by first | exact Or.inl rfl | exact Or.inr (Or.inl rfl) | exact Or.inr (Or.inr rfl)) (hd : (x == ("__debug__" : Str)) = false := by decide)
    (hcd : (x == ("__classdict__" : Str)) = false := by decide) (hg : Gl X "len" := by rfl) (he : starEach [.Name x px] X.env = (false, eval (.Name x px) X.env) :: starEach [] X.env := by rfl) (hpl : (backTo pos (starEach [] X.env)).any (·.1) = false := by rfl) : Ev X (.Call (.Name "len" p) [.Name x px] [] pos) ρ w w (.int (kds.length : Int)) := by
  refine ⟨rfl, fun σ B hs hw Q q => w_e (pe_callB call_lenD hg hm (by decide +kernel) (pa_cons (pe_var hN hv hd hcd) pa_nil he) (by decide) (by decide) he hpl) ?_⟩
  obtain ⟨s, e1, h1⟩ := Paired.get hs hi
  refine ⟨.ref ad, by rw [e1]; exact congrArg some h1, ?_⟩
  obtain ⟨⟨kvs, hl, hd⟩, _⟩ := hw.key hk
  exact ⟨ad, kvs, rfl, hl, by rw [hd.len]; exact q _ B (Le.refl _ _) hw (.int _)⟩
/-- x[k] of a locked dict -/
theorem Ev.ixZ (m n : Nat) {ad : Addr} {k : Key} {px : Pos} {od : Obj} {kvs : List (Key × V)} (hu : X.A.units + 64 < cLine) (hi : ρ[n]? = some (.own ad)) (hk : w1[m]? = some (ad, Cell.Z od kvs kds)) (hb : Ev X b ρ w w1 (kD k)) (h : valD kds k = some d) (hN : X.N[n]? = some x := by rfl) (hv : Vis X.env.scope x := by first | exact Or.inl rfl | exact Or.inr (Or.inl rfl) | exact Or.inr (Or.inr rfl)) (hs : NoSl b := by exact fun _ _ => rfl) (hd : (x == ("__debug__" : Str)) = false := by decide)
    (hcd : (x == ("__classdict__" : Str)) = false := by decide) : Ev X (.Subscript (.Name x px) b pos) ρ w w1 d := by
  refine ⟨hb.dm, fun σ B hg hw Q q => w_e (pe_dget (by omega) (pe_var hN hv hd hcd) pe_w hs) ?_⟩
  obtain ⟨s, e1, h1⟩ := Paired.get hg hi
  refine ⟨.ref ad, by rw [e1]; exact congrArg some h1, ?_⟩
  refine hb.run σ B hg hw _ fun y C2 l2 o2 y1 => ?_
  obtain ⟨⟨ob, g1, g2, g3⟩, _⟩ := o2.has _ (List.mem_of_getElem? hk)
  subst g2
  obtain ⟨v, hv2, hr⟩ := KD.some g3 h
  refine ⟨ad, v, rfl, ?_, q v C2 l2 o2 hr⟩
  rw [dp_key y1, ← hv2]
  exact .inl ⟨kvs, k, .inr ⟨od, g1⟩, rfl, rfl⟩
/-- for k in x, x an owned dict; the body leaves neither by break nor by return -/
theorem Wt.forM (m n j : Nat) {ad : Addr} {y : Str} {px py : Pos} (I : Obj → List (Key × V) → Nat → List Slot → W → Prop) (hi : ρ[n]? = some (.own ad)) (hk : w[m]? = some (ad, Cell.M kds)) (h0 : ∀ od kvs, I od kvs 0 ρ (w.set m (ad, Cell.Z od kvs kds))) (hz : ∀ od kvs i ρ w, I od kvs i ρ w → w[m]? = some (ad, Cell.Z od kvs kds))
    (hs : ∀ od kvs i k d ρ w, kds[i]? = some (k, d) → I od kvs i ρ w → Ws X body { nx := I od kvs (i + 1), ct := I od kvs (i + 1), rt := fun _ _ => False } (ρ.set j (.dat (kD k))) w) (hd : ∀ od kvs ρ w, I od kvs kds.length ρ w → E.nx ρ (w.set m (ad, Cell.M kds)))
    (hp : PassesOwn (model X.prog X.w) X.A X.env X.xe) (hc : X.calm = true) (hN : X.N.Nodup) (hNy : X.N[n]? = some y := by rfl) (hvy : Vis X.env.scope y := by first | exact Or.inl rfl | exact Or.inr (Or.inl rfl) | exact Or.inr (Or.inr rfl)) (hdy : (y == ("__debug__" : Str)) = false := by decide) (hcy : (y == ("__classdict__" : Str)) = false := by decide)
    (hx' : X.N[j]? = some x := by rfl) (hx : Loc X.env.scope x := by first | exact Or.inl rfl | exact Or.inr rfl) (hf : X.fn x = true ∨ X.env.scope.names.lookup x = some .local := by first | exact .inl rfl | exact .inr rfl | assumption)
    (hfs : ∀ z, foldedSetIterable (.Name y py) X.env z = pure z := by intro _; rfl) : Wt X (.For (.Name x px) (.Name y py) body [] pos) E ρ w := fun S B0 σ B Q g s q => by
  refine w_s (ps_lock (ps_for hp hc (pi_keys (pe_var hNy hvy hdy hcy)) (pg_name hN hx' hx hf) pss_w hfs)) ?_
  obtain ⟨⟨kvs, hl, kd⟩, hfr⟩ := g.own.key hk
  refine ⟨ad, .dK kvs, hl, trivial, fun od => ?_⟩
  obtain ⟨t, e1, h1⟩ := Paired.get s hi
  refine ⟨.ref ad, by rw [e1]; exact congrArg some h1, ad, od, rfl, .inl ⟨kvs, upd_same, ?_⟩⟩
  let C : HH := B.put ad (.frz od (.dK kvs)) hfr
  obtain ⟨oC, dC⟩ := own_updC (u := .frz od (.dK kvs)) (c := Cell.Z od kvs kds) g.own hk ⟨rfl, kd⟩ hfr
  have mem : ad ∈ dom w := List.mem_map.mpr ⟨_, List.mem_of_getElem? hk, rfl⟩
  have gC : Good X.K S B0 (w.set m (ad, Cell.Z od kvs kds)) C := g.step (put_le2 hfr mem) oC dC
  let w1 := w.set m (ad, Cell.Z od kvs kds)
  have zat : ∀ {i ρ w2 C2}, I od kvs i ρ w2 → Own X.K w2 C2 → C2.h ad = some (.frz od (.dK kvs)) ∧ KD X.K C2.f kvs kds ∧ C2.f ad = none := fun {i ρ w2 C2} i2 o2 => by
    obtain ⟨⟨ob, z1, z2, z3⟩, z4⟩ := o2.has _ (List.mem_of_getElem? (hz od kvs i ρ w2 i2))
    subst z2
    exact ⟨z1, z3, z4⟩
  refine for_it (walk_keys (o := od) (kvs := kvs) (d := ad)) (fun i => LSt X.K C w1 (I od kvs i)) ⟨C, ρ, w1, rfl, Good.start oC, s, h0 od kvs⟩ ?_ ?_ ?_
  · rintro i σ H hin ⟨C2, ρ2, w2, rfl, g2, s2, i2⟩
    exact (zat i2 g2.own).1
  · rintro i x σ H H' hin ⟨C2, ρ2, w2, rfl, g2, s2, i2⟩ ⟨rfl, k, v, hkv, rfl⟩
    have hlt : i < kds.length := by rw [← KD.len kd]; exact hin
    have hkey : ∃ dd, kds[i]? = some (k, dd) := by
      have h3 := (zat i2 g2.own).2.1
      obtain ⟨⟨p1, p2⟩, hp1, hp2⟩ := Paired.get h3 (List.getElem?_eq_getElem hlt)
      rw [hkv] at hp1
      cases hp1
      refine ⟨(kds[i]).2, ?_⟩
      rw [List.getElem?_eq_getElem hlt]
      have e5 : k = (kds[i]).1 := hp2.1
      rw [e5]
    obtain ⟨dd, hdd⟩ := hkey
    have sj : Sig X.K C2.f (σ.set j (some (kV k))) (ρ2.set j (.dat (kD k))) := Paired.set (slot_dat (by cases k <;> constructor)) j s2
    exact hs od kvs i k dd ρ2 w2 hdd i2 (dom w1) C _ C2 _ g2 sj ⟨fun σ C ρ w k z i => ⟨C, ρ, w, rfl, k, z, i⟩, fun _ _ _ _ _ _ h => h.elim, fun _ _ _ _ _ _ _ _ _ _ h => h.elim, fun _ _ _ _ h => h.elim, fun _ _ _ _ _ _ h => h.elim, fun σ C ρ w k z i => ⟨C, ρ, w, rfl, k, z, i⟩⟩
  · rintro σ H ⟨C2, ρ2, w2, rfl, g2, s2, i2⟩
    rw [KD.len kd] at i2
    obtain ⟨z1, z2, z3⟩ := zat i2 g2.own
    refine ⟨z1, ?_⟩
    obtain ⟨oU, dU⟩ := own_updC (u := .dK kvs) (c := Cell.M kds) g2.own (hz od kvs _ ρ2 w2 i2) ⟨_, rfl, z2⟩ z3
    have g3 := gC.comp g2
    exact q.nx σ (C2.put ad (.dK kvs) z3) ρ2 _ (g3.step (put_le2 z3 (List.mem_map.mpr ⟨_, List.mem_of_getElem? (hz od kvs _ ρ2 w2 i2), rfl⟩)) oU dU) s2 (hd od kvs ρ2 w2 i2)
end
end Pm

namespace Pm
open PySem PySem.Spec PyProof.Rows L2 Evl
section
variable {X : Cx} {e a b c : Expr} {es rest : List Expr} {st : Stmt} {sts body body2 : List Stmt} {E : DE} {ρ : List Slot} {w w1 w2 w3 : W} {d d1 d2 : D} {ds xs : List D} {kds : List (Key × D)} {pos p pos' : Pos} {x : Str} {cl c0 c1 : Cell}
/-! ### a module's dict of texts -/
inductive StrEs (w : World) : List DictEntry → List (Str × Str) → Prop
  | nil : StrEs w [] []
  | cons {x y : Str} {t u : Tok} {es : List DictEntry} {l : List (Str × Str)} : StrEs w es l → StrEs w (⟨PyData.keyHash w.params x, .str x t, .str y u⟩ :: es) ((x, y) :: l)
def strKV (l : List (Str × Str)) : List (Key × V) := l.map fun q => (.inr q.1, V.str q.2)
def strKD (l : List (Str × Str)) : List (Key × D) := l.map fun q => (.inr q.1, PyData.str q.2)
theorem StrEs.keys {P : Program} {w : World} {es : List DictEntry} {l : List (Str × Str)} (h : StrEs w es l) : ∀ e ∈ es, ∃ k, (mixKind P w).is k e.key = true ∧ e.hash = (mixKind P w).hash k := by
  induction h with
  | nil => intro e m; cases m
  | @cons x y t u es l h ih =>
    intro e m
    rcases List.mem_cons.mp m with rfl | m
    · exact ⟨.inr x, by simp [mixKind, keyIs, Value.isStrOf], rfl⟩
    · exact ih e m
theorem StrEs.pairs {P : Program} {w : World} {es : List DictEntry} {l : List (Str × Str)} (h : StrEs w es l) : ∃ vs : List (Key × Value), Pairs (mixKind P w) es vs ∧ KV (strKV l) vs ∧ vs.map (·.1) = l.map fun q => Sum.inr q.1 := by
  induction h with
  | nil => exact ⟨[], .nil, .nil, rfl⟩
  | @cons x y t u es l h ih =>
    obtain ⟨vs, h1, h2, h3⟩ := ih
    refine ⟨(.inr x, .str y u) :: vs, .cons (by simp [mixKind, keyIs, Value.isStrOf]) rfl h1, .cons ⟨rfl, u, rfl⟩ h2, ?_⟩
    rw [List.map_cons, List.map_cons, h3]
theorem str_kd {K : PySem.W.Frag} {f : Hp} : ∀ l : List (Str × Str), KD K f (strKV l) (strKD l)
  | [] => .nil
  | _ :: l => .cons ⟨rfl, .str _⟩ (str_kd l)
structure GlobM (P : Program) (wd : World) (K : PySem.W.Frag) (mg : Str → Option Value) (x : Str) (l : List (Str × Str)) : Prop where
  ex : ∃ (g : Addr) (ob : Obj) (vs : List (Key × Value)), mg x = some (.ref g) ∧ K.lookup g = some ob ∧ (∀ h : Heap, h.get? g = some ob → h.DictOf (mixKind P wd) g vs) ∧ KV (strKV l) vs ∧ (g == sysModules) = false
theorem GlobM.mk' {P : Program} {wd : World} {K : PySem.W.Frag} {mg : Str → Option Value} {x : Str} {l : List (Str × Str)} {g : Addr} {es : List DictEntry} {n : Nat} (hm : mg x = some (.ref g)) (hl : K.lookup g = some ⟨.type "dict", none, .dict es.toArray n, #[]⟩) (h : StrEs wd es l) (hn : (l.map (·.1)).Nodup) (hs : (g == sysModules) = false) : GlobM P wd K mg x l := by
  obtain ⟨vs, h1, h2, h3⟩ := h.pairs (P := P)
  refine ⟨g, _, vs, hm, hl, fun hp he => ⟨_, es.toArray, n, he, ⟨rfl, rfl, rfl⟩, rfl, fun e m => h.keys e (by simpa using m), by simpa using h1, ?_⟩, h2, hs⟩
  rw [h3]
  have e : (l.map fun q => (Sum.inr q.1 : Key)) = (l.map (·.1)).map Sum.inr := by rw [List.map_map]; rfl
  rw [e]
  exact List.Pairwise.map _ (fun a b ne z => ne (Sum.inr.inj z)) hn
/-- x.get(k, e), x a module's dict -/
theorem Ev.gget {l : List (Str × Str)} {y : Str} {px apos : Pos} (G : GlobM X.prog X.w X.K X.mg x l) (hb : Ev X b ρ w w1 (.str y)) (hc : Ev X c ρ w1 w2 d1) (h : (valD (strKD l) (.inr y)).getD d1 = d) (hg : Gl X x := by rfl) (hdb : (x == ("__debug__" : Str)) = false := by decide)
    (hm : M2 X (.Name x px) "get" apos b c pos := by exact ⟨rfl, rfl, rfl, rfl⟩) : Ev X (.Call (.Attribute (.Name x px) "get" apos) [b, c] [] pos) ρ w w2 d := by
  refine ⟨hc.dm.trans hb.dm, fun σ B hs hw Q q => ?_⟩
  obtain ⟨g, ob, vs, hmg, hlk, hdict, hkv, hsys⟩ := G.ex
  intro pins s I
  refine wpAny_Call_method hm.base hm.few hm.line PySem.F.plainAttrs_dict PySem.F.slot_dict_get PySem.F.type_dict_get (thn ((pe_glob hg hmg (v := V.ref g) rfl hdb).run pins s σ B.h (fun v H => v = V.ref g ∧ H = B.h) I ⟨rfl, rfl⟩) fun u s1 ⟨x1, H1, I1, r1, e1, e2⟩ => ?_)
  subst e1 e2
  obtain rfl : u = Value.ref g := r1
  have hget := I1.kIn g ob hlk
  have hD := hdict _ hget
  refine ⟨hD.typeIs, fun b2 q2 => ?_, ?_⟩
  · cases q2
    obtain ⟨ob2, _, _, h1, h2, _⟩ := hD
    exact ⟨ob2, h1, h2.2.1⟩
  rw [hm.trees]
  refine Calls.callWith_builtin rfl (Calls.evalArgs_plain (Calls.spliced_cons (thn (hb.run σ B hs hw (fun v H => ∃ C, C.h = H ∧ Le (dom w) B C ∧ Own X.K w1 C ∧ v = .str y) (fun v C l o r => ⟨C, rfl, l, o, by cases r; rfl⟩) pins s1 I1) fun iv s2 ⟨y1, H2, I2, ry, C, eC, l1, o1, ey⟩ =>
    Calls.spliced_cons (thn (hc.run σ C (Sig.mono l1.f hs) o1 (fun v H => ∃ C2, C2.h = H ∧ Le (dom w1) C C2 ∧ Own X.K w2 C2 ∧ Dp X.K C2.f v d1) (fun v C2 l o r => ⟨C2, rfl, l, o, r⟩) pins s2 (eC ▸ I2)) fun fv s3 ⟨z, H3, I3, rz, C2, eC2, l2, o2, dz⟩ => Calls.spliced_nil ?_))))
  subst ey eC eC2
  have hD3 := hdict _ (I3.kIn g ob hlk)
  refine call_meetsIn PySem.F.slot_dict_get hD3.typeIs PySem.F.entry_dict_get (PySem.F.args_dict_get_3 _ _ _) (meets_dict_get_default (mixKind X.prog X.w) g (kV_is (k := .inr y) ry) hsys fv) ⟨_, hD3.mapOf, ⟨(valV (strKV l) (.inr y)).getD z, C2.h, I3.tok _, (hkv.val (.inr y)).getD rz, ?_⟩⟩
  refine q _ C2 (lift2 (S := w) hb.dm l1 o1 l2) o2 ?_
  subst h
  rcases (str_kd (K := X.K) (f := C2.f) l).val (.inr y) with ⟨g1, g2⟩ | ⟨v, d', g1, g2, g3⟩
  · rw [g1, g2]; exact dz
  · rw [g1, g2]; exact g3
end
end Pm

namespace Pm
open PySem PySem.Spec PyProof.Rows L2 Evl
section
variable {X : Cx} {e a b c : Expr} {es rest : List Expr} {st : Stmt} {sts body body2 : List Stmt} {E : DE} {ρ : List Slot} {w w1 w2 w3 : W} {d d1 d2 : D} {ds xs : List D} {kds : List (Key × D)} {pos p pos' : Pos} {x : Str} {cl c0 c1 : Cell}
/-! ### comprehensions with a test -/
def tBlkT (X : Cx) (scope : Scope) (cond : Expr) : TT := fun σ H Q => ∀ (s : Shared) (H0 : Hp) (C : Addr) (cl : List (Str × Addr)) (fp : List Addr), wT (X.blk s H0 scope (compEnvC scope cl C X.env) fp) cond σ H Q
abbrev EvBT (X : Cx) (scope : Scope) (cond : Expr) (ρ : List Slot) (w w' : W) (k : Bool) : Prop := ∀ (s : Shared) (H0 : Hp) (C : Addr) (cl : List (Str × Addr)) (fp : List Addr), EvT (X.blk s H0 scope (compEnvC scope cl C X.env) fp) cond ρ w w' k
theorem CSt.moved {B C C2 : HH} {L : Addr} {ys : List D} {vs : List V} (l : Le (dom w) B C) (h1 : C.h L = some (.lst vs)) (h2 : C.f L = none) (h3 : DpAll X.K C.f vs ys) (nL : L ∉ dom w) (l2 : Le (dom w) C C2) (o2 : Own X.K w C2) : CSt X.K B w L w ys C2.h := by
  have f2 : C2.f L = none := by
    cases z : C2.f L with
    | none => rfl
    | some u =>
      rcases l2.new L (by rw [z]; simp) with k | k | k
      · exact absurd h2 k
      · rw [h1] at k; cases k
      · exact absurd k nL
  exact ⟨C2, vs, rfl, l.trans l2, o2, l2.h _ _ nL h1, f2, DpAll.mono l2.f h3⟩
theorem compF_step {scope : Scope} {elt cond : Expr} {B : HH} {L : Addr} {ys : List D} {y : D} {k : Bool} {H : Hp} {σ : L2.St} (ht : EvBT X scope cond ρ w w k) (hb : k = true → EvB X scope elt ρ w w y) (hL : B.h L = none) (oB : Own X.K w B)
    (hs : ∀ C : HH, Le (dom w) B C → Sig X.K C.f σ ρ) (h : CSt X.K B w L w ys H) (hz : ys.length < 100000) :
    tBlkT X scope cond σ H fun b H3 => if b = true then tBlk X scope elt σ H3 (fun v H4 => ∃ acc, H4 L = some (.lst acc) ∧ acc.length < sizeLine ∧ CSt X.K B w L w (if k = true then ys ++ [y] else ys) (upd H4 L (.lst (acc ++ [v])))) else CSt X.K B w L w (if k = true then ys ++ [y] else ys) H3 := by
  obtain ⟨C, vs, rfl, l, o, h1, h2, h3⟩ := h
  intro s H0 Cc cl fp
  have nL : L ∉ dom w := fun m => oB.stands L m hL
  refine (ht s H0 Cc cl fp).run σ C (hs C l) o _ fun C2 l2 o2 => ?_
  have z := CSt.moved (X := X) l h1 h2 h3 nL l2 o2
  cases k with
  | false => exact z
  | true => exact comp_step (σ := σ) (hb rfl) rfl hL oB hs z hz
theorem filt_take {f : Nat → Bool} {g : Nat → D} (i : Nat) : (((List.range (i + 1)).filter f).map g) = if f i = true then ((List.range i).filter f).map g ++ [g i] else ((List.range i).filter f).map g := by
  rw [List.range_succ, List.filter_append, List.map_append]
  by_cases h : f i = true
  · rw [if_pos h, List.filter_cons_of_pos h]
    rfl
  · rw [if_neg h, List.filter_cons_of_neg h]
    simp
theorem filt_len (f : Nat → Bool) (g : Nat → D) (i : Nat) : (((List.range i).filter f).map g).length ≤ i := by
  rw [List.length_map]
  exact Nat.le_trans (List.length_filter_le _ _) (by rw [List.length_range]; exact Nat.le_refl _)
/-- [elt for x in range(n) if cond] -/
theorem compRF_run (j : Nat) {elt cond ar : Expr} {scope : Scope} {n : Int} {f : Nat → Bool} {g : Nat → D} (hr : EvA X [ar] ρ w w1 [.dat (.int n)]) (hb1 : n ≤ 100000) (hb0 : -(2 ^ 62) ≤ n)
    (ht : ∀ i, i < n.toNat → EvBT X scope cond ((wipeS ρ [j]).set j (.dat (.int (i : Int)))) w1 w1 (f i)) (hb : ∀ i, i < n.toNat → f i = true → EvB X scope elt ((wipeS ρ [j]).set j (.dat (.int (i : Int)))) w1 w1 (g i)) : RdN X.K (tLc (iRng1 (wA X [ar])) (gName j) (tBlkT X scope cond) (tBlk X scope elt) [j]) ρ w w1 (((List.range n.toNat).filter f).map g) := by
  refine ⟨hr.dm, fun σ B hsg hw Q q => ?_⟩
  refine hr.run σ B hsg hw _ fun vs C l o v => ?_
  cases v with
  | cons r t =>
    cases t
    cases r
    have hsC : Sig X.K C.f σ ρ := Sig.mono l.f hsg
    refine ⟨n, rfl, hb0, by omega, fun L hL => ?_⟩
    have hLB : B.h L = none := Le.back l hw o hr.dm hL
    refine lc_range (lo := 0) (n := n.toNat) (fun i H => CSt X.K C w1 L w1 (((List.range i).filter f).map g) H) ?_ ?_ ?_
    · exact ⟨C.put L (.lst []) (HH.free hL), [], rfl, HH.put_le hL, o.step (HH.put_le (S := []) hL) (by simp), upd_same, HH.free (B := C) hL, .nil⟩
    · intro i H hin hC
      refine ⟨by show wipe ((wipe σ [j]).set j _) [j] = wipe σ [j]; simp only [wipe, List.set_set], ?_⟩
      have hlen := filt_len f g i
      have k := compF_step (X := X) (σ := (wipe σ [j]).set j (some (.int (0 + (i : Int))))) (ht i hin) (hb i hin) hL o (fun E l2 => Paired.set (slot_dat (by rw [Int.zero_add]; exact .int _)) j (Sig.wipe (Sig.mono l2.f hsC) [j])) hC (by omega)
      rw [filt_take (f := f) (g := g) i]
      exact k
    · rintro H ⟨C2, vs2, rfl, l2, o2, h1, h2, h3⟩
      exact q L vs2 C2 hLB (lift2 (S := w) hr.dm l o l2) o2 h1 h2 h3
theorem pe_compRF (j : Nat) {elt cond ar : Expr} {scope : Scope} {pr px pc : Pos} (ok : BlkOk X.N X.env.scope scope [(x, j)]) (hc : X.calm = true) (hN : X.N.Nodup) (hm : X.mg "range" = none) (hg : Gl X "range" := by rfl) (hi : X.N[j]? = some x := by rfl) (hx : Loc (relabel scope X.env) x := by first | exact Or.inl rfl | exact Or.inr rfl)
    (hf : (scope.names.lookup x == some .cell) = true ∨ (relabel scope X.env).names.lookup x = some .local := by first | exact .inr rfl | exact .inl rfl)
    (hst : starEach [ar] X.env = [(false, eval ar X.env)] := by rfl) (hfs : ∀ x, foldedSetIterable (.Call (.Name "range" pr) [ar] [] pc) X.env x = pure x := by intro _; rfl) :
    PE X (.ListComp elt [⟨.Name x px, .Call (.Name "range" pr) [ar] [] pc, [cond], 0⟩] scope pos) (tLc (iRng1 (wA X [ar])) (gName j) (tBlkT X scope cond) (tBlk X scope elt) [j]) :=
  pe_lc (own := [(x, j)]) hc hN (pi_range1 hg hm pa_w hst) ok (fun s H C cl fp => pg_name hN hi hx hf) (fun s H C cl fp => pts_one ⟨fun pins s' σ H Q I h => h s _ C cl fp pins s' I⟩) (fun s H C cl fp => ⟨fun pins s' σ H Q I h => h s _ C cl fp pins s' I⟩) hfs
theorem ps_compRF (i j : Nat) {y : Str} {py : Pos} {elt cond ar : Expr} {scope : Scope} {pr px pc spos : Pos} (ok : BlkOk X.N X.env.scope scope [(x, j)]) (hc : X.calm = true) (hN : X.N.Nodup) (hm : X.mg "range" = none) (hsw : swapsWith (.ListComp elt [⟨.Name x px, .Call (.Name "range" pr) [ar] [] pc, [cond], 0⟩] scope pos) (some (.Name y py)) spos.line X.env = pure true := by exact sw_true rfl rfl rfl (by decide +kernel))
    (hy : X.N[i]? = some y := by rfl) (hyl : X.env.scope.names.lookup y = some .local := by rfl) (hg : Gl X "range" := by rfl) (hi : X.N[j]? = some x := by rfl) (hx : Loc (relabel scope X.env) x := by first | exact Or.inl rfl | exact Or.inr rfl)
    (hf : (scope.names.lookup x == some .cell) = true ∨ (relabel scope X.env).names.lookup x = some .local := by first | exact .inr rfl | exact .inl rfl)
    (hst : starEach [ar] X.env = [(false, eval ar X.env)] := by rfl) (hfs : ∀ x, foldedSetIterable (.Call (.Name "range" pr) [ar] [] pc) X.env x = pure x := by intro _; rfl) :
    PS X (.Assign [.Name y py] (.ListComp elt [⟨.Name x px, .Call (.Name "range" pr) [ar] [] pc, [cond], 0⟩] scope pos) spos) (tAsg (tLc (iRng1 (wA X [ar])) (gName j) (tBlkT X scope cond) (tBlk X scope elt) [j]) (gName i)) :=
  ps_setLc (own := [(x, j)]) hc hN hy hyl hsw (pi_range1 hg hm pa_w hst) ok (fun s H C cl fp => pg_name hN hi hx hf) (fun s H C cl fp => pts_one ⟨fun pins s' σ H Q I h => h s _ C cl fp pins s' I⟩) (fun s H C cl fp => ⟨fun pins s' σ H Q I h => h s _ C cl fp pins s' I⟩) hfs
/-- [elt for x in a list if cond] -/
theorem compLF_run (j : Nat) {elt cond it : Expr} {scope : Scope} {f : Nat → Bool} {g : Nat → D} (hr : Ev X it ρ w w1 (.list ds)) 
    (ht : ∀ (i : Nat) (y : D), ds[i]? = some y → EvBT X scope cond ((wipeS ρ [j]).set j (.dat y)) w1 w1 (f i)) (hb : ∀ (i : Nat) (y : D), ds[i]? = some y → f i = true → EvB X scope elt ((wipeS ρ [j]).set j (.dat y)) w1 w1 (g i)) (hz : ds.length ≤ 100000) : RdN X.K (tLc (iList X.K (wE X it)) (gName j) (tBlkT X scope cond) (tBlk X scope elt) [j]) ρ w w1 (((List.range ds.length).filter f).map g) := by
  refine ⟨hr.dm, fun σ B hsg hw Q q => ?_⟩
  refine hr.run σ B hsg hw _ fun v C l o r => ?_
  cases r with
  | lst hl2 hd =>
    rename_i ad xs
    have el := DpAll.length hd
    have hsC : Sig X.K C.f σ ρ := Sig.mono l.f hsg
    refine ⟨ad, rfl, ⟨_, ex_l C.ok hl2⟩, fun L hL => ?_⟩
    have hLB : B.h L = none := Le.back l hw o hr.dm hL
    refine lc_list (K := X.K) (a := ad) (xs := xs) (fun i H => CSt X.K C w1 L w1 (((List.range i).filter f).map g) H) ?_ ?_ ?_ ?_
    · exact ⟨C.put L (.lst []) (HH.free hL), [], rfl, HH.put_le hL, o.step (HH.put_le (S := []) hL) (by simp), upd_same, HH.free (B := C) hL, .nil⟩
    · rintro i H hin ⟨C2, vs2, rfl, l2, _⟩
      exact ex_l C2.ok (ex_l l2.f hl2)
    · intro i y H hiy hC
      refine ⟨by show wipe ((wipe σ [j]).set j _) [j] = wipe σ [j]; simp only [wipe, List.set_set], ?_⟩
      have hlt : i < ds.length := by rw [← el]; exact (List.getElem?_eq_some_iff.mp hiy).1
      obtain ⟨v, h1, h2⟩ := DpAll.get hd (List.getElem?_eq_getElem hlt)
      have ev : v = y := Option.some.inj (h1.symm.trans hiy)
      subst ev
      have hlen := filt_len f g i
      have k := compF_step (X := X) (σ := (wipe σ [j]).set j (some v)) (ht i _ (List.getElem?_eq_getElem hlt)) (hb i _ (List.getElem?_eq_getElem hlt)) hL o (fun E l2 => Paired.set (slot_dat (Dp.mono l2.f h2)) j (Sig.wipe (Sig.mono l2.f hsC) [j])) hC (by omega)
      rw [filt_take (f := f) (g := g) i]
      exact k
    · rintro H ⟨C2, vs2, rfl, l2, o2, h1, h2, h3⟩
      rw [el] at h3
      exact q L vs2 C2 hLB (lift2 (S := w) hr.dm l o l2) o2 h1 h2 h3
theorem pe_compLF (j : Nat) {elt cond it : Expr} {scope : Scope} {px : Pos} (ok : BlkOk X.N X.env.scope scope [(x, j)]) (hc : X.calm = true) (hN : X.N.Nodup) (hi : X.N[j]? = some x := by rfl) (hx : Loc (relabel scope X.env) x := by first | exact Or.inl rfl | exact Or.inr rfl)
    (hf : (scope.names.lookup x == some .cell) = true ∨ (relabel scope X.env).names.lookup x = some .local := by first | exact .inr rfl | exact .inl rfl)
    (hfs : ∀ x, foldedSetIterable it X.env x = pure x := by intro _; rfl) :
    PE X (.ListComp elt [⟨.Name x px, it, [cond], 0⟩] scope pos) (tLc (iList X.K (wE X it)) (gName j) (tBlkT X scope cond) (tBlk X scope elt) [j]) :=
  pe_lc (own := [(x, j)]) hc hN (pi_list pe_w) ok (fun s H C cl fp => pg_name hN hi hx hf) (fun s H C cl fp => pts_one ⟨fun pins s' σ H Q I h => h s _ C cl fp pins s' I⟩) (fun s H C cl fp => ⟨fun pins s' σ H Q I h => h s _ C cl fp pins s' I⟩) hfs
/-- [elt for x in y if cond], y the one owned list, not read within -/
theorem compOF_run (j n : Nat) {elt cond : Expr} {scope : Scope} {f : Nat → Bool} {g : Nat → D} {ad : Addr} {y : Str} (hi : ρ[n]? = some (.own ad)) (hN : X.N[n]? = some y) (hv : Vis X.env.scope y) (hd : (y == ("__debug__" : Str)) = false) (hcd : (y == ("__classdict__" : Str)) = false)
    (ht : ∀ (i : Nat) (y : D), ds[i]? = some y → EvBT X scope cond ((wipeS ρ [j]).set j (.dat y)) [] [] (f i)) (hb : ∀ (i : Nat) (y : D), ds[i]? = some y → f i = true → EvB X scope elt ((wipeS ρ [j]).set j (.dat y)) [] [] (g i)) (hz : ds.length ≤ 100000) : RdN X.K (tLc (iList X.K (fun σ H Q => ∃ v, σ[n]? = some (some v) ∧ Q v H)) (gName j) (tBlkT X scope cond) (tBlk X scope elt) [j]) ρ [(ad, Cell.L ds)] [(ad, Cell.L ds)] (((List.range ds.length).filter f).map g) := by
  refine ⟨rfl, fun σ C hsC o Q q => ?_⟩
  obtain ⟨s, e1, h1⟩ := Paired.get hsC hi
  refine ⟨.ref ad, by rw [e1]; exact congrArg some h1, ?_⟩
  obtain ⟨⟨xs, hl, hdd⟩, hfa⟩ := o.lst (List.mem_singleton.mpr rfl)
  have el := DpAll.length hdd
  have o0 : Own X.K [] C := own_nil
  refine ⟨ad, rfl, ⟨_, SqL.of hl⟩, fun L hL => ?_⟩
  refine lc_list (K := X.K) (a := ad) (xs := xs) (fun i H => CSt X.K C [] L [] (((List.range i).filter f).map g) H) ?_ ?_ ?_ ?_
  · exact ⟨C.put L (.lst []) (HH.free hL), [], rfl, HH.put_le hL, own_nil, upd_same, HH.free (B := C) hL, .nil⟩
  · rintro i H hin ⟨C2, vs2, rfl, l2, _⟩
    exact SqL.of (l2.h ad _ (by simp [dom]) hl)
  · intro i y H hiy hC
    refine ⟨by show wipe ((wipe σ [j]).set j _) [j] = wipe σ [j]; simp only [wipe, List.set_set], ?_⟩
    have hlt : i < ds.length := by rw [← el]; exact (List.getElem?_eq_some_iff.mp hiy).1
    obtain ⟨v, h1, h2⟩ := DpAll.get hdd (List.getElem?_eq_getElem hlt)
    have ev : v = y := Option.some.inj (h1.symm.trans hiy)
    subst ev
    have hlen := filt_len f g i
    have k := compF_step (X := X) (σ := (wipe σ [j]).set j (some v)) (ht i _ (List.getElem?_eq_getElem hlt)) (hb i _ (List.getElem?_eq_getElem hlt)) hL o0 (fun E l2 => Paired.set (slot_dat (Dp.mono l2.f h2)) j (Sig.wipe (Sig.mono l2.f hsC) [j])) hC (by omega)
    rw [filt_take (f := f) (g := g) i]
    exact k
  · rintro H ⟨C2, vs2, rfl, l2, o2, h1, h2, h3⟩
    rw [el] at h3
    exact q L vs2 C2 hL l2.nil (o.step l2 (by simp [dom])) h1 h2 h3
theorem pe_compOF (j n : Nat) {elt cond : Expr} {scope : Scope} {px py : Pos} {y : Str} (ok : BlkOk X.N X.env.scope scope [(x, j)]) (hc : X.calm = true) (hN : X.N.Nodup) (hNy : X.N[n]? = some y) (hv : Vis X.env.scope y) (hd : (y == ("__debug__" : Str)) = false) (hcd : (y == ("__classdict__" : Str)) = false) (hi : X.N[j]? = some x := by rfl) (hx : Loc (relabel scope X.env) x := by first | exact Or.inl rfl | exact Or.inr rfl)
    (hf : (scope.names.lookup x == some .cell) = true ∨ (relabel scope X.env).names.lookup x = some .local := by first | exact .inr rfl | exact .inl rfl)
    (hfs : ∀ x, foldedSetIterable (.Name y py) X.env x = pure x := by intro _; rfl) :
    PE X (.ListComp elt [⟨.Name x px, .Name y py, [cond], 0⟩] scope pos) (tLc (iList X.K (fun σ H Q => ∃ v, σ[n]? = some (some v) ∧ Q v H)) (gName j) (tBlkT X scope cond) (tBlk X scope elt) [j]) :=
  pe_lc (own := [(x, j)]) hc hN (pi_list (pe_var hNy hv hd hcd)) ok (fun s H C cl fp => pg_name hN hi hx hf) (fun s H C cl fp => pts_one ⟨fun pins s' σ H Q I h => h s _ C cl fp pins s' I⟩) (fun s H C cl fp => ⟨fun pins s' σ H Q I h => h s _ C cl fp pins s' I⟩) hfs

/-! ### [elt for a, b in reversed(t)], t a tuple of pairs -/
theorem walk_revT {K : PySem.W.Frag} {a : Addr} {xs : List V} : Walk (RT.ItvT K a xs.length) xs.length (fun H => SqT K H a xs) (fun i H x H' => H' = H ∧ xs[xs.length - 1 - i]? = some x) :=
  ⟨fun i H hi h => ⟨hi, xs, xs[xs.length - 1 - i]'(by omega), h, List.getElem?_eq_getElem (by omega)⟩, fun H h => Nat.le_refl _, fun i H x H' hi h y => ⟨y.1, y.2 xs h⟩⟩
def gPair (K : PySem.W.Frag) (i j : Nat) : TG := gTup K 2 (gCons (gName i) (gCons (gName j) gNil))
theorem rev_take {α : Type} (l : List α) (i : Nat) (h : i < l.length) : l.reverse.take (i + 1) = l.reverse.take i ++ [l[l.length - 1 - i]'(by omega)] := by
  rw [List.take_add_one, List.getElem?_reverse h, List.getElem?_eq_getElem (by omega)]
  rfl
theorem compRev_run (i1 i2 : Nat) (hne : i1 ≠ i2) {elt it : Expr} {scope : Scope} {α : Type} {l0 : List α} {t0 : α → D} {f : α → D} (hr : Ev X it ρ w w1 (.tuple (l0.map t0)))
    (hb : ∀ y ∈ l0, ∃ u v, t0 y = .tuple [u, v] ∧ EvB X scope elt (((wipeS ρ [i1, i2]).set i1 (.dat u)).set i2 (.dat v)) w1 w1 (f y)) (hz : l0.length ≤ 100000) : RdN X.K (tLc (RT.iRevA X.K (wE X it)) (gPair X.K i1 i2) tYes (tBlk X scope elt) [i1, i2]) ρ w w1 (l0.reverse.map f) := by
  refine ⟨hr.dm, fun σ B hsg hw Q q => ?_⟩
  refine hr.run σ B hsg hw _ fun v C l o r => ?_
  cases r with
  | tup hl2 hd =>
    rename_i ad xs
    have el : xs.length = l0.length := (DpAll.length hd).trans (List.length_map ..)
    have hsC : Sig X.K C.f σ ρ := Sig.mono l.f hsg
    refine ⟨ad, xs, rfl, .inr ⟨ex_t C.ok hl2, fun L hL => ?_⟩⟩
    have hLB : B.h L = none := Le.back l hw o hr.dm hL
    refine lc_it walk_revT (fun i H => CSt X.K C w1 L w1 ((l0.reverse.take i).map f) H) ?_ ?_ ?_ ?_
    · exact ⟨C.put L (.lst []) (HH.free hL), [], rfl, HH.put_le hL, o.step (HH.put_le (S := []) hL) (by simp), upd_same, HH.free (B := C) hL, .nil⟩
    · rintro i H hin ⟨C2, vs2, rfl, l2, _⟩
      exact ex_t C2.ok (ex_t l2.f hl2)
    · rintro i y H H' hin hC ⟨rfl, hxi⟩
      have hlt : i < l0.length := by omega
      have hj : l0.length - 1 - i < l0.length := by omega
      obtain ⟨vv, h1, h2⟩ := DpAll.get hd (show (l0.map t0)[l0.length - 1 - i]? = some (t0 l0[l0.length - 1 - i]) by rw [List.getElem?_map, List.getElem?_eq_getElem hj]; rfl)
      rw [← el] at h1
      have ev : vv = y := Option.some.inj (h1.symm.trans hxi)
      subst ev
      obtain ⟨u, v2, ey, hbb⟩ := hb _ (List.getElem_mem hj)
      rw [ey] at h2
      obtain ⟨C2, vs2, rfl, l2, o2, g1, g2, g3⟩ := hC
      cases h2 with
      | tup hp2 hd2 =>
        rename_i ap xp
        cases hd2 with
        | cons r1 t1 =>
          cases t1 with
          | cons r2 t2 =>
            cases t2
            refine ⟨_, _, rfl, ex_t C2.ok (ex_t l2.f hp2), rfl, _, _, rfl, _, _, rfl, rfl, ?_⟩
            refine ⟨?_, ?_⟩
            · show wipe (((wipe σ [i1, i2]).set i1 _).set i2 _) [i1, i2] = wipe σ [i1, i2]
              simp only [wipe]
              apply List.ext_getElem?
              intro m
              simp only [List.getElem?_set, List.length_set]
              split <;> split <;> simp_all
            · refine iteT (B := CSt X.K C w1 L w1 ((l0.reverse.take (i + 1)).map f) C2.h) ?_
              have k := comp_step (X := X) (σ := ((wipe σ [i1, i2]).set i1 (some _)).set i2 (some _)) hbb rfl hL o (fun E l3 => Paired.set (slot_dat (Dp.mono l3.f r2)) i2 (Paired.set (slot_dat (Dp.mono l3.f r1)) i1 (Sig.wipe (Sig.mono l3.f hsC) [i1, i2]))) ⟨C2, vs2, rfl, l2, o2, g1, g2, g3⟩ (by rw [List.length_map, List.length_take]; omega)
              rw [rev_take l0 i hlt, List.map_append]
              exact k
    · rintro H ⟨C2, vs2, rfl, l2, o2, h1, h2, h3⟩
      rw [List.take_of_length_le (by rw [List.length_reverse]; omega)] at h3
      exact q L vs2 C2 hLB (lift2 (S := w) hr.dm l o l2) o2 h1 h2 h3
theorem pe_compRev (i1 i2 : Nat) {elt it : Expr} {scope : Scope} {px py pt pr pc : Pos} {y : Str} {kt : Nat} (ok : BlkOk X.N X.env.scope scope [(x, i1), (y, i2)]) (hc : X.calm = true) (hN : X.N.Nodup) (hm : X.mg "reversed" = none) (hg : Gl X "reversed" := by rfl) (hi : X.N[i1]? = some x := by rfl) (hj : X.N[i2]? = some y := by rfl) (hx : Loc (relabel scope X.env) x := by first | exact Or.inl rfl | exact Or.inr rfl) (hy : Loc (relabel scope X.env) y := by first | exact Or.inl rfl | exact Or.inr rfl)
    (hf : (scope.names.lookup x == some .cell) = true ∨ (relabel scope X.env).names.lookup x = some .local := by first | exact .inr rfl | exact .inl rfl) (hfy : (scope.names.lookup y == some .cell) = true ∨ (relabel scope X.env).names.lookup y = some .local := by first | exact .inr rfl | exact .inl rfl)
    (hst : starEach [it] X.env = (false, eval it X.env) :: starEach [] X.env := by rfl) (hfs : ∀ z, foldedSetIterable (.Call (.Name "reversed" pr) [it] [] pc) X.env z = pure z := by intro _; rfl) 
    (h1 : ∀ (s : Shared) (H : Hp) (C : Addr) (cl : List (Str × Addr)) (fp : List Addr), (assignEach [.Name x px, .Name y py] (X.blk s H scope (compEnvC scope cl C X.env) fp).env).map (·.2) = assign (.Name x px) (X.blk s H scope (compEnvC scope cl C X.env) fp).env :: (assignEach [.Name y py] (X.blk s H scope (compEnvC scope cl C X.env) fp).env).map (·.2) := by intros; rfl)
    (h2 : ∀ (s : Shared) (H : Hp) (C : Addr) (cl : List (Str × Addr)) (fp : List Addr), (assignEach [.Name y py] (X.blk s H scope (compEnvC scope cl C X.env) fp).env).map (·.2) = assign (.Name y py) (X.blk s H scope (compEnvC scope cl C X.env) fp).env :: (assignEach [] (X.blk s H scope (compEnvC scope cl C X.env) fp).env).map (·.2) := by intros; rfl)
    (h3 : ∀ (s : Shared) (H : Hp) (C : Addr) (cl : List (Str × Addr)) (fp : List Addr), (assignEach [.Name x px, .Name y py] (X.blk s H scope (compEnvC scope cl C X.env) fp).env).length = 2 := by intros; rfl)
    (h4 : ∀ (s : Shared) (H : Hp) (C : Addr) (cl : List (Str × Addr)) (fp : List Addr), (assignEach [.Name x px, .Name y py] (X.blk s H scope (compEnvC scope cl C X.env) fp).env).findIdx? (·.1) = none := by intros; rfl) :
    PE X (.ListComp elt [⟨.Tuple [.Name x px, .Name y py] kt pt, .Call (.Name "reversed" pr) [it] [] pc, [], 0⟩] scope pos) (tLc (RT.iRevA X.K (wE X it)) (gPair X.K i1 i2) tYes (tBlk X scope elt) [i1, i2]) :=
  pe_lc (own := [(x, i1), (y, i2)]) hc hN (RT.pi_revA hg hm pe_w hst) ok (fun s H C cl fp => pg_tup hc (pgs_cons (pg_name hN hi hx hf) (pgs_cons (pg_name hN hj hy hfy) pgs_nil (h2 s H C cl fp)) (h1 s H C cl fp)) (h3 s H C cl fp) (h4 s H C cl fp)) (fun s H C cl fp => pts_nil) (fun s H C cl fp => ⟨fun pins s' σ H Q I h => h s _ C cl fp pins s' I⟩) hfs
end
end Pm

namespace Q
open PySem PySem.Spec PyProof.Rows L2 Evl Pm
def top (i : Nat) : Stmt := PySem.Challenge.pw_phasemill_k55_ends_circuit.main.body.getD i (.Pass ⟨0, 0, 0, 0⟩)
abbrev s_inverse_gate : Stmt := top 2
abbrev N_inverse_gate : List Str := ["name"]
theorem sc_inverse_gate : FnScope N_inverse_gate ["name"] (defScope s_inverse_gate) := ⟨rfl, rfl, rfl, by decide +kernel, rfl, by decide +kernel, by decide +kernel⟩
abbrev s_inverse_circuit : Stmt := top 4
abbrev N_inverse_circuit : List Str := ["circuit", "name", "places"]
theorem sc_inverse_circuit : FnScope N_inverse_circuit ["circuit"] (defScope s_inverse_circuit) := ⟨rfl, rfl, rfl, by decide +kernel, rfl, by decide +kernel, by decide +kernel⟩
abbrev s_phase_gates : Stmt := top 7
abbrev N_phase_gates : List Str := ["power", "place", "name"]
theorem sc_phase_gates : FnScope N_phase_gates ["power", "place"] (defScope s_phase_gates) := ⟨rfl, rfl, rfl, by decide +kernel, rfl, by decide +kernel, by decide +kernel⟩
abbrev s_omega_gates : Stmt := top 8
abbrev N_omega_gates : List Str := ["power"]
theorem sc_omega_gates : FnScope N_omega_gates ["power"] (defScope s_omega_gates) := ⟨rfl, rfl, rfl, by decide +kernel, rfl, by decide +kernel, by decide +kernel⟩
abbrev s_narrow_ccz : Stmt := top 9
abbrev N_narrow_ccz : List Str := ["a", "b", "c"]
theorem sc_narrow_ccz : FnScope N_narrow_ccz ["a", "b", "c"] (defScope s_narrow_ccz) := ⟨rfl, rfl, rfl, by decide +kernel, rfl, by decide +kernel, by decide +kernel⟩
abbrev s_narrow_ccx : Stmt := top 10
abbrev N_narrow_ccx : List Str := ["a", "b", "c"]
theorem sc_narrow_ccx : FnScope N_narrow_ccx ["a", "b", "c"] (defScope s_narrow_ccx) := ⟨rfl, rfl, rfl, by decide +kernel, rfl, by decide +kernel, by decide +kernel⟩
abbrev s__index_bits : Stmt := top 11
abbrev N__index_bits : List Str := ["index", "n", "place"]
theorem sc__index_bits : FnScope N__index_bits ["index", "n"] (defScope s__index_bits) := ⟨rfl, rfl, rfl, by decide +kernel, rfl, by decide +kernel, by decide +kernel⟩
abbrev s_brought_together : Stmt := top 12
abbrev N_brought_together : List Str := ["low", "high", "n", "low_bits", "high_bits", "others", "place", "other", "circuit"]
theorem sc_brought_together : FnScope N_brought_together ["low", "high", "n"] (defScope s_brought_together) := ⟨rfl, rfl, rfl, by decide +kernel, rfl, by decide +kernel, by decide +kernel⟩
abbrev s_ends_circuit : Stmt := top 14
abbrev N_ends_circuit : List Str := ["ends"]
theorem sc_ends_circuit : FnScope N_ends_circuit ["ends"] (defScope s_ends_circuit) := ⟨rfl, rfl, rfl, by decide +kernel, rfl, by decide +kernel, by decide +kernel⟩
abbrev s__two_qubit_ends : Stmt := top 15
abbrev N__two_qubit_ends : List Str := ["ends", "joint", "half", "circuit", "mark"]
theorem sc__two_qubit_ends : FnScope N__two_qubit_ends ["ends"] (defScope s__two_qubit_ends) := ⟨rfl, rfl, rfl, by decide +kernel, rfl, by decide +kernel, by decide +kernel⟩
abbrev s__three_qubit_ends : Stmt := top 16
abbrev N__three_qubit_ends : List Str := ["ends", "circuit", "index", "missing", "mark"]
theorem sc__three_qubit_ends : FnScope N__three_qubit_ends ["ends"] (defScope s__three_qubit_ends) := ⟨rfl, rfl, rfl, by decide +kernel, rfl, by decide +kernel, by decide +kernel⟩
abbrev s__opposite_phases : Stmt := top 17
abbrev N__opposite_phases : List Str := ["index", "power", "place", "gather", "others", "other", "flip", "phase", "middle"]
theorem sc__opposite_phases : FnScope N__opposite_phases ["index", "power"] (defScope s__opposite_phases) := ⟨rfl, rfl, rfl, by decide +kernel, rfl, by decide +kernel, by decide +kernel⟩
abbrev s__paired_signs : Stmt := top 18
abbrev N__paired_signs : List Str := ["extra", "once"]
theorem sc__paired_signs : FnScope N__paired_signs ["extra"] (defScope s__paired_signs) := ⟨rfl, rfl, rfl, by decide +kernel, rfl, by decide +kernel, by decide +kernel⟩
abbrev s__mark_both : Stmt := top 19
abbrev N__mark_both : List Str := ["extra", "turn"]
theorem sc__mark_both : FnScope N__mark_both ["extra"] (defScope s__mark_both) := ⟨rfl, rfl, rfl, by decide +kernel, rfl, by decide +kernel, by decide +kernel⟩
abbrev s__mark_all : Stmt := top 20
abbrev N__mark_all : List Str := ["extra", "turn", "flip", "side"]
theorem sc__mark_all : FnScope N__mark_all ["extra"] (defScope s__mark_all) := ⟨rfl, rfl, rfl, by decide +kernel, rfl, by decide +kernel, by decide +kernel⟩
abbrev s__law_source : Stmt := top 22
abbrev N__law_source : List Str := ["script", "seed", "cell", "great"]
theorem sc__law_source : FnScope N__law_source ["script"] (defScope s__law_source) := ⟨rfl, rfl, rfl, by decide +kernel, rfl, by decide +kernel, by decide +kernel⟩
abbrev s__law_draw : Stmt := top 23
abbrev N__law_draw : List Str := ["source", "many", "told", "x"]
theorem sc__law_draw : FnScope N__law_draw ["source", "many"] (defScope s__law_draw) := ⟨rfl, rfl, rfl, by decide +kernel, rfl, by decide +kernel, by decide +kernel⟩
abbrev s__law_same : Stmt := top 24
abbrev N__law_same : List Str := ["told", "due", "k"]
theorem sc__law_same : FnScope N__law_same ["told", "due"] (defScope s__law_same) := ⟨rfl, rfl, rfl, by decide +kernel, rfl, by decide +kernel, by decide +kernel⟩
abbrev s__law_form : Stmt := top 25
abbrev N__law_form : List Str := ["a", "b", "c", "d", "k", "turn"]
theorem sc__law_form : FnScope N__law_form ["a", "b", "c", "d", "k"] (defScope s__law_form) := ⟨rfl, rfl, rfl, by decide +kernel, rfl, by decide +kernel, by decide +kernel⟩
abbrev s__law_add : Stmt := top 26
abbrev N__law_add : List Str := ["x", "y"]
theorem sc__law_add : FnScope N__law_add ["x", "y"] (defScope s__law_add) := ⟨rfl, rfl, rfl, by decide +kernel, rfl, by decide +kernel, by decide +kernel⟩
abbrev s__law_turned : Stmt := top 27
abbrev N__law_turned : List Str := ["x", "j", "row", "turn"]
theorem sc__law_turned : FnScope N__law_turned ["x", "j"] (defScope s__law_turned) := ⟨rfl, rfl, rfl, by decide +kernel, rfl, by decide +kernel, by decide +kernel⟩
abbrev s__law_arity : Stmt := top 28
abbrev N__law_arity : List Str := ["name"]
theorem sc__law_arity : FnScope N__law_arity ["name"] (defScope s__law_arity) := ⟨rfl, rfl, rfl, by decide +kernel, rfl, by decide +kernel, by decide +kernel⟩
abbrev s__law_mask : Stmt := top 29
abbrev N__law_mask : List Str := ["n", "place", "mask", "turn"]
theorem sc__law_mask : FnScope N__law_mask ["n", "place"] (defScope s__law_mask) := ⟨rfl, rfl, rfl, by decide +kernel, rfl, by decide +kernel, by decide +kernel⟩
abbrev s__law_way : Stmt := top 30
abbrev N__law_way : List Str := ["name", "masks", "i", "on", "mask"]
theorem sc__law_way : FnScope N__law_way ["name", "masks", "i"] (defScope s__law_way) := ⟨rfl, rfl, rfl, by decide +kernel, rfl, by decide +kernel, by decide +kernel⟩
abbrev s__law_is_circuit : Stmt := top 31
abbrev N__law_is_circuit : List Str := ["circuit", "n", "most", "known", "gate", "k", "q"]
theorem sc__law_is_circuit : FnScope N__law_is_circuit ["circuit", "n", "most", "known"] (defScope s__law_is_circuit) := ⟨rfl, rfl, rfl, by decide +kernel, rfl, by decide +kernel, by decide +kernel⟩
abbrev s__law_gain : Stmt := top 32
abbrev N__law_gain : List Str := ["state", "index", "x", "old"]
theorem sc__law_gain : FnScope N__law_gain ["state", "index", "x"] (defScope s__law_gain) := ⟨rfl, rfl, rfl, by decide +kernel, rfl, by decide +kernel, by decide +kernel⟩
abbrev s__law_after : Stmt := top 33
abbrev N__law_after : List Str := ["state", "name", "masks", "out", "index", "x", "on", "way", "kept"]
theorem sc__law_after : FnScope N__law_after ["state", "name", "masks"] (defScope s__law_after) := ⟨rfl, rfl, rfl, by decide +kernel, rfl, by decide +kernel, by decide +kernel⟩
abbrev s__law_ends : Stmt := top 34
abbrev N__law_ends : List Str := ["source", "size", "kind", "ends", "turn", "value"]
theorem sc__law_ends : FnScope N__law_ends ["source", "size"] (defScope s__law_ends) := ⟨rfl, rfl, rfl, by decide +kernel, rfl, by decide +kernel, by decide +kernel⟩
abbrev s__law_extra : Stmt := top 35
abbrev N__law_extra : List Str := ["ends"]
theorem sc__law_extra : FnScope N__law_extra ["ends"] (defScope s__law_extra) := ⟨rfl, rfl, rfl, by decide +kernel, rfl, by decide +kernel, by decide +kernel⟩
abbrev s__law_makes : Stmt := top 36
abbrev N__law_makes : List Str := ["ends", "n", "told", "known", "extra", "gates", "place", "gate", "depth", "index", "start", "state", "x", "due"]
theorem sc__law_makes : FnScope N__law_makes ["ends", "n"] (defScope s__law_makes) := ⟨rfl, rfl, rfl, by decide +kernel, rfl, by decide +kernel, by decide +kernel⟩
abbrev s_law : Stmt := top 37
abbrev N_law : List Str := ["script", "source", "kept", "turn", "n", "ends", "told"]
theorem sc_law : FnScope N_law ["script"] (defScope s_law) := ⟨rfl, rfl, rfl, by decide +kernel, rfl, by decide +kernel, by decide +kernel⟩
end Q

namespace Q
/-! ### numbers by four integers -/
structure Q4 where
  a : Int
  b : Int
  c : Int
  d : Int
  deriving DecidableEq
structure Q5 where
  a : Int
  b : Int
  c : Int
  d : Int
  k : Int
  deriving DecidableEq
def redQ : Nat → Q4 → Q5
  | 0, x => ⟨x.a, x.b, x.c, x.d, 0⟩
  | k + 1, x => if (x.a + x.c) % 2 = 0 ∧ (x.b + x.d) % 2 = 0 then redQ k ⟨(x.b - x.d) / 2, (x.a + x.c) / 2, (x.b + x.d) / 2, (x.c - x.a) / 2⟩ else ⟨x.a, x.b, x.c, x.d, (k : Int) + 1⟩
theorem redQ_succ {k : Nat} {x : Q4} : redQ (k + 1) x = if (x.a + x.c) % 2 = 0 ∧ (x.b + x.d) % 2 = 0 then redQ k ⟨(x.b - x.d) / 2, (x.a + x.c) / 2, (x.b + x.d) / 2, (x.c - x.a) / 2⟩ else ⟨x.a, x.b, x.c, x.d, (k : Int) + 1⟩ := rfl
def add4 (x y : Q4) : Q4 := ⟨x.a + y.a, x.b + y.b, x.c + y.c, x.d + y.d⟩
def turn4 (x : Q4) : Q4 := ⟨0 - x.d, x.a, x.b, x.c⟩
def turnN : Nat → Q4 → Q4
  | 0, x => x
  | n + 1, x => turnN n (turn4 x)
def z4 : Q4 := ⟨0, 0, 0, 0⟩
def one4 : Q4 := ⟨1, 0, 0, 0⟩
def isZ (x : Q4) : Bool := decide (x.a = 0) && (decide (x.b = 0) && (decide (x.c = 0) && decide (x.d = 0)))
def scN (k : Int) (x : Q4) : Q4 := ⟨k * x.a, k * x.b, k * x.c, k * x.d⟩

/-! ### gates by codes -/
abbrev G := Nat × List Nat
def inv1 : Nat → Nat
  | 0 => 1
  | 1 => 0
  | 6 => 7
  | 7 => 6
  | 8 => 9
  | 9 => 8
  | k => k
def invC (gs : List G) : List G := gs.reverse.map fun g => (inv1 g.1, g.2)
def phW : Nat → List Nat
  | 0 => []
  | 1 => [8]
  | 2 => [6]
  | 3 => [6, 8]
  | 4 => [4]
  | 5 => [4, 8]
  | 6 => [7]
  | _ => [9]
def phG (p q : Nat) : List G := (phW p).map fun k => (k, [q])
def omG (p : Nat) : List G := List.replicate p (0, [])
def ccz (a b c : Nat) : List G := [(10, [b, c]), (9, [c]), (10, [a, c]), (8, [c]), (10, [b, c]), (9, [c]), (10, [a, c]), (8, [c]), (8, [b]), (10, [a, b]), (8, [a]), (9, [b]), (10, [a, b])]
def ccx (a b c : Nat) : List G := [(5, [c])] ++ ccz a b c ++ [(5, [c])]
def bitN (i p : Nat) : Nat := i / 2 ^ (2 - p) % 2
def btP (i : Nat) : Nat := if bitN i 0 = 0 then 0 else if bitN i 1 = 0 then 1 else 2
def btO (i : Nat) : List Nat := [0, 1, 2].filter fun q => decide (q ≠ btP i)
def btG (i : Nat) : List G := ((btO i).filter fun q => decide (bitN i q = 0)).map (fun q => (10, [btP i, q])) ++ ((btO i).filter fun q => decide (bitN i q = 0)).map fun q => (2, [q])
def midG (i p : Nat) : List G :=
  let fl := ccx ((btO i).getD 0 0) ((btO i).getD 1 0) (btP i)
  fl ++ phG p (btP i) ++ fl ++ invC (phG p (btP i))
def oppG (i p : Nat) : List G := btG i ++ midG i p ++ invC (btG i)
def onceG (e : Nat) : List G := [(10, [0, e]), (8, [e]), (10, [1, e]), (9, [e])]
def pairG (e : Nat) : List G := onceG e ++ onceG e
def markB (e : Nat) : List G := [(5, [e])] ++ pairG e ++ [(5, [e])]
def sideA (e : Nat) : List G := [(5, [e])] ++ [(8, [e]), (10, [2, e]), (9, [e])] ++ [(5, [e])]
def markA (e : Nat) : List G := sideA e ++ pairG e ++ sideA e
def m8 (x : Int) : Nat := (x % 8).toNat
def twoG (e0 e1 e2 e3 : Int) : List G × Nat :=
  let j := e0 - e1 - e2 + e3
  let h := j / 2
  let c := omG (m8 e0) ++ phG (m8 (e2 - e0 + h)) 0 ++ phG (m8 (e1 - e0 + h)) 1 ++ (if h % 8 ≠ 0 then [(10, [0, 1])] ++ phG (m8 (-h)) 1 ++ [(10, [0, 1])] else [])
  if j % 2 = 0 then (c, 0) else (c ++ markB 2 ++ phG (m8 1) 2 ++ invC (markB 2), 1)
def oppE (i : Nat) (p : Int) : List G := if p ≠ 0 then oppG i (m8 p) else []
def circE : Nat → List Int → List G
  | i, e :: es => oppE i e ++ circE (i + 1) es
  | _, [] => []
def threeG (es : List Int) : List G × Nat :=
  let c := circE 0 (es.take 7)
  let m := es.sum % 8
  if m = 0 then (c, 0) else if m = 4 then (c ++ ccz 0 1 2, 0) else (c ++ markA 3 ++ phG (m8 m) 3 ++ invC (markA 3), 1)

/-! ### the law's simulation -/
abbrev St4 := List (Nat × Q4)
def getS : St4 → Nat → Option Q4
  | [], _ => none
  | (j, x) :: r, i => if j = i then some x else getS r i
def hasS (st : St4) (i : Nat) : Bool := (getS st i).isSome
def putS (st : St4) (i : Nat) (x : Q4) : St4 := if hasS st i = true then st.map (fun p => if p.1 = i then (p.1, x) else p) else st ++ [(i, x)]
def gain (st : St4) (i : Nat) (x : Q4) : St4 := putS st i (add4 ((getS st i).getD z4) x)
def onB (i m : Nat) : Nat := if 0 < i &&& m then 1 else 0
def phC : Nat → Option Nat
  | 4 => some 4
  | 6 => some 2
  | 7 => some 6
  | 8 => some 1
  | 9 => some 7
  | _ => none
/-- where a gate that is no h leads a basis state, and the power of w -/
def wayN (k : Nat) (ms : List Nat) (i : Nat) : Nat × Nat :=
  if k = 0 then (i, 1) else if k = 1 then (i, 7) else
  match phC k with
  | some p => (i, onB i (ms.getD 0 0) * p)
  | none =>
    if k = 2 then (i ^^^ ms.getD 0 0, 0) else if k = 3 then (i ^^^ ms.getD 0 0, 2 + 4 * onB i (ms.getD 0 0)) else
    if k = 12 then (if onB i (ms.getD 0 0) = onB i (ms.getD 1 0) then (i, 0) else (i ^^^ ms.getD 0 0 ^^^ ms.getD 1 0, 0)) else
    if onB i (ms.getD 0 0) = 0 then (i, 0) else if k = 11 then (i, 4 * onB i (ms.getD 1 0)) else (i ^^^ ms.getD 1 0, 0)
def stepN (k : Nat) (ms : List Nat) (o : St4) (i : Nat) (x : Q4) : St4 :=
  if k = 5 then
    let on := onB i (ms.getD 0 0)
    let i0 := i - on * ms.getD 0 0
    gain (gain o i0 x) (i0 + ms.getD 0 0) (turnN (4 * on) x)
  else putS o (wayN k ms i).1 (turnN ((wayN k ms i).2 % 8) x)
def outN (k : Nat) (ms : List Nat) (st : St4) : St4 → St4 → St4
  | [], o => o
  | p :: r, o => outN k ms st r (stepN k ms o p.1 ((getS st p.1).getD z4))
def keepN (out : St4) : St4 → St4 → St4
  | [], o => o
  | p :: r, o => keepN out r (if isZ ((getS out p.1).getD z4) = true then o else putS o p.1 ((getS out p.1).getD z4))
def afterN (k : Nat) (ms : List Nat) (st : St4) : St4 := keepN (outN k ms st st []) (outN k ms st st []) []
def maskN (n p : Nat) : Nat := 2 ^ (n - 1 - p)
/-- none: a state came to be too long -/
def simN (n : Nat) : List G → St4 → Option St4
  | [], st => some st
  | g :: gs, st => if st.length ≤ 100 then simN n gs (afterN g.1 (g.2.map (maskN n)) st) else none
def arN : Nat → Nat
  | 0 => 0
  | 1 => 0
  | 10 => 2
  | 11 => 2
  | 12 => 2
  | _ => 1
def distN : List Nat → Bool
  | [] => true
  | q :: r => !(r.any fun p => decide (p = q)) && distN r
def okG (n : Nat) (g : G) : Bool := decide (g.1 < 13) && (decide (g.2.length = arN g.1) && ((g.2.all fun q => decide (q < n)) && distN g.2))
def hN (gs : List G) : Nat := (gs.filter fun g => decide (g.1 = 5)).length
def sc (c p : Nat) : Q4 := scN (2 ^ c) (turnN (p % 8) one4)
/-- a block: good gates, 2 c gates h, basis state i (the extra qubit at 0) goes to itself times w^(f i) 2^c -/
def blkR (n ex : Nat) (gs : List G) (c : Nat) : List Nat → Nat → Bool
  | [], _ => true
  | p :: ps, i => decide (simN n gs [(i * (1 + ex), one4)] = some [(i * (1 + ex), sc c p)]) && blkR n ex gs c ps (i + 1)
def blkB (n ex : Nat) (gs : List G) (c : Nat) (fs : List Nat) : Bool := (gs.all (okG n)) && (decide (hN gs = 2 * c) && blkR n ex gs c fs 0)
def effO (i p : Nat) : List Nat := (List.range 8).map fun j => if j = i then p else if j = 7 then (8 - p) % 8 else 0
def allO (n ex i : Nat) : Bool := (List.range 8).all fun p => blkB n ex (oppG i p) 2 (effO i p)
end Q

namespace Q
/-! ### numbers -/
theorem Q4.ext' {x y : Q4} (h1 : x.a = y.a) (h2 : x.b = y.b) (h3 : x.c = y.c) (h4 : x.d = y.d) : x = y := by
  cases x; cases y; simp only at h1 h2 h3 h4; subst h1 h2 h3 h4; rfl
theorem turnN_add : ∀ (n m : Nat) (x : Q4), turnN (n + m) x = turnN m (turnN n x)
  | 0, m, x => by rw [Nat.zero_add]; rfl
  | n + 1, m, x => by rw [show n + 1 + m = (n + m) + 1 by omega]; exact turnN_add n m (turn4 x)
theorem turn8 (x : Q4) : turnN 8 x = x := by
  apply Q4.ext' <;> simp only [turnN, turn4] <;> omega
theorem turnN_mod (n : Nat) (x : Q4) : turnN (n % 8) x = turnN n x := by
  have h : ∀ (k m : Nat) (x : Q4), turnN (m + 8 * k) x = turnN m x := by
    intro k
    induction k with
    | zero => intro m x; rfl
    | succ k ih =>
      intro m x
      rw [show m + 8 * (k + 1) = 8 + (m + 8 * k) by omega, turnN_add, turn8]
      exact ih m x
  have e := h (n / 8) (n % 8) x
  rw [Nat.mod_add_div] at e
  exact e.symm
theorem turn_sc (k : Int) (x : Q4) : turn4 (scN k x) = scN k (turn4 x) := by
  apply Q4.ext' <;> simp only [turn4, scN]
  rw [Int.mul_sub, Int.mul_zero]
theorem turnN_sc (k : Int) : ∀ (n : Nat) (x : Q4), turnN n (scN k x) = scN k (turnN n x)
  | 0, _ => rfl
  | n + 1, x => by
    show turnN n (turn4 (scN k x)) = scN k (turnN n (turn4 x))
    rw [turn_sc, turnN_sc k n]
theorem sc_sc (k l : Int) (x : Q4) : scN k (scN l x) = scN (k * l) x := by
  apply Q4.ext' <;> simp only [scN, Int.mul_assoc]
/-- what scales and turns -/
structure Hom (φ : Q4 → Q4) : Prop where
  add : ∀ x y, φ (add4 x y) = add4 (φ x) (φ y)
  turn : ∀ x, φ (turn4 x) = turn4 (φ x)
  z : φ z4 = z4
  iz : ∀ x, isZ (φ x) = isZ x
theorem isZ_iff (x : Q4) : isZ x = true ↔ x = z4 := by
  unfold isZ
  simp only [Bool.and_eq_true, decide_eq_true_eq]
  constructor
  · rintro ⟨h1, h2, h3, h4⟩
    exact Q4.ext' h1 h2 h3 h4
  · rintro rfl
    exact ⟨rfl, rfl, rfl, rfl⟩
theorem Hom.comp {φ ψ : Q4 → Q4} (h : Hom φ) (k : Hom ψ) : Hom fun x => φ (ψ x) :=
  ⟨fun x y => by rw [k.add, h.add], fun x => by rw [k.turn, h.turn], by rw [k.z, h.z], fun x => by rw [h.iz, k.iz]⟩
theorem hom_sc {k : Int} (hk : k ≠ 0) : Hom (scN k) := by
  refine ⟨fun x y => ?_, fun x => (turn_sc k x).symm, ?_, fun x => ?_⟩
  · apply Q4.ext' <;> simp only [scN, add4, Int.mul_add]
  · apply Q4.ext' <;> simp only [scN, z4, Int.mul_zero]
  · unfold isZ scN
    simp only [Int.mul_eq_zero, hk, false_or]
theorem hom_turn : Hom turn4 := by
  refine ⟨fun x y => ?_, fun x => rfl, rfl, fun x => ?_⟩
  · apply Q4.ext' <;> simp only [turn4, add4] <;> omega
  · rw [Bool.eq_iff_iff, isZ_iff, isZ_iff]
    constructor
    · intro h
      have h1 := congrArg Q4.a h; have h2 := congrArg Q4.b h; have h3 := congrArg Q4.c h; have h4 := congrArg Q4.d h
      simp only [turn4, z4] at h1 h2 h3 h4
      apply Q4.ext' <;> simp only [z4] <;> omega
    · rintro rfl; rfl
theorem hom_turnN : ∀ n : Nat, Hom (turnN n)
  | 0 => ⟨fun _ _ => rfl, fun _ => rfl, rfl, fun _ => rfl⟩
  | n + 1 => (hom_turnN n).comp hom_turn
theorem Hom.turnN {φ : Q4 → Q4} (h : Hom φ) : ∀ (n : Nat) (x : Q4), φ (turnN n x) = Q.turnN n (φ x)
  | 0, _ => rfl
  | n + 1, x => by
    show φ (Q.turnN n (turn4 x)) = Q.turnN n (turn4 (φ x))
    rw [h.turnN n, h.turn]

/-! ### the simulation is homogeneous -/
def mapS (φ : Q4 → Q4) (st : St4) : St4 := st.map fun p => (p.1, φ p.2)
section
variable {φ : Q4 → Q4}
theorem getS_map (st : St4) (i : Nat) : getS (mapS φ st) i = (getS st i).map φ := by
  induction st with
  | nil => rfl
  | cons p r ih =>
    show (if p.1 = i then some (φ p.2) else getS (mapS φ r) i) = (if p.1 = i then some p.2 else getS r i).map φ
    split
    · rfl
    · exact ih
theorem has_map (st : St4) (i : Nat) : hasS (mapS φ st) i = hasS st i := by
  unfold hasS
  rw [getS_map]
  cases getS st i <;> rfl
theorem getD_map (h : Hom φ) (st : St4) (i : Nat) : (getS (mapS φ st) i).getD z4 = φ ((getS st i).getD z4) := by
  rw [getS_map]
  cases getS st i with
  | none => exact h.z.symm
  | some x => rfl
theorem put_map (st : St4) (i : Nat) (x : Q4) : putS (mapS φ st) i (φ x) = mapS φ (putS st i x) := by
  unfold putS
  rw [has_map]
  split
  · unfold mapS
    rw [List.map_map, List.map_map]
    apply List.map_congr_left
    intro p _
    show (if p.1 = i then (p.1, φ x) else (p.1, φ p.2)) = ((if p.1 = i then (p.1, x) else p).1, φ (if p.1 = i then (p.1, x) else p).2)
    split <;> rfl
  · unfold mapS
    rw [List.map_append]
    rfl
theorem gain_map (h : Hom φ) (st : St4) (i : Nat) (x : Q4) : gain (mapS φ st) i (φ x) = mapS φ (gain st i x) := by
  unfold gain
  rw [getD_map h, ← h.add, put_map]
theorem step_map (h : Hom φ) (k : Nat) (ms : List Nat) (o : St4) (i : Nat) (x : Q4) : stepN k ms (mapS φ o) i (φ x) = mapS φ (stepN k ms o i x) := by
  unfold stepN
  split
  · dsimp only
    rw [gain_map h, ← h.turnN, gain_map h]
  · rw [← h.turnN, put_map]
theorem out_map (h : Hom φ) (k : Nat) (ms : List Nat) (st : St4) : ∀ (r o : St4), outN k ms (mapS φ st) (mapS φ r) (mapS φ o) = mapS φ (outN k ms st r o)
  | [], o => rfl
  | p :: r, o => by
    show outN k ms (mapS φ st) (mapS φ r) (stepN k ms (mapS φ o) p.1 ((getS (mapS φ st) p.1).getD z4)) = _
    rw [getD_map h, step_map h, out_map h k ms st r]
    rfl
theorem keep_map (h : Hom φ) (out : St4) : ∀ (r o : St4), keepN (mapS φ out) (mapS φ r) (mapS φ o) = mapS φ (keepN out r o)
  | [], o => rfl
  | p :: r, o => by
    show keepN (mapS φ out) (mapS φ r) (if isZ ((getS (mapS φ out) p.1).getD z4) = true then mapS φ o else putS (mapS φ o) p.1 ((getS (mapS φ out) p.1).getD z4)) = mapS φ (keepN out r (if isZ ((getS out p.1).getD z4) = true then o else putS o p.1 ((getS out p.1).getD z4)))
    rw [getD_map h, h.iz, put_map]
    split
    · exact keep_map h out r _
    · exact keep_map h out r _
theorem after_map (h : Hom φ) (k : Nat) (ms : List Nat) (st : St4) : afterN k ms (mapS φ st) = mapS φ (afterN k ms st) := by
  unfold afterN
  have e : outN k ms (mapS φ st) (mapS φ st) [] = mapS φ (outN k ms st st []) := out_map h k ms st st []
  rw [e]
  exact keep_map h _ _ []
theorem sim_map (h : Hom φ) (n : Nat) : ∀ (gs : List G) (st : St4), simN n gs (mapS φ st) = (simN n gs st).map (mapS φ)
  | [], _ => rfl
  | g :: gs, st => by
    show (if (mapS φ st).length ≤ 100 then simN n gs (afterN g.1 (g.2.map (maskN n)) (mapS φ st)) else none) = (if st.length ≤ 100 then simN n gs (afterN g.1 (g.2.map (maskN n)) st) else none).map (mapS φ)
    have el : (mapS φ st).length = st.length := List.length_map ..
    rw [el, after_map h, sim_map h n gs]
    split <;> rfl
end
theorem sim_app (n : Nat) : ∀ (g1 g2 : List G) (st : St4), simN n (g1 ++ g2) st = (simN n g1 st).bind (simN n g2)
  | [], _, _ => rfl
  | g :: g1, g2, st => by
    show (if st.length ≤ 100 then simN n (g1 ++ g2) (afterN g.1 (g.2.map (maskN n)) st) else none) = (if st.length ≤ 100 then simN n g1 (afterN g.1 (g.2.map (maskN n)) st) else none).bind (simN n g2)
    split
    · exact sim_app n g1 g2 _
    · rfl

/-! ### blocks -/
def Blk (n ex len : Nat) (gs : List G) (f : Nat → Nat) : Prop := gs.all (okG n) = true ∧ ∃ c, hN gs = 2 * c ∧ ∀ j, j < len → simN n gs [(j * (1 + ex), one4)] = some [(j * (1 + ex), sc c (f j))]
theorem sc_mul (c1 c2 p1 p2 : Nat) : scN (2 ^ c1) (turnN (p1 % 8) (sc c2 p2)) = sc (c1 + c2) (p1 + p2) := by
  unfold sc
  rw [turnN_sc, sc_sc, turnN_mod, turnN_mod, turnN_mod, ← turnN_add, Nat.add_comm p2 p1, Int.pow_add]
theorem two_pow_ne (c : Nat) : (2 : Int) ^ c ≠ 0 := Int.pow_ne_zero (by decide)
theorem Blk.app {n ex len : Nat} {g1 g2 : List G} {f1 f2 : Nat → Nat} (h1 : Blk n ex len g1 f1) (h2 : Blk n ex len g2 f2) : Blk n ex len (g1 ++ g2) fun j => f1 j + f2 j := by
  obtain ⟨a1, c1, b1, s1⟩ := h1
  obtain ⟨a2, c2, b2, s2⟩ := h2
  refine ⟨by rw [List.all_append, a1, a2]; rfl, c1 + c2, ?_, fun j hj => ?_⟩
  · unfold hN at b1 b2 ⊢
    rw [List.filter_append, List.length_append, b1, b2]
    omega
  · rw [sim_app, s1 j hj]
    have hom : Hom fun x => scN (2 ^ c1) (turnN (f1 j % 8) x) := (hom_sc (two_pow_ne c1)).comp (hom_turnN _)
    have e := sim_map hom n g2 [(j * (1 + ex), one4)]
    rw [s2 j hj] at e
    have e1 : mapS (fun x => scN (2 ^ c1) (turnN (f1 j % 8) x)) [(j * (1 + ex), one4)] = [(j * (1 + ex), sc c1 (f1 j))] := rfl
    rw [e1] at e
    show simN n g2 [(j * (1 + ex), sc c1 (f1 j))] = _
    rw [e]
    show some [(j * (1 + ex), scN (2 ^ c1) (turnN (f1 j % 8) (sc c2 (f2 j))))] = _
    rw [sc_mul]
theorem Blk.nil {n ex len : Nat} : Blk n ex len [] fun _ => 0 := ⟨rfl, 0, rfl, fun j hj => rfl⟩
theorem Blk.to {n ex len : Nat} {gs : List G} {f g : Nat → Nat} (h : Blk n ex len gs f) (e : ∀ j, j < len → f j % 8 = g j % 8) : Blk n ex len gs g := by
  obtain ⟨a1, c1, b1, s1⟩ := h
  refine ⟨a1, c1, b1, fun j hj => ?_⟩
  rw [s1 j hj]
  unfold sc
  rw [e j hj]
theorem blkR_get {n ex : Nat} {gs : List G} {c : Nat} : ∀ {fs : List Nat} {i j : Nat}, blkR n ex gs c fs i = true → j < fs.length → simN n gs [((i + j) * (1 + ex), one4)] = some [((i + j) * (1 + ex), sc c (fs.getD j 0))]
  | p :: ps, i, 0, h, _ => by
    unfold blkR at h
    exact of_decide_eq_true ((Bool.and_eq_true_iff.mp h).1)
  | p :: ps, i, j + 1, h, hj => by
    unfold blkR at h
    have e := blkR_get (j := j) (Bool.and_eq_true_iff.mp h).2 (by simpa using hj)
    rw [show i + (j + 1) = i + 1 + j by omega]
    exact e
theorem Blk.of {n ex c : Nat} {gs : List G} {fs : List Nat} (h : blkB n ex gs c fs = true) : Blk n ex fs.length gs fun j => fs.getD j 0 := by
  unfold blkB at h
  simp only [Bool.and_eq_true, decide_eq_true_eq] at h
  refine ⟨h.1, c, h.2.1, fun j hj => ?_⟩
  have e := blkR_get (i := 0) h.2.2 hj
  rw [Nat.zero_add] at e
  exact e
/-- the one form of what a block gives -/
theorem red_sc : ∀ (c : Nat) (x : Q4), redQ (2 * c) (scN (2 ^ c) x) = ⟨x.a, x.b, x.c, x.d, 0⟩
  | 0, x => by
    show (⟨_, _, _, _, 0⟩ : Q5) = _
    simp only [scN, Int.pow_zero, Int.one_mul]
  | c + 1, x => by
    have ih := red_sc c x
    rw [show 2 * (c + 1) = (2 * c + 1) + 1 by omega, redQ_succ]
    have hp : (2 : Int) ^ (c + 1) = 2 * 2 ^ c := by rw [Int.pow_succ, Int.mul_comm]
    have e1 : scN (2 ^ (c + 1)) x = ⟨2 * (2 ^ c * x.a), 2 * (2 ^ c * x.b), 2 * (2 ^ c * x.c), 2 * (2 ^ c * x.d)⟩ := by
      apply Q4.ext' <;> simp only [scN, hp, Int.mul_assoc]
    have e2 : scN (2 ^ c) x = ⟨2 ^ c * x.a, 2 ^ c * x.b, 2 ^ c * x.c, 2 ^ c * x.d⟩ := rfl
    rw [e2] at ih
    rw [e1]
    generalize (2 : Int) ^ c * x.a = A at ih ⊢
    generalize (2 : Int) ^ c * x.b = B at ih ⊢
    generalize (2 : Int) ^ c * x.c = C at ih ⊢
    generalize (2 : Int) ^ c * x.d = D at ih ⊢
    rw [if_pos (by dsimp only; constructor <;> omega), redQ_succ, if_pos (by dsimp only; constructor <;> omega), ← ih]
    congr 1
    apply Q4.ext' <;> dsimp only <;> omega
end Q

namespace Q
/-! ### the blocks, shown by running them -/
def f8 (p : Nat → Bool) : Bool := (List.range 8).all p
theorem f8_get {p : Nat → Bool} (h : f8 p = true) {i : Nat} (hi : i < 8) : p i = true := List.all_eq_true.mp h i (List.mem_range.mpr hi)
theorem d2 : f8 (fun a => f8 fun b => blkB 1 0 (omG a ++ phG (m8 ((b : Int) - a)) 0) 0 [a, b]) = true := by decide +kernel
/-- four ends -/
def om4 (n ex : Nat) : Bool := f8 fun p => blkB n ex (omG p) 0 [p, p, p, p]
def ph40 (n ex : Nat) : Bool := f8 fun p => blkB n ex (phG p 0) 0 [0, 0, p, p]
def ph41 (n ex : Nat) : Bool := f8 fun p => blkB n ex (phG p 1) 0 [0, p, 0, p]
def cp4 (n ex : Nat) : Bool := f8 fun p => blkB n ex ([(10, [0, 1])] ++ phG p 1 ++ [(10, [0, 1])]) 0 [0, p, p, 0]
theorem d4 : (om4 2 0 && (ph40 2 0 && (ph41 2 0 && (cp4 2 0 && (om4 3 1 && (ph40 3 1 && (ph41 3 1 && (cp4 3 1 && blkB 3 1 (markB 2 ++ phG (m8 1) 2 ++ invC (markB 2)) 2 [0, 0, 0, 1])))))))) = true := by decide +kernel
/-- eight ends -/
theorem o30 : allO 3 0 0 = true := by decide +kernel
theorem o31 : allO 3 0 1 = true := by decide +kernel
theorem o32 : allO 3 0 2 = true := by decide +kernel
theorem o33 : allO 3 0 3 = true := by decide +kernel
theorem o34 : allO 3 0 4 = true := by decide +kernel
theorem o35 : allO 3 0 5 = true := by decide +kernel
theorem o36 : allO 3 0 6 = true := by decide +kernel
theorem o40 : allO 4 1 0 = true := by decide +kernel
theorem o41 : allO 4 1 1 = true := by decide +kernel
theorem o42 : allO 4 1 2 = true := by decide +kernel
theorem o43 : allO 4 1 3 = true := by decide +kernel
theorem o44 : allO 4 1 4 = true := by decide +kernel
theorem o45 : allO 4 1 5 = true := by decide +kernel
theorem o46 : allO 4 1 6 = true := by decide +kernel
theorem d8c : blkB 3 0 (ccz 0 1 2) 0 [0, 0, 0, 0, 0, 0, 0, 4] = true := by decide +kernel
theorem d8m : f8 (fun m => blkB 4 1 (markA 3 ++ phG m 3 ++ invC (markA 3)) 4 [0, 0, 0, 0, 0, 0, 0, m]) = true := by decide +kernel
theorem len8 : ((List.range 7).all fun i => f8 fun p => decide ((oppG i p).length ≤ 60)) = true := by decide +kernel
end Q

namespace Q
def endsG (es : List Int) : List G × Nat :=
  if es.length = 2 then (omG (m8 (es.getD 0 0)) ++ phG (m8 (es.getD 1 0 - es.getD 0 0)) 0, 0) else
  if es.length = 4 then twoG (es.getD 0 0) (es.getD 1 0) (es.getD 2 0) (es.getD 3 0) else threeG es
def extraN (es : List Int) : Nat := if es.length = 4 then (es.sum % 2).toNat else if es.length = 8 then (if 0 < es.sum % 4 then 1 else 0) else 0
structure Plain (n : Nat) (es : List Int) : Prop where
  ex : (endsG es).2 = extraN es
  ln : (endsG es).1.length ≤ 600
  blk : Blk (n + extraN es) (extraN es) es.length (endsG es).1 fun j => m8 (es.getD j 0)
theorem m8_lt (x : Int) : m8 x < 8 := by unfold m8; omega
theorem phW_len : ∀ p, (phW p).length ≤ 2 := by
  intro p
  unfold phW
  split <;> decide
theorem phG_len (p q : Nat) : (phG p q).length ≤ 2 := by
  unfold phG
  rw [List.length_map]
  exact phW_len p
theorem plain2 {a b : Int} (ha : 0 ≤ a ∧ a < 8) (hb : 0 ≤ b ∧ b < 8) : Plain 1 [a, b] := by
  have h := f8_get (f8_get d2 (i := a.toNat) (by omega)) (i := b.toNat) (by omega)
  rw [Int.toNat_of_nonneg ha.1, Int.toNat_of_nonneg hb.1] at h
  have e : m8 a = a.toNat := by unfold m8; omega
  have e2 : m8 b = b.toNat := by unfold m8; omega
  have eg : endsG [a, b] = (omG (m8 a) ++ phG (m8 (b - a)) 0, 0) := rfl
  have ee : extraN [a, b] = 0 := rfl
  refine ⟨by rw [eg, ee], ?_, ?_⟩
  · rw [eg]
    have h1 := phG_len (m8 (b - a)) 0
    have h2 := m8_lt a
    rw [List.length_append]
    unfold omG
    rw [List.length_replicate]
    omega
  · rw [eg, ee, e]
    refine (Blk.of h).to fun j hj => ?_
    have : j < 2 := hj
    rcases j with _ | _ | j
    · show a.toNat % 8 = m8 a % 8; rw [e]
    · show b.toNat % 8 = m8 b % 8; rw [e2]
    · omega
theorem and8 {a b c d e f g h i : Bool} (x : (a && (b && (c && (d && (e && (f && (g && (h && i)))))))) = true) : a = true ∧ b = true ∧ c = true ∧ d = true ∧ e = true ∧ f = true ∧ g = true ∧ h = true ∧ i = true := by
  simpa only [Bool.and_eq_true] using x
/-- the head of the circuit for four ends -/
theorem head4 {n ex : Nat} {a b c d : Int} (h1 : om4 n ex = true) (h2 : ph40 n ex = true) (h3 : ph41 n ex = true) (h4 : cp4 n ex = true) : Blk n ex 4 (omG (m8 a) ++ phG (m8 (c - a + (a - b - c + d) / 2)) 0 ++ phG (m8 (b - a + (a - b - c + d) / 2)) 1 ++ (if (a - b - c + d) / 2 % 8 ≠ 0 then [(10, [0, 1])] ++ phG (m8 (-((a - b - c + d) / 2))) 1 ++ [(10, [0, 1])] else []))
    fun j => [m8 a, m8 a, m8 a, m8 a].getD j 0 + [0, 0, m8 (c - a + (a - b - c + d) / 2), m8 (c - a + (a - b - c + d) / 2)].getD j 0 + [0, m8 (b - a + (a - b - c + d) / 2), 0, m8 (b - a + (a - b - c + d) / 2)].getD j 0 + [0, m8 (-((a - b - c + d) / 2)), m8 (-((a - b - c + d) / 2)), 0].getD j 0 := by
  have k1 := Blk.of (f8_get h1 (m8_lt a))
  have k2 := Blk.of (f8_get h2 (m8_lt (c - a + (a - b - c + d) / 2)))
  have k3 := Blk.of (f8_get h3 (m8_lt (b - a + (a - b - c + d) / 2)))
  have k4 := Blk.of (f8_get h4 (m8_lt (-((a - b - c + d) / 2))))
  refine ((k1.app k2).app k3).app ?_
  by_cases hh : (a - b - c + d) / 2 % 8 ≠ 0
  · rw [if_pos hh]
    exact k4
  · rw [if_neg hh]
    have e : m8 (-((a - b - c + d) / 2)) = 0 := by unfold m8; omega
    rw [e]
    refine Blk.nil.to fun j hj => ?_
    rcases j with _ | _ | _ | _ | j
    all_goals first | rfl | omega
theorem plain4 {a b c d : Int} (ha : 0 ≤ a ∧ a < 8) (hb : 0 ≤ b ∧ b < 8) (hc : 0 ≤ c ∧ c < 8) (hd : 0 ≤ d ∧ d < 8) : Plain 2 [a, b, c, d] := by
  obtain ⟨h1, h2, h3, h4, h5, h6, h7, h8, h9⟩ := and8 d4
  have es : ([a, b, c, d] : List Int).sum = a + (b + (c + (d + 0))) := rfl
  have eg : endsG [a, b, c, d] = twoG a b c d := rfl
  have ee : extraN [a, b, c, d] = ((a + (b + (c + (d + 0)))) % 2).toNat := rfl
  have hp1 := phG_len (m8 (c - a + (a - b - c + d) / 2)) 0
  have hp2 := phG_len (m8 (b - a + (a - b - c + d) / 2)) 1
  have hp3 := phG_len (m8 (-((a - b - c + d) / 2))) 1
  have hm := m8_lt a
  have hlen : (omG (m8 a) ++ phG (m8 (c - a + (a - b - c + d) / 2)) 0 ++ phG (m8 (b - a + (a - b - c + d) / 2)) 1 ++ (if (a - b - c + d) / 2 % 8 ≠ 0 then [(10, [0, 1])] ++ phG (m8 (-((a - b - c + d) / 2))) 1 ++ [(10, [0, 1])] else [])).length ≤ 20 := by
    unfold omG
    split
    · simp only [List.length_append, List.length_replicate, List.length_cons, List.length_nil]
      omega
    · simp only [List.length_append, List.length_replicate, List.length_nil]
      omega
  by_cases hj : (a - b - c + d) % 2 = 0
  · have e1 : endsG [a, b, c, d] = (_, 0) := eg.trans (if_pos hj)
    have e2 : extraN [a, b, c, d] = 0 := by rw [ee]; omega
    refine ⟨by rw [e1, e2], by rw [e1]; exact Nat.le_trans hlen (by decide), ?_⟩
    rw [e1, e2]
    refine (head4 (n := 2) (ex := 0) h1 h2 h3 h4).to fun j hj2 => ?_
    have hj3 : j < 4 := hj2
    unfold m8
    rcases j with _ | _ | _ | _ | j
    all_goals (try simp only [List.getD_cons_zero, List.getD_cons_succ])
    all_goals omega
  · have e1 : endsG [a, b, c, d] = (_ ++ markB 2 ++ phG (m8 1) 2 ++ invC (markB 2), 1) := eg.trans (if_neg hj)
    have e2 : extraN [a, b, c, d] = 1 := by rw [ee]; omega
    refine ⟨by rw [e1, e2], ?_, ?_⟩
    · rw [e1]
      show (_ ++ _ ++ _ ++ _ : List G).length ≤ 600
      rw [List.length_append, List.length_append, List.length_append]
      have l1 : (markB 2).length = 10 := by decide
      have l2 : (invC (markB 2)).length = 10 := by decide
      have l3 := phG_len (m8 1) 2
      omega
    · rw [e1, e2]
      have hb := (head4 (n := 3) (ex := 1) (a := a) (b := b) (c := c) (d := d) h5 h6 h7 h8).app (Blk.of h9)
      rw [← List.append_assoc, ← List.append_assoc] at hb
      refine hb.to fun j hj2 => ?_
      have hj3 : j < 4 := hj2
      unfold m8
      rcases j with _ | _ | _ | _ | j
      all_goals (try simp only [List.getD_cons_zero, List.getD_cons_succ])
      all_goals omega
theorem opp8 {n ex i : Nat} {e : Int} (h : allO n ex i = true) (he : 0 ≤ e ∧ e < 8) : Blk n ex 8 (oppE i e) fun j => (effO i (m8 e)).getD j 0 := by
  have k := Blk.of (List.all_eq_true.mp h (m8 e) (List.mem_range.mpr (m8_lt e)))
  unfold oppE
  by_cases h0 : e ≠ 0
  · rw [if_pos h0]
    exact k
  · rw [if_neg h0]
    have e0 : e = 0 := by omega
    subst e0
    refine Blk.nil.to fun j hj => ?_
    have e1 : m8 0 = 0 := rfl
    rw [e1]
    have e2 : effO i 0 = (List.range 8).map fun j => 0 := by
      unfold effO
      apply List.map_congr_left
      intro j _
      split
      · rfl
      · split <;> rfl
    rw [e2, List.getD_eq_getElem?_getD, List.getElem?_map]
    cases (List.range 8)[j]? <;> rfl
theorem opp_len {i : Nat} (hi : i < 7) (e : Int) : (oppE i e).length ≤ 60 := by
  unfold oppE
  split
  · exact of_decide_eq_true (f8_get (List.all_eq_true.mp len8 i (List.mem_range.mpr hi)) (m8_lt e))
  · exact Nat.zero_le _
def sevenO (n ex : Nat) : Prop := allO n ex 0 = true ∧ allO n ex 1 = true ∧ allO n ex 2 = true ∧ allO n ex 3 = true ∧ allO n ex 4 = true ∧ allO n ex 5 = true ∧ allO n ex 6 = true
theorem head8 {n ex : Nat} {a b c d e f g : Int} (ha : 0 ≤ a ∧ a < 8) (hb : 0 ≤ b ∧ b < 8) (hc : 0 ≤ c ∧ c < 8) (hd : 0 ≤ d ∧ d < 8) (he : 0 ≤ e ∧ e < 8) (hf : 0 ≤ f ∧ f < 8) (hg : 0 ≤ g ∧ g < 8) (H : sevenO n ex) :
    Blk n ex 8 (circE 0 [a, b, c, d, e, f, g]) fun j => [m8 a, m8 b, m8 c, m8 d, m8 e, m8 f, m8 g, (8 - m8 a) % 8 + (8 - m8 b) % 8 + (8 - m8 c) % 8 + (8 - m8 d) % 8 + (8 - m8 e) % 8 + (8 - m8 f) % 8 + (8 - m8 g) % 8].getD j 0 := by
  obtain ⟨h0, h1, h2, h3, h4, h5, h6⟩ := H
  have k := (opp8 h0 ha).app ((opp8 h1 hb).app ((opp8 h2 hc).app ((opp8 h3 hd).app ((opp8 h4 he).app ((opp8 h5 hf).app ((opp8 h6 hg).app Blk.nil))))))
  refine k.to fun j hj => ?_
  have hj : j < 8 := hj
  have ev : ∀ i p : Nat, effO i p = [if 0 = i then p else 0, if 1 = i then p else 0, if 2 = i then p else 0, if 3 = i then p else 0, if 4 = i then p else 0, if 5 = i then p else 0, if 6 = i then p else 0, if 7 = i then p else (8 - p) % 8] := fun i p => rfl
  simp only [ev]
  rcases j with _ | _ | _ | _ | _ | _ | _ | _ | j
  all_goals (try simp only [List.getD_cons_zero, List.getD_cons_succ])
  all_goals (try simp)
  all_goals (try omega)
theorem circ_len {a b c d e f g : Int} : (circE 0 [a, b, c, d, e, f, g]).length ≤ 420 := by
  have e1 : circE 0 [a, b, c, d, e, f, g] = oppE 0 a ++ (oppE 1 b ++ (oppE 2 c ++ (oppE 3 d ++ (oppE 4 e ++ (oppE 5 f ++ (oppE 6 g ++ [])))))) := rfl
  rw [e1]
  simp only [List.length_append, List.length_nil]
  have := opp_len (i := 0) (by decide) a
  have := opp_len (i := 1) (by decide) b
  have := opp_len (i := 2) (by decide) c
  have := opp_len (i := 3) (by decide) d
  have := opp_len (i := 4) (by decide) e
  have := opp_len (i := 5) (by decide) f
  have := opp_len (i := 6) (by decide) g
  omega
theorem neg8 {a : Int} (ha : 0 ≤ a ∧ a < 8) : ∃ k : Int, (((8 - m8 a) % 8 : Nat) : Int) = 8 * k - a := by
  refine ⟨if a = 0 then 0 else 1, ?_⟩
  unfold m8
  split <;> omega
theorem last8' {x1 x2 x3 x4 x5 x6 x7 x8 m : Nat} {a b c d e f g h s k1 k2 k3 k4 k5 k6 k7 : Int} (e1 : (x1 : Int) = 8 * k1 - a) (e2 : (x2 : Int) = 8 * k2 - b) (e3 : (x3 : Int) = 8 * k3 - c) (e4 : (x4 : Int) = 8 * k4 - d) (e5 : (x5 : Int) = 8 * k5 - e) (e6 : (x6 : Int) = 8 * k6 - f) (e7 : (x7 : Int) = 8 * k7 - g) (e8 : (x8 : Int) = h) (hs : a + (b + (c + (d + (e + (f + (g + (h + 0))))))) = s) (hm : (m : Int) % 8 = s % 8) : (x1 + x2 + x3 + x4 + x5 + x6 + x7 + m) % 8 = x8 % 8 := by
  have t : ((x1 + x2 + x3 + x4 + x5 + x6 + x7 + m : Nat) : Int) = 8 * (k1 + k2 + k3 + k4 + k5 + k6 + k7) + x8 + (m - s) := by
    rw [← hs]
    simp only [Int.natCast_add]
    rw [e1, e2, e3, e4, e5, e6, e7, e8]
    clear e1 e2 e3 e4 e5 e6 e7 e8 hs hm
    omega
  clear e1 e2 e3 e4 e5 e6 e7 e8 hs
  generalize x1 + x2 + x3 + x4 + x5 + x6 + x7 + m = N at t ⊢
  generalize k1 + k2 + k3 + k4 + k5 + k6 + k7 = k at t
  omega
theorem last8 {a b c d e f g h s : Int} {m : Nat} (ha : 0 ≤ a ∧ a < 8) (hb : 0 ≤ b ∧ b < 8) (hc : 0 ≤ c ∧ c < 8) (hd : 0 ≤ d ∧ d < 8) (he : 0 ≤ e ∧ e < 8) (hf : 0 ≤ f ∧ f < 8) (hg : 0 ≤ g ∧ g < 8) (hh : 0 ≤ h ∧ h < 8) (hs : a + (b + (c + (d + (e + (f + (g + (h + 0))))))) = s) (hm : (m : Int) % 8 = s % 8) :
    ((8 - m8 a) % 8 + (8 - m8 b) % 8 + (8 - m8 c) % 8 + (8 - m8 d) % 8 + (8 - m8 e) % 8 + (8 - m8 f) % 8 + (8 - m8 g) % 8 + m) % 8 = m8 h % 8 := by
  obtain ⟨k1, e1⟩ := neg8 ha
  obtain ⟨k2, e2⟩ := neg8 hb
  obtain ⟨k3, e3⟩ := neg8 hc
  obtain ⟨k4, e4⟩ := neg8 hd
  obtain ⟨k5, e5⟩ := neg8 he
  obtain ⟨k6, e6⟩ := neg8 hf
  obtain ⟨k7, e7⟩ := neg8 hg
  have e8 : (m8 h : Int) = h := by clear e1 e2 e3 e4 e5 e6 e7 hs hm; unfold m8; omega
  exact last8' e1 e2 e3 e4 e5 e6 e7 e8 hs hm
theorem q8a {s : Int} (h : s % 8 = 0) : ¬ 0 < s % 4 := by omega
theorem q8b {s : Int} (h : s % 8 = 4) : ¬ 0 < s % 4 := by omega
theorem q8c {s : Int} (h : ¬ s % 8 = 0) (k : ¬ s % 8 = 4) : 0 < s % 4 := by omega
theorem q8m (s : Int) : ((m8 (s % 8) : Nat) : Int) % 8 = s % 8 := by unfold m8; omega
theorem q8l {l m : Nat} (h : l ≤ 420) (k : m ≤ 60) : l + m ≤ 600 := by omega
theorem q8l3 {l a b c : Nat} (h : l ≤ 420) (h1 : a = 18) (h2 : c = 18) (h3 : b ≤ 2) : l + a + b + c ≤ 600 := by omega
theorem plain8 {a b c d e f g h : Int} (ha : 0 ≤ a ∧ a < 8) (hb : 0 ≤ b ∧ b < 8) (hc : 0 ≤ c ∧ c < 8) (hd : 0 ≤ d ∧ d < 8) (he : 0 ≤ e ∧ e < 8) (hf : 0 ≤ f ∧ f < 8) (hg : 0 ≤ g ∧ g < 8) (hh : 0 ≤ h ∧ h < 8) : Plain 3 [a, b, c, d, e, f, g, h] := by
  have es : ([a, b, c, d, e, f, g, h] : List Int).sum = a + (b + (c + (d + (e + (f + (g + (h + 0))))))) := rfl
  have eg : endsG [a, b, c, d, e, f, g, h] = threeG [a, b, c, d, e, f, g, h] := rfl
  have et : ([a, b, c, d, e, f, g, h] : List Int).take 7 = [a, b, c, d, e, f, g] := rfl
  have ee : extraN [a, b, c, d, e, f, g, h] = if 0 < (a + (b + (c + (d + (e + (f + (g + (h + 0)))))))) % 4 then 1 else 0 := rfl
  have hl := circ_len (a := a) (b := b) (c := c) (d := d) (e := e) (f := f) (g := g)
  have H3 : sevenO 3 0 := ⟨o30, o31, o32, o33, o34, o35, o36⟩
  have H4 : sevenO 4 1 := ⟨o40, o41, o42, o43, o44, o45, o46⟩
  by_cases h0 : (a + (b + (c + (d + (e + (f + (g + (h + 0)))))))) % 8 = 0
  · have e1 : endsG [a, b, c, d, e, f, g, h] = (circE 0 [a, b, c, d, e, f, g], 0) := eg.trans (if_pos h0)
    have e2 : extraN [a, b, c, d, e, f, g, h] = 0 := by rw [ee]; exact if_neg (q8a h0)
    refine ⟨by rw [e1, e2], by rw [e1]; exact Nat.le_trans hl (by decide), ?_⟩
    rw [e1, e2]
    refine (head8 (n := 3) (ex := 0) ha hb hc hd he hf hg H3).to fun j hj => ?_
    have hj : j < 8 := hj
    rcases j with _ | _ | _ | _ | _ | _ | _ | _ | j
    iterate 7 (· rfl)
    · exact last8 ha hb hc hd he hf hg hh (m := 0) rfl (h0.symm ▸ rfl)
    · exact absurd hj (by simp)
  · by_cases h4 : (a + (b + (c + (d + (e + (f + (g + (h + 0)))))))) % 8 = 4
    · have e1 : endsG [a, b, c, d, e, f, g, h] = (circE 0 [a, b, c, d, e, f, g] ++ ccz 0 1 2, 0) := eg.trans ((if_neg h0).trans (if_pos h4))
      have e2 : extraN [a, b, c, d, e, f, g, h] = 0 := by rw [ee]; exact if_neg (q8b h4)
      refine ⟨by rw [e1, e2], ?_, ?_⟩
      · rw [e1]
        show (_ ++ _ : List G).length ≤ 600
        rw [List.length_append]
        exact q8l hl (by decide)
      · rw [e1, e2]
        refine ((head8 (n := 3) (ex := 0) ha hb hc hd he hf hg H3).app (Blk.of d8c)).to fun j hj => ?_
        have hj : j < 8 := hj
        rcases j with _ | _ | _ | _ | _ | _ | _ | _ | j
        iterate 7 (· rfl)
        · exact last8 ha hb hc hd he hf hg hh (m := 4) rfl (h4.symm ▸ rfl)
        · exact absurd hj (by simp)
    · have e1 : endsG [a, b, c, d, e, f, g, h] = (circE 0 [a, b, c, d, e, f, g] ++ markA 3 ++ phG (m8 ((a + (b + (c + (d + (e + (f + (g + (h + 0)))))))) % 8)) 3 ++ invC (markA 3), 1) := eg.trans ((if_neg h0).trans (if_neg h4))
      have e2 : extraN [a, b, c, d, e, f, g, h] = 1 := by rw [ee]; exact if_pos (q8c h0 h4)
      refine ⟨by rw [e1, e2], ?_, ?_⟩
      · rw [e1]
        show (_ ++ _ ++ _ ++ _ : List G).length ≤ 600
        rw [List.length_append, List.length_append, List.length_append]
        exact q8l3 hl (by decide) (by decide) (phG_len _ 3)
      · rw [e1, e2]
        have hb2 := (head8 (n := 4) (ex := 1) ha hb hc hd he hf hg H4).app (Blk.of (f8_get d8m (m8_lt ((a + (b + (c + (d + (e + (f + (g + (h + 0)))))))) % 8))))
        rw [← List.append_assoc, ← List.append_assoc] at hb2
        refine hb2.to fun j hj => ?_
        have hj : j < 8 := hj
        rcases j with _ | _ | _ | _ | _ | _ | _ | _ | j
        iterate 7 (· rfl)
        · exact last8 ha hb hc hd he hf hg hh rfl (q8m _)
        · exact absurd hj (by simp)
end Q

namespace Q
open PySem PySem.Spec PyProof.Rows L2 Evl Pm
local macro_rules | `(tactic| walk_at "side") => `(tactic| first | omega | decide | assumption | (refine ⟨?_, ?_⟩ <;> omega) | (refine ⟨?_, ?_⟩ <;> decide))
structure Blt (mg : Str → Option Value) : Prop where
  isinstance : mg "isinstance" = none
  int : mg "int" = none
  bool : mg "bool" = none
  str : mg "str" = none
  tuple : mg "tuple" = none
  list : mg "list" = none
  len : mg "len" = none
  range : mg "range" = none
/-! ### gates as data -/
def nm : Nat → Str
  | 0 => "w"
  | 1 => "wd"
  | 2 => "x"
  | 3 => "y"
  | 4 => "z"
  | 5 => "h"
  | 6 => "s"
  | 7 => "sd"
  | 8 => "t"
  | 9 => "td"
  | 10 => "cx"
  | 11 => "cz"
  | _ => "swap"
abbrev nD (q : Nat) : D := .int (q : Int)
def gD (g : G) : D := .tuple [.str (nm g.1), .tuple (g.2.map nD)]
def cD (gs : List G) : D := .tuple (gs.map gD)
def INV : List (Str × Str) := [("w", "wd"), ("wd", "w"), ("s", "sd"), ("sd", "s"), ("t", "td"), ("td", "t")]
def PHW : D := .tuple [.tuple [], .tuple [.str "t"], .tuple [.str "s"], .tuple [.str "s", .str "t"], .tuple [.str "z"], .tuple [.str "z", .str "t"], .tuple [.str "sd"], .tuple [.str "td"]]
theorem inv_ok : ∀ k, k < 13 → (valD (strKD INV) (.inr (nm k))).getD (.str (nm k)) = .str (nm (inv1 k))
  | 0, _ => by rfl
  | 1, _ => by rfl
  | 2, _ => by rfl
  | 3, _ => by rfl
  | 4, _ => by rfl
  | 5, _ => by rfl
  | 6, _ => by rfl
  | 7, _ => by rfl
  | 8, _ => by rfl
  | 9, _ => by rfl
  | 10, _ => by rfl
  | 11, _ => by rfl
  | 12, _ => by rfl
  | n + 13, h => absurd h (by omega)
def R_inverse_gate : W → List Ag → W → D → Prop := fun w as w' r => w = [] ∧ w' = [] ∧ ∃ k : Nat, k < 13 ∧ as = [.dat (.str (nm k))] ∧ r = .str (nm (inv1 k))
theorem r_inverse_gate {k : Nat} (h : k < 13) : R_inverse_gate [] [.dat (.str (nm k))] [] (.str (nm (inv1 k))) := ⟨rfl, rfl, k, h, rfl, rfl⟩
def okNm (gs : List G) : Prop := ∀ g ∈ gs, g.1 < 13
def R_inverse_circuit : W → List Ag → W → D → Prop := fun w as w' r => w = [] ∧ w' = [] ∧ ∃ gs : List G, (okNm gs ∧ gs.length ≤ 1000) ∧ as = [.dat (cD gs)] ∧ r = cD (invC gs)
theorem r_inverse_circuit {gs : List G} (h : okNm gs ∧ gs.length ≤ 1000) : R_inverse_circuit [] [.dat (cD gs)] [] (cD (invC gs)) := ⟨rfl, rfl, gs, h, rfl, rfl⟩
def R_phase_gates : W → List Ag → W → D → Prop := fun w as w' r => w = [] ∧ w' = [] ∧ ∃ (p : Int) (q : Nat), as = [.dat (.int p), .dat (nD q)] ∧ r = cD (phG (m8 p) q)
theorem r_phase_gates {p : Int} {q : Nat} : R_phase_gates [] [.dat (.int p), .dat (nD q)] [] (cD (phG (m8 p) q)) := ⟨rfl, rfl, p, q, rfl, rfl⟩
def R_omega_gates : W → List Ag → W → D → Prop := fun w as w' r => w = [] ∧ w' = [] ∧ ∃ (p : Int), as = [.dat (.int p)] ∧ r = cD (omG (m8 p))
theorem r_omega_gates {p : Int} : R_omega_gates [] [.dat (.int p)] [] (cD (omG (m8 p))) := ⟨rfl, rfl, p, rfl, rfl⟩
def R_narrow_ccz : W → List Ag → W → D → Prop := fun w as w' r => w = [] ∧ w' = [] ∧ ∃ (a b c : Nat), as = [.dat (nD a), .dat (nD b), .dat (nD c)] ∧ r = cD (ccz a b c)
theorem r_narrow_ccz {a b c : Nat} : R_narrow_ccz [] [.dat (nD a), .dat (nD b), .dat (nD c)] [] (cD (ccz a b c)) := ⟨rfl, rfl, a, b, c, rfl, rfl⟩
def R_narrow_ccx : W → List Ag → W → D → Prop := fun w as w' r => w = [] ∧ w' = [] ∧ ∃ (a b c : Nat), as = [.dat (nD a), .dat (nD b), .dat (nD c)] ∧ r = cD (ccx a b c)
theorem r_narrow_ccx {a b c : Nat} : R_narrow_ccx [] [.dat (nD a), .dat (nD b), .dat (nD c)] [] (cD (ccx a b c)) := ⟨rfl, rfl, a, b, c, rfl, rfl⟩
theorem cD_app {a b : List G} : PyData.tuple (a.map gD ++ b.map gD) = cD (a ++ b) := by
  unfold cD
  rw [List.map_append]
/-- + of circuits -/
theorem od_catC {X : Cx} {a b : List G} (h : a.length + b.length ≤ 100000) : OpB X .Add (cD a) (cD b) (cD (a ++ b)) := by
  rw [← cD_app]
  exact od_cat (by rw [List.length_map, List.length_map]; exact h)
theorem rep_flat {α : Type} (x : α) : ∀ n : Nat, (List.replicate n [x]).flatten = List.replicate n x
  | 0 => rfl
  | n + 1 => by rw [List.replicate_succ, List.flatten_cons, rep_flat x n]; rfl
section
variable {P : Program} {wd : World} {K : PySem.W.Frag} {mg : Str → Option Value} {base : Heap}
theorem ok_inverse_gate {f : Addr} {fd : FuncData} (F : Fun K "inverse_gate" "inverse_gate" s_inverse_gate f fd) (GM : GlobM P wd K mg "_INVERSES" INV) : FnOk P wd K mg base CX0 1 f fd ["name"] (spG K 1 R_inverse_gate) := by
  refine fn_ok F sc_inverse_gate fun cdv A outer s H E hr w as w' r hl dm h => ?_
  obtain ⟨rfl, rfl, k, hk, rfl, rfl⟩ := h
  clear hl dm
  refine Ws.rho (ρ' := [_]) rfl ?_
  exact Ws.cons (Wt.ret (Ev.gget GM (Ev.var 0 rfl) (Ev.var 0 rfl) (inv_ok k hk)) ⟨rfl, rfl⟩)
theorem ok_inverse_circuit {f : Addr} {fd : FuncData} (F : Fun K "inverse_circuit" "inverse_circuit" s_inverse_circuit f fd) (M : Blt mg) (m_rev : mg "reversed" = none) (C_inverse_gate : Cal P wd K mg base 1 "inverse_gate" 1 R_inverse_gate) : FnOk P wd K mg base CX0 2 f fd ["circuit"] (spG K 1 R_inverse_circuit) := by
  refine fn_ok F sc_inverse_circuit fun cdv A outer s H E hr w as w' r hl dm h => ?_
  obtain ⟨rfl, rfl, gs, ⟨hk, hz⟩, rfl, rfl⟩ := h
  clear hl dm
  have hN := sc_inverse_circuit.nd
  refine Ws.rho (ρ' := [_, _, _]) rfl ?_
  refine Ws.cons (Wt.ret (Ev.tupleL (EvN.ev (RdN.evn (compRev_run 1 2 (by decide) (l0 := gs) (t0 := gD) (f := fun g => gD (inv1 g.1, g.2)) (Ev.var 0 rfl) (fun y hy => ⟨_, _, rfl, fun s H0 C cl fp => Ev.tup (ds := [_, _]) (EvA.cons (Ev.callC C_inverse_gate hr (EvA.cons (Ev.var 1 rfl) EvA.nil) (r_inverse_gate (hk y hy))) (EvA.cons (Ev.var 2 rfl) EvA.nil))⟩) (by omega)) (pe_compRev 1 2 (blkOk_by (N := N_inverse_circuit) (sc := defScope s_inverse_circuit) (by decide +kernel)) rfl hN m_rev))) M.tuple) ⟨?_, rfl⟩)
  unfold cD invC
  rw [List.map_map]
  rfl
theorem ok_phase_gates {f : Addr} {fd : FuncData} (F : Fun K "phase_gates" "phase_gates" s_phase_gates f fd) (M : Blt mg) (GP : Glob K mg "_PHASE_WORDS" PHW) : FnOk P wd K mg base CX0 1 f fd ["power", "place"] (spG K 2 R_phase_gates) := by
  refine fn_ok F sc_phase_gates fun cdv A outer s H E hr w as w' r hl dm h => ?_
  obtain ⟨rfl, rfl, p, q, rfl, rfl⟩ := h
  clear hl dm
  have hN := sc_phase_gates.nd
  have hp : p % 8 = ((m8 p : Nat) : Int) := by unfold m8; omega
  have hi : itemD PHW (p % 8) = some (.tuple ((phW (m8 p)).map fun k => .str (nm k))) := by
    have h8 := m8_lt p
    rw [hp]
    refine item_nat ?_
    generalize m8 p = m at h8
    match m, h8 with
    | 0, _ => rfl
    | 1, _ => rfl
    | 2, _ => rfl
    | 3, _ => rfl
    | 4, _ => rfl
    | 5, _ => rfl
    | 6, _ => rfl
    | 7, _ => rfl
  refine Ws.rho (ρ' := [_, _, _]) rfl ?_
  refine Ws.cons (Wt.ret (Ev.tupleL (EvN.ev (RdN.evn (compT_run 2 (ys := (phW (m8 p)).map fun k => gD (k, [q])) (Ev.ix (Ev.globC GP) (Ev.bin (Ev.var 0 rfl) Ev.int (od_mod (by decide))) hi) (by rw [List.length_map, List.length_map]) (fun i y z hy hz => by
    rw [List.getElem?_map] at hy hz
    cases e : (phW (m8 p))[i]? with
    | none => rw [e] at hy; cases hy
    | some k =>
      rw [e] at hy hz
      cases hy
      cases hz
      exact fun s H0 C cl fp => Ev.tup (ds := [_, _]) (EvA.cons (Ev.var 2 rfl) (EvA.cons (Ev.tup (ds := [_]) (EvA.cons (Ev.var 1 rfl) EvA.nil)) EvA.nil))) (by rw [List.length_map]; exact Nat.le_trans (phW_len _) (by decide))) (pe_compT 2 (blkOk_by (N := N_phase_gates) (sc := defScope s_phase_gates) (by decide +kernel)) rfl hN))) M.tuple) ⟨?_, rfl⟩)
  unfold cD phG
  rw [List.map_map]
  rfl
theorem ok_omega_gates {f : Addr} {fd : FuncData} (F : Fun K "omega_gates" "omega_gates" s_omega_gates f fd) : FnOk P wd K mg base CX0 1 f fd ["power"] (spG K 1 R_omega_gates) := by
  refine fn_ok F sc_omega_gates fun cdv A outer s H E hr w as w' r hl dm h => ?_
  obtain ⟨rfl, rfl, p, rfl, rfl⟩ := h
  clear hl dm
  refine Ws.rho (ρ' := [_]) rfl ?_
  refine Ws.cons (Wt.ret (Ev.bin (Ev.tup (ds := [_]) (EvA.cons (Ev.tup (ds := [_, _]) (EvA.cons Ev.str (EvA.cons (Ev.tup (ds := []) EvA.nil) EvA.nil))) EvA.nil)) (Ev.bin (Ev.var 0 rfl) Ev.int (od_mod (by decide))) (od_repT (by omega) (by simp) (by simp))) ⟨?_, rfl⟩)
  unfold cD omG m8
  rw [rep_flat, List.map_replicate]
  rfl
theorem ok_narrow_ccz {f : Addr} {fd : FuncData} (F : Fun K "narrow_ccz" "narrow_ccz" s_narrow_ccz f fd) : FnOk P wd K mg base CX0 1 f fd ["a", "b", "c"] (spG K 3 R_narrow_ccz) := by
  refine fn_ok F sc_narrow_ccz fun cdv A outer s H E hr w as w' r hl dm h => ?_
  obtain ⟨rfl, rfl, a, b, c, rfl, rfl⟩ := h
  clear hl dm
  refine Ws.rho (ρ' := [_, _, _]) rfl ?_
  refine Ws.cons (Wt.ret (Ev.tup (ds := [_, _, _, _, _, _, _, _, _, _, _, _, _]) (EvA.cons (Ev.tup (ds := [_, _]) (EvA.cons Ev.str (EvA.cons (Ev.tup (ds := [_, _]) (EvA.cons (Ev.var 1 rfl) (EvA.cons (Ev.var 2 rfl) EvA.nil))) EvA.nil))) (EvA.cons (Ev.tup (ds := [_, _]) (EvA.cons Ev.str (EvA.cons (Ev.tup (ds := [_]) (EvA.cons (Ev.var 2 rfl) EvA.nil)) EvA.nil))) (EvA.cons (Ev.tup (ds := [_, _]) (EvA.cons Ev.str (EvA.cons (Ev.tup (ds := [_, _]) (EvA.cons (Ev.var 0 rfl) (EvA.cons (Ev.var 2 rfl) EvA.nil))) EvA.nil))) (EvA.cons (Ev.tup (ds := [_, _]) (EvA.cons Ev.str (EvA.cons (Ev.tup (ds := [_]) (EvA.cons (Ev.var 2 rfl) EvA.nil)) EvA.nil))) (EvA.cons (Ev.tup (ds := [_, _]) (EvA.cons Ev.str (EvA.cons (Ev.tup (ds := [_, _]) (EvA.cons (Ev.var 1 rfl) (EvA.cons (Ev.var 2 rfl) EvA.nil))) EvA.nil))) (EvA.cons (Ev.tup (ds := [_, _]) (EvA.cons Ev.str (EvA.cons (Ev.tup (ds := [_]) (EvA.cons (Ev.var 2 rfl) EvA.nil)) EvA.nil))) (EvA.cons (Ev.tup (ds := [_, _]) (EvA.cons Ev.str (EvA.cons (Ev.tup (ds := [_, _]) (EvA.cons (Ev.var 0 rfl) (EvA.cons (Ev.var 2 rfl) EvA.nil))) EvA.nil))) (EvA.cons (Ev.tup (ds := [_, _]) (EvA.cons Ev.str (EvA.cons (Ev.tup (ds := [_]) (EvA.cons (Ev.var 2 rfl) EvA.nil)) EvA.nil))) (EvA.cons (Ev.tup (ds := [_, _]) (EvA.cons Ev.str (EvA.cons (Ev.tup (ds := [_]) (EvA.cons (Ev.var 1 rfl) EvA.nil)) EvA.nil))) (EvA.cons (Ev.tup (ds := [_, _]) (EvA.cons Ev.str (EvA.cons (Ev.tup (ds := [_, _]) (EvA.cons (Ev.var 0 rfl) (EvA.cons (Ev.var 1 rfl) EvA.nil))) EvA.nil))) (EvA.cons (Ev.tup (ds := [_, _]) (EvA.cons Ev.str (EvA.cons (Ev.tup (ds := [_]) (EvA.cons (Ev.var 0 rfl) EvA.nil)) EvA.nil))) (EvA.cons (Ev.tup (ds := [_, _]) (EvA.cons Ev.str (EvA.cons (Ev.tup (ds := [_]) (EvA.cons (Ev.var 1 rfl) EvA.nil)) EvA.nil))) (EvA.cons (Ev.tup (ds := [_, _]) (EvA.cons Ev.str (EvA.cons (Ev.tup (ds := [_, _]) (EvA.cons (Ev.var 0 rfl) (EvA.cons (Ev.var 1 rfl) EvA.nil))) EvA.nil))) EvA.nil)))))))))))))) ⟨rfl, rfl⟩)
end
end Q

namespace Q
open PySem PySem.Spec PyProof.Rows L2 Evl Pm
/-- a loop over a list, turn by turn -/
def UnrL (X : Cx) (body : List Stmt) (E : DE) (j : Nat) : List D → List Pm.Slot → W → Prop
  | [], ρ, w => E.nx ρ w
  | y :: ys, ρ, w => Ws X body { E with nx := fun ρ w => UnrL X body E j ys ρ w, ct := fun ρ w => UnrL X body E j ys ρ w, bk := E.nx } (ρ.set j (.dat y)) w
theorem Wt.forLU {X : Cx} {body : List Stmt} {E : DE} {ρ : List Pm.Slot} {w w1 : W} {ds : List D} {x : Str} {pos : Pos} (j : Nat) {it : Expr} {px : Pos} (hr : Ev X it ρ w w1 (.list ds)) (h0 : UnrL X body E j ds ρ w1)
    (hp : PassesOwn (model X.prog X.w) X.A X.env X.xe) (hc : X.calm = true) (hN : X.N.Nodup) (hi : X.N[j]? = some x := by rfl) (hx : Loc X.env.scope x := by first | exact Or.inl rfl | exact Or.inr rfl) (hf : X.fn x = true ∨ X.env.scope.names.lookup x = some .local := by first | exact .inl rfl | exact .inr rfl | assumption)
    (hfs : ∀ x, foldedSetIterable it X.env x = pure x := by intro _; rfl) : Wt X (.For (.Name x px) it body [] pos) E ρ w := by
  refine Wt.forL j (fun i ρ w => UnrL X body E j (ds.drop i) ρ w) hr h0 (fun i y ρ w hy h => ?_) (fun ρ w h => ?_) hp hc hN hi hx hf hfs
  · obtain ⟨hlt, e⟩ := List.getElem?_eq_some_iff.mp hy
    rw [List.drop_eq_getElem_cons hlt, e] at h
    exact h
  · rw [List.drop_length] at h
    exact h
theorem Wt.augC {X : Cx} {e : Expr} {E : DE} {ρ : List Pm.Slot} {w w1 : W} {x : Str} {pos pos' : Pos} (i : Nat) {a b : List G} (hi : ρ[i]? = some (.dat (cD a))) (h : Ev X e ρ w w1 (cD b)) (hl : a.length + b.length ≤ 100000) (q : E.nx (ρ.set i (.dat (cD (a ++ b)))) w1) (hN : X.N.Nodup) (hx' : X.N[i]? = some x := by rfl) (hx : Loc X.env.scope x := by first | exact Or.inl rfl | exact Or.inr rfl) (hf : X.fn x = true ∨ X.env.scope.names.lookup x = some .local := by first | exact .inl rfl | exact .inr rfl | assumption) :
    Wt X (.AugAssign (.Name x pos') .Add e pos) E ρ w := Wt.augT i hi h (by rw [List.length_map, List.length_map]; exact hl) (by rw [cD_app]; exact q) hN hx' hx hf
theorem invC_len (gs : List G) : (invC gs).length = gs.length := by
  unfold invC
  rw [List.length_map, List.length_reverse]
theorem ok_ph (p q : Nat) : okNm (phG p q) := by
  intro g hg
  obtain ⟨k, hk, rfl⟩ := List.mem_map.mp hg
  show k < 13
  revert hk
  unfold phW
  split <;> intro hk <;> simp at hk <;> omega
theorem lt7 {i : Nat} (h : i < 7) : i = 0 ∨ i = 1 ∨ i = 2 ∨ i = 3 ∨ i = 4 ∨ i = 5 ∨ i = 6 := by omega
theorem all_ok {gs : List G} (h : (gs.all fun g => decide (g.1 < 13)) = true) : okNm gs := fun g hg => of_decide_eq_true (List.all_eq_true.mp h g hg)
theorem ok_bt {i : Nat} (h : i < 7) : okNm (btG i) := by
  rcases lt7 h with rfl | rfl | rfl | rfl | rfl | rfl | rfl <;> exact all_ok (by decide)
theorem bt_len {i : Nat} (h : i < 7) : (btG i).length ≤ 4 := by
  rcases lt7 h with rfl | rfl | rfl | rfl | rfl | rfl | rfl <;> decide
theorem bto0 {i : Nat} (h : i < 7) : itemD (.list ((btO i).map nD)) 0 = some (nD ((btO i).getD 0 0)) := by
  rcases lt7 h with rfl | rfl | rfl | rfl | rfl | rfl | rfl <;> rfl
theorem bto1 {i : Nat} (h : i < 7) : itemD (.list ((btO i).map nD)) 1 = some (nD ((btO i).getD 1 0)) := by
  rcases lt7 h with rfl | rfl | rfl | rfl | rfl | rfl | rfl <;> rfl
def R__index_bits : W → List Ag → W → D → Prop := fun w as w' r => w = [] ∧ w' = [] ∧ ∃ i : Nat, i < 8 ∧ as = [.dat (nD i), .dat (nD 3)] ∧ r = .list [nD (bitN i 0), nD (bitN i 1), nD (bitN i 2)]
theorem r__index_bits {i : Nat} (h : i < 8) : R__index_bits [] [.dat (nD i), .dat (nD 3)] [] (.list [nD (bitN i 0), nD (bitN i 1), nD (bitN i 2)]) := ⟨rfl, rfl, i, h, rfl, rfl⟩
def R_brought_together : W → List Ag → W → D → Prop := fun w as w' r => w = [] ∧ w' = [] ∧ ∃ i : Nat, i < 7 ∧ as = [.dat (nD i), .dat (nD 7), .dat (nD 3)] ∧ r = .tuple [nD (btP i), cD (btG i)]
theorem r_brought_together {i : Nat} (h : i < 7) : R_brought_together [] [.dat (nD i), .dat (nD 7), .dat (nD 3)] [] (.tuple [nD (btP i), cD (btG i)]) := ⟨rfl, rfl, i, h, rfl, rfl⟩
def R__opposite_phases : W → List Ag → W → D → Prop := fun w as w' r => w = [] ∧ w' = [] ∧ ∃ (i : Nat) (p : Int), i < 7 ∧ as = [.dat (nD i), .dat (.int p)] ∧ r = cD (oppG i (m8 p))
theorem r__opposite_phases {i : Nat} {p : Int} (h : i < 7) : R__opposite_phases [] [.dat (nD i), .dat (.int p)] [] (cD (oppG i (m8 p))) := ⟨rfl, rfl, i, p, h, rfl, rfl⟩
def R_extra (f : Nat → List G) : W → List Ag → W → D → Prop := fun w as w' r => w = [] ∧ w' = [] ∧ ∃ e : Nat, as = [.dat (nD e)] ∧ r = cD (f e)
theorem r_extra {f : Nat → List G} {e : Nat} : R_extra f [] [.dat (nD e)] [] (cD (f e)) := ⟨rfl, rfl, e, rfl, rfl⟩
section
variable {P : Program} {wd : World} {K : PySem.W.Frag} {mg : Str → Option Value} {base : Heap}
theorem ok_narrow_ccx {f : Addr} {fd : FuncData} (F : Fun K "narrow_ccx" "narrow_ccx" s_narrow_ccx f fd) (C_narrow_ccz : Cal P wd K mg base 1 "narrow_ccz" 3 R_narrow_ccz) : FnOk P wd K mg base CX0 2 f fd ["a", "b", "c"] (spG K 3 R_narrow_ccx) := by
  refine fn_ok F sc_narrow_ccx fun cdv A outer s H E hr w as w' r hl dm h => ?_
  obtain ⟨rfl, rfl, a, b, c, rfl, rfl⟩ := h
  clear hl dm
  refine Ws.rho (ρ' := [_, _, _]) rfl ?_
  exact Ws.cons (Wt.ret (Ev.bin (Ev.bin (Ev.tup (ds := [_]) (EvA.cons (Ev.tup (ds := [_, _]) (EvA.cons Ev.str (EvA.cons (Ev.tup (ds := [_]) (EvA.cons (Ev.var 2 rfl) EvA.nil)) EvA.nil))) EvA.nil)) (Ev.callC C_narrow_ccz hr (EvA.cons (Ev.var 0 rfl) (EvA.cons (Ev.var 1 rfl) (EvA.cons (Ev.var 2 rfl) EvA.nil))) (r_narrow_ccz)) (od_catC (a := [(5, [c])]) (b := ccz a b c) (by show 14 ≤ 100000; decide))) (Ev.tup (ds := [_]) (EvA.cons (Ev.tup (ds := [_, _]) (EvA.cons Ev.str (EvA.cons (Ev.tup (ds := [_]) (EvA.cons (Ev.var 2 rfl) EvA.nil)) EvA.nil))) EvA.nil)) (od_catC (a := [(5, [c])] ++ ccz a b c) (b := [(5, [c])]) (by show 15 ≤ 100000; decide))) ⟨rfl, rfl⟩)
theorem ok__index_bits {f : Addr} {fd : FuncData} (F : Fun K "_index_bits" "_index_bits" s__index_bits f fd) (M : Blt mg) : FnOk P wd K mg base CX0 1 f fd ["index", "n"] (spG K 2 R__index_bits) := by
  refine fn_ok F sc__index_bits fun cdv A outer s H E hr w as w' r hl dm h => ?_
  obtain ⟨rfl, rfl, i, hi, rfl, rfl⟩ := h
  clear hl dm
  have hN := sc__index_bits.nd
  refine Ws.rho (ρ' := [_, _, _]) rfl ?_
  refine Ws.cons (Wt.ret (EvN.ev (RdN.evn (compR_run 2 (n := 3) (ws := fun _ => []) (ys := fun k => .int (Builtin.bitAnd ((i : Int) / 2 ^ ((3 : Int) - 1 - (k : Int)).toNat) 1)) (EvA.cons (Ev.var 1 rfl) EvA.nil) (by decide) (by decide) rfl (fun _ => rfl) (fun k hk s H0 C cl fp => Ev.bin (Ev.bin (Ev.var 0 rfl) (Ev.bin (Ev.bin (Ev.var 1 rfl) Ev.int od_sub) (Ev.var 2 rfl) od_sub) (od_shr (by show (0 : Int) ≤ 3 - 1 - (k : Int); have : k < 3 := hk; omega))) Ev.int od_and)) (pe_compR 2 (blkOk_by (N := N__index_bits) (sc := defScope s__index_bits) (by decide +kernel)) rfl hN M.range))) ⟨?_, rfl⟩)
  have h8 : i = 0 ∨ i = 1 ∨ i = 2 ∨ i = 3 ∨ i = 4 ∨ i = 5 ∨ i = 6 ∨ i = 7 := by omega
  clear hi
  rcases h8 with rfl | rfl | rfl | rfl | rfl | rfl | rfl | rfl <;> rfl
theorem ok__paired_signs {f : Addr} {fd : FuncData} (F : Fun K "_paired_signs" "_paired_signs" s__paired_signs f fd) : FnOk P wd K mg base CX0 1 f fd ["extra"] (spG K 1 (R_extra pairG)) := by
  refine fn_ok F sc__paired_signs fun cdv A outer s H E hr w as w' r hl dm h => ?_
  obtain ⟨rfl, rfl, e, rfl, rfl⟩ := h
  clear hl dm
  have hN := sc__paired_signs.nd
  refine Ws.rho (ρ' := [_, _]) rfl ?_
  refine Ws.cons (Wt.set 1 (Ev.to (d1 := cD (onceG e)) (Ev.tup (ds := [_, _, _, _]) (EvA.cons (Ev.tup (ds := [_, _]) (EvA.cons Ev.str (EvA.cons (Ev.tup (ds := [_, _]) (EvA.cons Ev.int (EvA.cons (Ev.var 0 rfl) EvA.nil))) EvA.nil))) (EvA.cons (Ev.tup (ds := [_, _]) (EvA.cons Ev.str (EvA.cons (Ev.tup (ds := [_]) (EvA.cons (Ev.var 0 rfl) EvA.nil)) EvA.nil))) (EvA.cons (Ev.tup (ds := [_, _]) (EvA.cons Ev.str (EvA.cons (Ev.tup (ds := [_, _]) (EvA.cons Ev.int (EvA.cons (Ev.var 0 rfl) EvA.nil))) EvA.nil))) (EvA.cons (Ev.tup (ds := [_, _]) (EvA.cons Ev.str (EvA.cons (Ev.tup (ds := [_]) (EvA.cons (Ev.var 0 rfl) EvA.nil)) EvA.nil))) EvA.nil))))) rfl) ?_ hN)
  refine Ws.rho (ρ' := [_, _]) rfl ?_
  exact Ws.cons (Wt.ret (Ev.bin (Ev.var 1 rfl) (Ev.var 1 rfl) (od_catC (a := onceG e) (b := onceG e) (by show 8 ≤ 100000; decide))) ⟨rfl, rfl⟩)
theorem ok__mark_both {f : Addr} {fd : FuncData} (F : Fun K "_mark_both" "_mark_both" s__mark_both f fd) (C_pair : Cal P wd K mg base 1 "_paired_signs" 1 (R_extra pairG)) : FnOk P wd K mg base CX0 2 f fd ["extra"] (spG K 1 (R_extra markB)) := by
  refine fn_ok F sc__mark_both fun cdv A outer s H E hr w as w' r hl dm h => ?_
  obtain ⟨rfl, rfl, e, rfl, rfl⟩ := h
  clear hl dm
  have hN := sc__mark_both.nd
  refine Ws.rho (ρ' := [_, _]) rfl ?_
  refine Ws.cons (Wt.set 1 (Ev.to (d1 := cD [(5, [e])]) (Ev.tup (ds := [_]) (EvA.cons (Ev.tup (ds := [_, _]) (EvA.cons Ev.str (EvA.cons (Ev.tup (ds := [_]) (EvA.cons (Ev.var 0 rfl) EvA.nil)) EvA.nil))) EvA.nil)) rfl) ?_ hN)
  refine Ws.rho (ρ' := [_, _]) rfl ?_
  exact Ws.cons (Wt.ret (Ev.bin (Ev.bin (Ev.var 1 rfl) (Ev.callC C_pair hr (EvA.cons (Ev.var 0 rfl) EvA.nil) r_extra) (od_catC (a := [(5, [e])]) (b := pairG e) (by show 9 ≤ 100000; decide))) (Ev.var 1 rfl) (od_catC (a := [(5, [e])] ++ pairG e) (b := [(5, [e])]) (by show 10 ≤ 100000; decide))) ⟨rfl, rfl⟩)
theorem ok__mark_all {f : Addr} {fd : FuncData} (F : Fun K "_mark_all" "_mark_all" s__mark_all f fd) (C_pair : Cal P wd K mg base 1 "_paired_signs" 1 (R_extra pairG)) : FnOk P wd K mg base CX0 2 f fd ["extra"] (spG K 1 (R_extra markA)) := by
  refine fn_ok F sc__mark_all fun cdv A outer s H E hr w as w' r hl dm h => ?_
  obtain ⟨rfl, rfl, e, rfl, rfl⟩ := h
  clear hl dm
  have hN := sc__mark_all.nd
  refine Ws.rho (ρ' := [_, _, _, _]) rfl ?_
  refine Ws.cons (Wt.set 1 (Ev.to (d1 := cD [(5, [e])]) (Ev.tup (ds := [_]) (EvA.cons (Ev.tup (ds := [_, _]) (EvA.cons Ev.str (EvA.cons (Ev.tup (ds := [_]) (EvA.cons (Ev.var 0 rfl) EvA.nil)) EvA.nil))) EvA.nil)) rfl) ?_ hN)
  refine Ws.rho (ρ' := [_, _, _, _]) rfl ?_
  refine Ws.cons (Wt.set 2 (Ev.to (d1 := cD [(8, [e]), (10, [2, e]), (9, [e])]) (Ev.tup (ds := [_, _, _]) (EvA.cons (Ev.tup (ds := [_, _]) (EvA.cons Ev.str (EvA.cons (Ev.tup (ds := [_]) (EvA.cons (Ev.var 0 rfl) EvA.nil)) EvA.nil))) (EvA.cons (Ev.tup (ds := [_, _]) (EvA.cons Ev.str (EvA.cons (Ev.tup (ds := [_, _]) (EvA.cons Ev.int (EvA.cons (Ev.var 0 rfl) EvA.nil))) EvA.nil))) (EvA.cons (Ev.tup (ds := [_, _]) (EvA.cons Ev.str (EvA.cons (Ev.tup (ds := [_]) (EvA.cons (Ev.var 0 rfl) EvA.nil)) EvA.nil))) EvA.nil)))) rfl) ?_ hN)
  refine Ws.rho (ρ' := [_, _, _, _]) rfl ?_
  refine Ws.cons (Wt.set 3 (Ev.bin (Ev.bin (Ev.var 1 rfl) (Ev.var 2 rfl) (od_catC (a := [(5, [e])]) (b := [(8, [e]), (10, [2, e]), (9, [e])]) (by show 4 ≤ 100000; decide))) (Ev.var 1 rfl) (od_catC (a := [(5, [e])] ++ [(8, [e]), (10, [2, e]), (9, [e])]) (b := [(5, [e])]) (by show 5 ≤ 100000; decide))) ?_ hN)
  refine Ws.rho (ρ' := [_, _, _, .dat (cD (sideA e))]) rfl ?_
  exact Ws.cons (Wt.ret (Ev.bin (Ev.bin (Ev.var 3 rfl) (Ev.callC C_pair hr (EvA.cons (Ev.var 0 rfl) EvA.nil) r_extra) (od_catC (a := sideA e) (b := pairG e) (by show 13 ≤ 100000; decide))) (Ev.var 3 rfl) (od_catC (a := sideA e ++ pairG e) (b := sideA e) (by show 18 ≤ 100000; decide))) ⟨rfl, rfl⟩)
end
end Q

namespace Q
open PySem PySem.Spec PyProof.Rows L2 Evl Pm
section
variable {P : Program} {wd : World} {K : PySem.W.Frag} {mg : Str → Option Value} {base : Heap}
theorem ok_brought_together {f : Addr} {fd : FuncData} (F : Fun K "brought_together" "brought_together" s_brought_together f fd) (M : Blt mg) (C_bits : Cal P wd K mg base 1 "_index_bits" 2 R__index_bits) : FnOk P wd K mg base CX0 2 f fd ["low", "high", "n"] (spG K 3 R_brought_together) := by
  refine fn_ok F sc_brought_together fun cdv A outer s H E hr w as w' r hl dm h => ?_
  obtain ⟨rfl, rfl, i, hi, rfl, rfl⟩ := h
  clear hl dm
  have hN := sc_brought_together.nd
  refine Ws.rho (ρ' := [_, _, _, _, _, _, _, _, _]) rfl ?_
  refine Ws.cons (Wt.set 3 (Ev.callC C_bits hr (EvA.cons (Ev.var 0 rfl) (EvA.cons (Ev.var 2 rfl) EvA.nil)) (r__index_bits (by omega))) ?_ hN)
  refine Ws.rho (ρ' := [_, _, _, _, _, _, _, _, _]) rfl ?_
  refine Ws.cons (Wt.set 4 (Ev.callC C_bits hr (EvA.cons (Ev.var 1 rfl) (EvA.cons (Ev.var 2 rfl) EvA.nil)) (r__index_bits (i := 7) (by decide))) ?_ hN)
  refine Ws.rho (ρ' := [_, _, _, _, _, _, _, _, _]) rfl ?_
  refine Ws.cons (Wt.new 5 (EvN.listRg (Ev.var 2 rfl) ⟨by decide, by decide⟩ rfl M.list M.range) (fun ad => ?_) hN)
  refine Ws.rho (ρ' := [_, _, _, _, _, _, _, _, _]) rfl ?_
  refine Ws.wld (w' := [(ad, Cell.L ([0, 1, 2].map PyData.int))]) rfl ?_
  have hp : itemD (.list (((List.range 3).filter fun q => decide (((bitN i q : Nat) : Int) < ((bitN 7 q : Nat) : Int))).map nD)) 0 = some (nD (btP i)) := by
    rcases lt7 hi with rfl | rfl | rfl | rfl | rfl | rfl | rfl <;> rfl
  refine Ws.cons (Wt.set 6 (Ev.ix (EvN.ev (RdN.evn (compOF_run 7 5 (f := fun q => decide (((bitN i q : Nat) : Int) < ((bitN 7 q : Nat) : Int))) (g := nD) rfl rfl (by first | exact Or.inl rfl | exact Or.inr (Or.inl rfl) | exact Or.inr (Or.inr rfl)) (by decide) (by decide) (fun q y hy => by
      match q, hy with
      | 0, hy => cases hy; exact fun s H0 C cl fp => EvT.cmp (Ev.ix (Ev.var 3 rfl) (Ev.var 7 rfl) rfl) (Ev.ix (Ev.var 4 rfl) (Ev.var 7 rfl) rfl) od_lt
      | 1, hy => cases hy; exact fun s H0 C cl fp => EvT.cmp (Ev.ix (Ev.var 3 rfl) (Ev.var 7 rfl) rfl) (Ev.ix (Ev.var 4 rfl) (Ev.var 7 rfl) rfl) od_lt
      | 2, hy => cases hy; exact fun s H0 C cl fp => EvT.cmp (Ev.ix (Ev.var 3 rfl) (Ev.var 7 rfl) rfl) (Ev.ix (Ev.var 4 rfl) (Ev.var 7 rfl) rfl) od_lt
      | n + 3, hy => cases hy) (fun q y hy _ => by
      match q, hy with
      | 0, hy => cases hy; exact fun s H0 C cl fp => Ev.var 7 rfl
      | 1, hy => cases hy; exact fun s H0 C cl fp => Ev.var 7 rfl
      | 2, hy => cases hy; exact fun s H0 C cl fp => Ev.var 7 rfl
      | n + 3, hy => cases hy) (by decide)) (pe_compOF 7 5 (blkOk_by (N := N_brought_together) (sc := defScope s_brought_together) (by decide +kernel)) rfl hN rfl (by first | exact Or.inl rfl | exact Or.inr (Or.inl rfl) | exact Or.inr (Or.inr rfl)) (by decide) (by decide)))) Ev.int hp) ?_ hN)
  refine Ws.rho (ρ' := [_, _, _, _, _, _, _, _, _]) rfl ?_
  have hrem : (([0, 1, 2] : List Int)[btP i]? = some ((btP i : Nat) : Int)) ∧ (∀ m : Nat, m < btP i → ([0, 1, 2] : List Int)[m]? ≠ some ((btP i : Nat) : Int)) := by
    rcases lt7 hi with rfl | rfl | rfl | rfl | rfl | rfl | rfl <;> exact ⟨rfl, by decide⟩
  refine Ws.cons (Wt.remove 0 5 rfl (Ev.var 6 rfl) rfl hrem.1 hrem.2 ?_)
  refine Ws.wld (w' := [(ad, Cell.L _)]) rfl ?_
  refine Ws.freeze (i := 5) 0 rfl rfl ?_
  refine Ws.wld (w' := []) rfl ?_
  refine Ws.rho (ρ' := [_, _, _, _, _, _, _, _, _]) rfl ?_
  refine Ws.cons (Wt.new 8 (EvN.lst (ds := []) EvA.nil) (fun ac => ?_) hN)
  refine Ws.rho (ρ' := [_, _, _, _, _, _, _, _, _]) rfl ?_
  refine Ws.wld (w' := [(ac, Cell.L [])]) rfl ?_
  clear hp hrem
  have eO : ((([0, 1, 2] : List Int).eraseIdx (btP i)).map PyData.int) = (btO i).map nD := by
    rcases lt7 hi with rfl | rfl | rfl | rfl | rfl | rfl | rfl <;> rfl
  rw [eO]
  refine Ws.rho (ρ' := [.dat (nD i), .dat (nD 7), .dat (nD 3), .dat (.list [nD (bitN i 0), nD (bitN i 1), nD (bitN i 2)]), .dat (.list [nD 1, nD 1, nD 1]), .dat (.list ((btO i).map nD)), .dat (nD (btP i)), _, .own ac]) rfl ?_
  have hO : ∀ q ∈ btO i, q < 3 := by
    rcases lt7 hi with rfl | rfl | rfl | rfl | rfl | rfl | rfl <;> decide
  have hb : ∀ q : Nat, bitN i q = 0 ∨ bitN i q = 1 := fun q => by unfold bitN; omega
  have hL : (btO i).length ≤ 3 := by
    rcases lt7 hi with rfl | rfl | rfl | rfl | rfl | rfl | rfl <;> decide
  have low : ∀ q : Nat, q < 3 → itemD (.list [nD (bitN i 0), nD (bitN i 1), nD (bitN i 2)]) (q : Int) = some (nD (bitN i q))
    | 0, _ => rfl
    | 1, _ => rfl
    | 2, _ => rfl
    | n + 3, h => absurd h (by omega)
  have high : ∀ q : Nat, q < 3 → itemD (.list [nD 1, nD 1, nD 1]) (q : Int) = some (nD 1)
    | 0, _ => rfl
    | 1, _ => rfl
    | 2, _ => rfl
    | n + 3, h => absurd h (by omega)
  let g1 : List Nat → List G := fun l => (l.filter fun q => decide (bitN i q = 0)).map fun q => (10, [btP i, q])
  let g2 : List Nat → List G := fun l => (l.filter fun q => decide (bitN i q = 0)).map fun q => (2, [q])
  have glen : ∀ (l : List Nat), (g1 l).length ≤ l.length ∧ (g2 l).length ≤ l.length := fun l => by
    show ((l.filter _).map _).length ≤ _ ∧ ((l.filter _).map _).length ≤ _
    rw [List.length_map, List.length_map]
    exact ⟨List.length_filter_le _ _, List.length_filter_le _ _⟩
  have snoc1 : ∀ (l : List Nat) (q : Nat), bitN i q = 0 → g1 (l ++ [q]) = g1 l ++ [(10, [btP i, q])] ∧ g2 (l ++ [q]) = g2 l ++ [(2, [q])] := fun l q h => by
    constructor
    · show ((l ++ [q]).filter _).map _ = (l.filter _).map _ ++ _
      rw [List.filter_append, List.map_append, List.filter_cons_of_pos (p := fun q => decide (bitN i q = 0)) (a := q) (l := []) (decide_eq_true h)]
      rfl
    · show ((l ++ [q]).filter _).map _ = (l.filter _).map _ ++ _
      rw [List.filter_append, List.map_append, List.filter_cons_of_pos (p := fun q => decide (bitN i q = 0)) (a := q) (l := []) (decide_eq_true h)]
      rfl
  have snoc0 : ∀ (l : List Nat) (q : Nat), ¬ bitN i q = 0 → g1 (l ++ [q]) = g1 l ∧ g2 (l ++ [q]) = g2 l := fun l q h => by
    have hd : ¬ decide (bitN i q = 0) = true := by simpa using h
    constructor
    · show ((l ++ [q]).filter _).map _ = (l.filter _).map _
      rw [List.filter_append, List.map_append, List.filter_cons_of_neg (p := fun q => decide (bitN i q = 0)) (a := q) (l := []) hd]
      simp
    · show ((l ++ [q]).filter _).map _ = (l.filter _).map _
      rw [List.filter_append, List.map_append, List.filter_cons_of_neg (p := fun q => decide (bitN i q = 0)) (a := q) (l := []) hd]
      simp
  have tk : ∀ {m q : Nat}, (btO i)[m]? = some q → (btO i).take (m + 1) = (btO i).take m ++ [q] := fun {m q} h => by
    rw [List.take_add_one, h]
    rfl
  refine Ws.cons (Wt.forL 7 (fun m ρ w => w = [(ac, Cell.L ((g1 ((btO i).take m)).map gD))] ∧ ∃ x, ρ = [.dat (nD i), .dat (nD 7), .dat (nD 3), .dat (.list [nD (bitN i 0), nD (bitN i 1), nD (bitN i 2)]), .dat (.list [nD 1, nD 1, nD 1]), .dat (.list ((btO i).map nD)), .dat (nD (btP i)), x, .own ac]) (Ev.var 5 rfl) ⟨rfl, _, rfl⟩ ?_ ?_ .never rfl hN)
  · rintro m y ρ w hm ⟨rfl, x, rfl⟩
    rw [List.getElem?_map] at hm
    cases e : (btO i)[m]? with
    | none => rw [e] at hm; cases hm
    | some q =>
      rw [e] at hm
      cases hm
      have hq := hO q (List.mem_of_getElem? e)
      have hlen := (glen ((btO i).take m)).1
      rw [List.length_take] at hlen
      refine Ws.rho (ρ' := [_, _, _, _, _, _, _, _, _]) rfl ?_
      refine Ws.cons (Wt.ite (EvT.cmp (Ev.ix (Ev.var 3 rfl) (Ev.var 7 rfl) (low q hq)) (Ev.ix (Ev.var 4 rfl) (Ev.var 7 rfl) (high q hq)) od_ne) (fun h1 => ?_) (fun h2 => ?_))
      · have h1' : bitN i q = 0 := by
          have := of_decide_eq_true h1
          rcases hb q with z | z
          · exact z
          · rw [z] at this; exact absurd rfl this
        refine Ws.cons (Wt.append 0 8 rfl (Ev.tup (ds := [_, _]) (EvA.cons Ev.str (EvA.cons (Ev.tup (ds := [_, _]) (EvA.cons (Ev.var 6 rfl) (EvA.cons (Ev.var 7 rfl) EvA.nil))) EvA.nil))) rfl ?_ (by rw [List.length_map]; omega))
        refine Ws.nil (Ws.nil ⟨?_, _, rfl⟩)
        rw [tk e, (snoc1 _ q h1').1, List.map_append]
        rfl
      · have h2' : ¬ bitN i q = 0 := by
          have := of_decide_eq_false h2
          intro z
          rw [z] at this
          exact this (by decide)
        refine Ws.nil (Ws.nil ⟨?_, _, rfl⟩)
        rw [tk e, (snoc0 _ q h2').1]
  · rintro ρ w ⟨rfl, x, rfl⟩
    rw [List.length_map, List.take_length]
    refine Ws.rho (ρ' := [_, _, _, _, _, _, _, _, _]) rfl ?_
    refine Ws.cons (Wt.forL 7 (fun m ρ w => w = [(ac, Cell.L ((g1 (btO i) ++ g2 ((btO i).take m)).map gD))] ∧ ∃ x, ρ = [.dat (nD i), .dat (nD 7), .dat (nD 3), .dat (.list [nD (bitN i 0), nD (bitN i 1), nD (bitN i 2)]), .dat (.list [nD 1, nD 1, nD 1]), .dat (.list ((btO i).map nD)), .dat (nD (btP i)), x, .own ac]) (Ev.var 5 rfl) ⟨by rw [List.take_zero]; show _ = [(ac, Cell.L ((g1 (btO i) ++ []).map gD))]; rw [List.append_nil], _, rfl⟩ ?_ ?_ .never rfl hN)
    · rintro m y ρ w hm ⟨rfl, x, rfl⟩
      rw [List.getElem?_map] at hm
      cases e : (btO i)[m]? with
      | none => rw [e] at hm; cases hm
      | some q =>
        rw [e] at hm
        cases hm
        have hq := hO q (List.mem_of_getElem? e)
        have hlen := (glen ((btO i).take m)).2
        have hlen1 := (glen (btO i)).1
        rw [List.length_take] at hlen
        refine Ws.rho (ρ' := [_, _, _, _, _, _, _, _, _]) rfl ?_
        refine Ws.cons (Wt.ite (EvT.cmp (Ev.ix (Ev.var 3 rfl) (Ev.var 7 rfl) (low q hq)) Ev.int od_eq) (fun h1 => ?_) (fun h2 => ?_))
        · have h1' : bitN i q = 0 := by
            have := of_decide_eq_true h1
            omega
          refine Ws.cons (Wt.append 0 8 rfl (Ev.tup (ds := [_, _]) (EvA.cons Ev.str (EvA.cons (Ev.tup (ds := [_]) (EvA.cons (Ev.var 7 rfl) EvA.nil)) EvA.nil))) rfl ?_ (by rw [List.length_map, List.length_append]; omega))
          refine Ws.nil (Ws.nil ⟨?_, _, rfl⟩)
          rw [tk e, (snoc1 _ q h1').2, ← List.append_assoc, List.map_append (l₂ := [(2, [q])])]
          rfl
        · have h2' : ¬ bitN i q = 0 := by
            have := of_decide_eq_false h2
            omega
          refine Ws.nil (Ws.nil ⟨?_, _, rfl⟩)
          rw [tk e, (snoc0 _ q h2').2]
    · rintro ρ w ⟨rfl, x, rfl⟩
      rw [List.length_map, List.take_length]
      refine Ws.rho (ρ' := [_, _, _, _, _, _, _, _, _]) rfl ?_
      refine Ws.freeze (i := 8) 0 rfl rfl ?_
      refine Ws.wld (w' := []) rfl ?_
      refine Ws.rho (ρ' := [_, _, _, _, _, _, _, _, _]) rfl ?_
      exact Ws.cons (Wt.ret (Ev.tup (ds := [_, _]) (EvA.cons (Ev.var 6 rfl) (EvA.cons (Ev.tupleL (Ev.var 8 rfl) M.tuple) EvA.nil))) ⟨rfl, rfl⟩)
end
end Q

namespace Q
open PySem PySem.Spec PyProof.Rows L2 Evl Pm
theorem ccx_len (a b c : Nat) : (ccx a b c).length = 15 := rfl
theorem cat_le {a b n m : Nat} (h1 : a ≤ n) (h2 : b ≤ m) (h : n + m ≤ 100000) : a + b ≤ 100000 := by omega
theorem app_le {a b : List G} {n m : Nat} (h1 : a.length ≤ n) (h2 : b.length ≤ m) : (a ++ b).length ≤ n + m := by rw [List.length_append]; omega
theorem inv_le {a : List G} {n : Nat} (h : a.length ≤ n) : (invC a).length ≤ n := by rw [invC_len]; exact h
theorem om_len (p : Nat) : (omG p).length = p := List.length_replicate ..
theorem circE_snoc : ∀ (l : List Int) (k : Nat) (e : Int), circE k (l ++ [e]) = circE k l ++ oppE (k + l.length) e
  | [], k, e => by show oppE k e ++ [] = [] ++ oppE (k + 0) e; rw [List.append_nil, List.nil_append, Nat.add_zero]
  | x :: l, k, e => by
    show oppE k x ++ circE (k + 1) (l ++ [e]) = (oppE k x ++ circE (k + 1) l) ++ oppE (k + (l.length + 1)) e
    rw [circE_snoc l (k + 1) e, List.append_assoc, show k + 1 + l.length = k + (l.length + 1) by omega]
theorem circE_len : ∀ (l : List Int) (k : Nat), k + l.length ≤ 7 → (circE k l).length ≤ 60 * l.length
  | [], _, _ => Nat.le_refl _
  | x :: l, k, h => by
    rw [List.length_cons] at h
    have h1 := opp_len (i := k) (by omega) x
    have h2 := circE_len l (k + 1) (by omega)
    show (oppE k x ++ circE (k + 1) l).length ≤ _
    rw [List.length_append, List.length_cons]
    omega
def okE (es : List Int) : Prop := (es.length = 2 ∨ es.length = 4 ∨ es.length = 8) ∧ ∀ e ∈ es, 0 ≤ e ∧ e < 8
def eD (es : List Int) : D := .tuple (es.map PyData.int)
def R_ends (n : Nat) : W → List Ag → W → D → Prop := fun w as w' r => w = [] ∧ w' = [] ∧ ∃ es : List Int, es.length = n ∧ (∀ e ∈ es, 0 ≤ e ∧ e < 8) ∧ as = [.dat (eD es)] ∧ r = .tuple [cD (endsG es).1, nD (endsG es).2]
theorem r_ends {n : Nat} {es : List Int} (h : es.length = n) (h2 : ∀ e ∈ es, 0 ≤ e ∧ e < 8) : R_ends n [] [.dat (eD es)] [] (.tuple [cD (endsG es).1, nD (endsG es).2]) := ⟨rfl, rfl, es, h, h2, rfl, rfl⟩
def R_ends_circuit : W → List Ag → W → D → Prop := fun w as w' r => w = [] ∧ w' = [] ∧ ∃ es : List Int, okE es ∧ as = [.dat (eD es)] ∧ r = .tuple [cD (endsG es).1, nD (endsG es).2]
theorem r_ends_circuit {es : List Int} (h : okE es) : R_ends_circuit [] [.dat (eD es)] [] (.tuple [cD (endsG es).1, nD (endsG es).2]) := ⟨rfl, rfl, es, h, rfl, rfl⟩
theorem len2 {es : List Int} (h : es.length = 2) : ∃ a b, es = [a, b] := by
  match es, h with
  | [a, b], _ => exact ⟨a, b, rfl⟩
theorem len4 {es : List Int} (h : es.length = 4) : ∃ a b c d, es = [a, b, c, d] := by
  match es, h with
  | [a, b, c, d], _ => exact ⟨a, b, c, d, rfl⟩
theorem len88 {es : List Int} (h : es.length = 8) : ∃ a b c d e f g i, es = [a, b, c, d, e, f, g, i] := by
  match es, h with
  | [a, b, c, d, e, f, g, i], _ => exact ⟨a, b, c, d, e, f, g, i, rfl⟩
section
variable {P : Program} {wd : World} {K : PySem.W.Frag} {mg : Str → Option Value} {base : Heap}
theorem ok__opposite_phases {f : Addr} {fd : FuncData} (F : Fun K "_opposite_phases" "_opposite_phases" s__opposite_phases f fd) (M : Blt mg) (C_bt : Cal P wd K mg base 2 "brought_together" 3 R_brought_together) (C_ccx : Cal P wd K mg base 2 "narrow_ccx" 3 R_narrow_ccx) (C_ph : Cal P wd K mg base 1 "phase_gates" 2 R_phase_gates) (C_inv : Cal P wd K mg base 2 "inverse_circuit" 1 R_inverse_circuit) : FnOk P wd K mg base CX0 3 f fd ["index", "power"] (spG K 2 R__opposite_phases) := by
  refine fn_ok F sc__opposite_phases fun cdv A outer s H E hr w as w' r hl dm h => ?_
  obtain ⟨rfl, rfl, i, p, hi, rfl, rfl⟩ := h
  clear hl dm
  have hN := sc__opposite_phases.nd
  have lb := bt_len hi
  have lp := phG_len (m8 p) (btP i)
  refine Ws.rho (ρ' := [_, _, _, _, _, _, _, _, _]) rfl ?_
  refine Ws.cons (Wt.unT (is := [2, 3]) (Ev.callC C_bt hr (EvA.cons (Ev.var 0 rfl) (EvA.cons Ev.int (EvA.cons Ev.int EvA.nil))) (r_brought_together hi)) ?_ hN rfl (.cons (i := 2) rfl (by first | exact Or.inl rfl | exact Or.inr rfl) (by first | exact .inl rfl | exact .inr rfl) rfl (.cons (i := 3) rfl (by first | exact Or.inl rfl | exact Or.inr rfl) (by first | exact .inl rfl | exact .inr rfl) rfl .nil)))
  refine Ws.rho (ρ' := [_, _, _, _, _, _, _, _, _]) rfl ?_
  refine Ws.cons (Wt.setRd 4 (compRF_run 5 (n := 3) (f := fun q => decide (q ≠ btP i)) (g := nD) (EvA.cons Ev.int EvA.nil) (by decide) (by decide) (fun q hq s H0 C cl fp => EvT.to (EvT.cmp (Ev.var 5 rfl) (Ev.var 2 rfl) od_ne) (by
    exact decide_eq_decide.mpr (by omega))) (fun q hq _ s H0 C cl fp => Ev.var 5 rfl)) (ps_compRF 4 5 (blkOk_by (N := N__opposite_phases) (sc := defScope s__opposite_phases) (by decide +kernel)) rfl hN M.range) ?_)
  refine Ws.rho (ρ' := [.dat (nD i), .dat (.int p), .dat (nD (btP i)), .dat (cD (btG i)), .dat (.list ((btO i).map nD)), _, _, _, _]) rfl ?_
  refine Ws.cons (Wt.set 6 (Ev.callC C_ccx hr (EvA.cons (Ev.ix (Ev.var 4 rfl) Ev.int (bto0 hi)) (EvA.cons (Ev.ix (Ev.var 4 rfl) Ev.int (bto1 hi)) (EvA.cons (Ev.var 2 rfl) EvA.nil))) r_narrow_ccx) ?_ hN)
  refine Ws.rho (ρ' := [_, _, _, _, _, _, _, _, _]) rfl ?_
  refine Ws.cons (Wt.set 7 (Ev.callC C_ph hr (EvA.cons (Ev.var 1 rfl) (EvA.cons (Ev.var 2 rfl) EvA.nil)) r_phase_gates) ?_ hN)
  refine Ws.rho (ρ' := [_, _, _, _, _, _, _, _, _]) rfl ?_
  have lc : (ccx ((btO i).getD 0 0) ((btO i).getD 1 0) (btP i)).length ≤ 15 := Nat.le_of_eq (ccx_len _ _ _)
  refine Ws.cons (Wt.set 8 (Ev.bin (Ev.bin (Ev.bin (Ev.var 6 rfl) (Ev.var 7 rfl) (od_catC (cat_le lc lp (by decide)))) (Ev.var 6 rfl) (od_catC (cat_le (app_le lc lp) lc (by decide)))) (Ev.callC C_inv hr (EvA.cons (Ev.var 7 rfl) EvA.nil) (r_inverse_circuit ⟨ok_ph _ _, Nat.le_trans lp (by decide)⟩)) (od_catC (cat_le (app_le (app_le lc lp) lc) (inv_le lp) (by decide)))) ?_ hN)
  refine Ws.rho (ρ' := [_, _, _, _, _, _, _, _, .dat (cD (midG i (m8 p)))]) rfl ?_
  have lm : (midG i (m8 p)).length ≤ 15 + 2 + 15 + 2 := app_le (app_le (app_le lc lp) lc) (inv_le lp)
  exact Ws.cons (Wt.ret (Ev.bin (Ev.bin (Ev.var 3 rfl) (Ev.var 8 rfl) (od_catC (cat_le lb lm (by decide)))) (Ev.callC C_inv hr (EvA.cons (Ev.var 3 rfl) EvA.nil) (r_inverse_circuit ⟨ok_bt hi, Nat.le_trans lb (by decide)⟩)) (od_catC (cat_le (app_le lb lm) (inv_le lb) (by decide)))) ⟨rfl, rfl⟩)
theorem ok__two_qubit_ends {f : Addr} {fd : FuncData} (F : Fun K "_two_qubit_ends" "_two_qubit_ends" s__two_qubit_ends f fd) (M : Blt mg) (C_om : Cal P wd K mg base 1 "omega_gates" 1 R_omega_gates) (C_ph : Cal P wd K mg base 1 "phase_gates" 2 R_phase_gates) (C_inv : Cal P wd K mg base 2 "inverse_circuit" 1 R_inverse_circuit) (C_mb : Cal P wd K mg base 2 "_mark_both" 1 (R_extra markB)) : FnOk P wd K mg base CX0 3 f fd ["ends"] (spG K 1 (R_ends 4)) := by
  refine fn_ok F sc__two_qubit_ends fun cdv A outer s H E hr w as w' r hl dm h => ?_
  obtain ⟨rfl, rfl, es, hlen, hb, rfl, rfl⟩ := h
  obtain ⟨a, b, c, d, rfl⟩ := len4 hlen
  clear hl dm hlen hb
  have hN := sc__two_qubit_ends.nd
  have l0 : (omG (m8 a)).length ≤ 8 := by rw [om_len]; exact Nat.le_of_lt (m8_lt a)
  have l1 := phG_len (m8 (c - a + (a - b - c + d) / 2)) 0
  have l2 := phG_len (m8 (b - a + (a - b - c + d) / 2)) 1
  have l3 := phG_len (m8 (-((a - b - c + d) / 2))) 1
  have lx : ([(10, [0, 1])] : List G).length ≤ 1 := Nat.le_refl _
  refine Ws.rho (ρ' := [_, _, _, _, _]) rfl ?_
  refine Ws.cons (Wt.set 1 (Ev.bin (Ev.bin (Ev.bin (Ev.ix (Ev.var 0 rfl) Ev.int) (Ev.ix (Ev.var 0 rfl) Ev.int) od_sub) (Ev.ix (Ev.var 0 rfl) Ev.int) od_sub) (Ev.ix (Ev.var 0 rfl) Ev.int) od_add) ?_ hN)
  refine Ws.rho (ρ' := [_, .dat (.int (a - b - c + d)), _, _, _]) rfl ?_
  refine Ws.cons (Wt.set 2 (Ev.bin (Ev.var 1 rfl) Ev.int (od_div (by decide))) ?_ hN)
  refine Ws.rho (ρ' := [_, _, _, _, _]) rfl ?_
  refine Ws.cons (Wt.set 3 (Ev.callC C_om hr (EvA.cons (Ev.ix (Ev.var 0 rfl) Ev.int) EvA.nil) r_omega_gates) ?_ hN)
  refine Ws.rho (ρ' := [_, _, _, _, _]) rfl ?_
  refine Ws.cons (Wt.augC 3 rfl (Ev.callC C_ph hr (EvA.cons (Ev.bin (Ev.bin (Ev.ix (Ev.var 0 rfl) Ev.int) (Ev.ix (Ev.var 0 rfl) Ev.int) od_sub) (Ev.var 2 rfl) od_add) (EvA.cons Ev.int EvA.nil)) r_phase_gates) (cat_le l0 l1 (by decide)) ?_ hN)
  refine Ws.rho (ρ' := [_, _, _, _, _]) rfl ?_
  refine Ws.cons (Wt.augC 3 rfl (Ev.callC C_ph hr (EvA.cons (Ev.bin (Ev.bin (Ev.ix (Ev.var 0 rfl) Ev.int) (Ev.ix (Ev.var 0 rfl) Ev.int) od_sub) (Ev.var 2 rfl) od_add) (EvA.cons Ev.int EvA.nil)) r_phase_gates) (cat_le (app_le l0 l1) l2 (by decide)) ?_ hN)
  refine Ws.rho (ρ' := [_, _, _, _, _]) rfl ?_
  refine Ws.cons (Wt.cut (fun ρ w => w = [] ∧ ρ = [.dat (eD [a, b, c, d]), .dat (.int (a - b - c + d)), .dat (.int ((a - b - c + d) / 2)), .dat (cD (omG (m8 a) ++ phG (m8 (c - a + (a - b - c + d) / 2)) 0 ++ phG (m8 (b - a + (a - b - c + d) / 2)) 1 ++ (if (a - b - c + d) / 2 % 8 ≠ 0 then [(10, [0, 1])] ++ phG (m8 (-((a - b - c + d) / 2))) 1 ++ [(10, [0, 1])] else []))), .none]) (Wt.ite (EvT.cmp (Ev.bin (Ev.var 2 rfl) Ev.int (od_mod (by decide))) Ev.int od_ne) (fun h1 => ?_) (fun h2 => ?_)) ?_)
  · have h1' : (a - b - c + d) / 2 % 8 ≠ 0 := of_decide_eq_true h1
    refine Ws.cons (Wt.augC 3 rfl (b := [(10, [0, 1])] ++ phG (m8 (-((a - b - c + d) / 2))) 1 ++ [(10, [0, 1])]) (Ev.bin (Ev.bin (Ev.tup (ds := [_]) (EvA.cons (Ev.tup (ds := [_, _]) (EvA.cons Ev.str (EvA.cons (Ev.tup (ds := [_, _]) (EvA.cons Ev.int (EvA.cons Ev.int EvA.nil))) EvA.nil))) EvA.nil)) (Ev.callC C_ph hr (EvA.cons (Ev.neg (Ev.var 2 rfl)) (EvA.cons Ev.int EvA.nil)) r_phase_gates) (od_catC (a := [(10, [0, 1])]) (cat_le lx l3 (by decide)))) (Ev.tup (ds := [_]) (EvA.cons (Ev.tup (ds := [_, _]) (EvA.cons Ev.str (EvA.cons (Ev.tup (ds := [_, _]) (EvA.cons Ev.int (EvA.cons Ev.int EvA.nil))) EvA.nil))) EvA.nil)) (od_catC (a := [(10, [0, 1])] ++ phG (m8 (-((a - b - c + d) / 2))) 1) (b := [(10, [0, 1])]) (cat_le (app_le lx l3) lx (by decide)))) (cat_le (app_le (app_le l0 l1) l2) (app_le (app_le lx l3) lx) (by decide)) ?_ hN)
    refine Ws.nil ⟨rfl, ?_⟩
    rw [if_pos h1']
    rfl
  · have h2' : ¬ (a - b - c + d) / 2 % 8 ≠ 0 := of_decide_eq_false h2
    refine Ws.nil ⟨rfl, ?_⟩
    rw [if_neg h2', List.append_nil]
    rfl
  · rintro ρ w ⟨rfl, rfl⟩
    have hh : ((omG (m8 a) ++ phG (m8 (c - a + (a - b - c + d) / 2)) 0 ++ phG (m8 (b - a + (a - b - c + d) / 2)) 1 ++ (if (a - b - c + d) / 2 % 8 ≠ 0 then [(10, [0, 1])] ++ phG (m8 (-((a - b - c + d) / 2))) 1 ++ [(10, [0, 1])] else [])) : List G).length ≤ 8 + 2 + 2 + (1 + 2 + 1) := by
      refine app_le (app_le (app_le l0 l1) l2) ?_
      split
      · exact app_le (app_le lx l3) lx
      · exact Nat.zero_le _
    refine Ws.rho (ρ' := [_, _, _, _, _]) rfl ?_
    refine Ws.cons (Wt.ite (EvT.cmp (Ev.bin (Ev.var 1 rfl) Ev.int (od_mod (by decide))) Ev.int od_eq) (fun h1 => ?_) (fun h2 => ?_))
    · have h1' : (a - b - c + d) % 2 = 0 := of_decide_eq_true h1
      have e1 : endsG [a, b, c, d] = (_, 0) := if_pos h1'
      rw [e1]
      exact Ws.cons (Wt.ret (Ev.tup (ds := [_, _]) (EvA.cons (Ev.var 3 rfl) (EvA.cons Ev.int EvA.nil))) ⟨rfl, rfl⟩)
    · have h2' : ¬ (a - b - c + d) % 2 = 0 := of_decide_eq_false h2
      have e1 : endsG [a, b, c, d] = (_ ++ markB 2 ++ phG (m8 1) 2 ++ invC (markB 2), 1) := if_neg h2'
      rw [e1]
      have lb : (markB 2).length ≤ 10 := by decide
      have lq := phG_len (m8 1) 2
      refine Ws.nil ?_
      refine Ws.rho (ρ' := [_, _, _, _, _]) rfl ?_
      refine Ws.cons (Wt.set 4 (Ev.callC C_mb hr (EvA.cons Ev.int EvA.nil) (r_extra (e := 2))) ?_ hN)
      refine Ws.rho (ρ' := [_, _, _, _, _]) rfl ?_
      exact Ws.cons (Wt.ret (Ev.tup (ds := [_, _]) (EvA.cons (Ev.bin (Ev.bin (Ev.bin (Ev.var 3 rfl) (Ev.var 4 rfl) (od_catC (cat_le hh lb (by decide)))) (Ev.callC C_ph hr (EvA.cons Ev.int (EvA.cons Ev.int EvA.nil)) (r_phase_gates (q := 2))) (od_catC (cat_le (app_le hh lb) lq (by decide)))) (Ev.callC C_inv hr (EvA.cons (Ev.var 4 rfl) EvA.nil) (r_inverse_circuit ⟨all_ok (by decide), by decide⟩)) (od_catC (cat_le (app_le (app_le hh lb) lq) (inv_le lb) (by decide)))) (EvA.cons Ev.int EvA.nil))) ⟨rfl, rfl⟩)
theorem ok__three_qubit_ends {f : Addr} {fd : FuncData} (F : Fun K "_three_qubit_ends" "_three_qubit_ends" s__three_qubit_ends f fd) (M : Blt mg) (m_sum : mg "sum" = none) (C_opp : Cal P wd K mg base 3 "_opposite_phases" 2 R__opposite_phases) (C_ccz : Cal P wd K mg base 1 "narrow_ccz" 3 R_narrow_ccz) (C_ph : Cal P wd K mg base 1 "phase_gates" 2 R_phase_gates) (C_inv : Cal P wd K mg base 2 "inverse_circuit" 1 R_inverse_circuit) (C_ma : Cal P wd K mg base 2 "_mark_all" 1 (R_extra markA)) : FnOk P wd K mg base CX0 4 f fd ["ends"] (spG K 1 (R_ends 8)) := by
  refine fn_ok F sc__three_qubit_ends fun cdv A outer s H E hr w as w' r hl dm h => ?_
  obtain ⟨rfl, rfl, es, hlen, hb, rfl, rfl⟩ := h
  clear hl dm hb
  have hN := sc__three_qubit_ends.nd
  have eg : endsG es = threeG es := by
    unfold endsG
    rw [if_neg (by omega), if_neg (by omega)]
  rw [eg]
  have l7 : (es.take 7).length = 7 := by rw [List.length_take]; omega
  refine Ws.rho (ρ' := [_, _, _, _, _]) rfl ?_
  refine Ws.cons (Wt.set 1 (Ev.to (d1 := cD []) (Ev.tup (ds := []) EvA.nil) rfl) ?_ hN)
  refine Ws.rho (ρ' := [_, _, _, _, _]) rfl ?_
  refine Ws.cons (Wt.forR1 2 (n := 7) (fun i ρ w => w = [] ∧ ∃ x, ρ = [.dat (eD es), .dat (cD (circE 0 ((es.take 7).take i))), x, .none, .none]) (EvA.cons Ev.int EvA.nil) (by decide) ⟨rfl, _, rfl⟩ ?_ ?_ .never rfl hN M.range)
  · rintro i ρ w hi ⟨rfl, x, rfl⟩
    have hi : i < 7 := hi
    have hie : i < es.length := by omega
    have hix : itemD (eD es) (i : Int) = some (.int es[i]) := item_nat (by rw [List.getElem?_map, List.getElem?_eq_getElem hie]; rfl)
    have ht : (es.take 7).take (i + 1) = (es.take 7).take i ++ [es[i]] := by
      rw [List.take_add_one, List.getElem?_take_of_lt hi, List.getElem?_eq_getElem hie]
      rfl
    have hl7 : ((es.take 7).take i).length = i := by rw [List.length_take, l7]; omega
    have hc : circE 0 ((es.take 7).take (i + 1)) = circE 0 ((es.take 7).take i) ++ oppE i es[i] := by
      rw [ht, circE_snoc, hl7, Nat.zero_add]
    have hcl := circE_len ((es.take 7).take i) 0 (by rw [hl7]; omega)
    rw [hl7] at hcl
    refine Ws.rho (ρ' := [_, _, _, _, _]) rfl ?_
    refine Ws.cons (Wt.ite (EvT.cmp (Ev.ix (Ev.var 0 rfl) (Ev.var 2 rfl) hix) Ev.int od_ne) (fun h1 => ?_) (fun h2 => ?_))
    · have h1' : es[i] ≠ 0 := of_decide_eq_true h1
      have eo : oppE i es[i] = oppG i (m8 es[i]) := if_pos h1'
      have lo := opp_len hi es[i]
      rw [eo] at lo
      refine Ws.cons (Wt.augC 1 rfl (Ev.callC C_opp hr (EvA.cons (Ev.var 2 rfl) (EvA.cons (Ev.ix (Ev.var 0 rfl) (Ev.var 2 rfl) hix) EvA.nil)) (r__opposite_phases hi)) (by omega) ?_ hN)
      refine Ws.nil (Ws.nil ⟨rfl, .dat (.int (i : Int)), ?_⟩)
      rw [hc, eo]
      first | done | rfl
    · have h2' : ¬ es[i] ≠ 0 := of_decide_eq_false h2
      have eo : oppE i es[i] = [] := if_neg h2'
      refine Ws.nil (Ws.nil ⟨rfl, .dat (.int (i : Int)), ?_⟩)
      rw [hc, eo, List.append_nil]
  · rintro ρ w ⟨rfl, x, rfl⟩
    have e7 : (es.take 7).take (7 : Int).toNat = es.take 7 := List.take_of_length_le (by rw [l7]; decide)
    rw [e7]
    have hcl := circE_len (es.take 7) 0 (by omega)
    rw [l7] at hcl
    refine Ws.rho (ρ' := [_, _, _, _, _]) rfl ?_
    refine Ws.cons (Wt.set 3 (Ev.bin (Ev.sumT (Ev.var 0 rfl) m_sum rfl) Ev.int (od_mod (by decide))) ?_ hN)
    refine Ws.rho (ρ' := [_, _, _, _, _]) rfl ?_
    refine Ws.cons (Wt.ite (EvT.cmp (Ev.var 3 rfl) Ev.int od_eq) (fun h1 => ?_) (fun h2 => ?_))
    · have h1' : es.sum % 8 = 0 := of_decide_eq_true h1
      have e1 : threeG es = (circE 0 (es.take 7), 0) := if_pos h1'
      rw [e1]
      exact Ws.cons (Wt.ret (Ev.tup (ds := [_, _]) (EvA.cons (Ev.var 1 rfl) (EvA.cons Ev.int EvA.nil))) ⟨rfl, rfl⟩)
    · have h2' : ¬ es.sum % 8 = 0 := of_decide_eq_false h2
      refine Ws.nil ?_
      refine Ws.cons (Wt.ite (EvT.cmp (Ev.var 3 rfl) Ev.int od_eq) (fun h3 => ?_) (fun h4 => ?_))
      · have h3' : es.sum % 8 = 4 := of_decide_eq_true h3
        have e1 : threeG es = (circE 0 (es.take 7) ++ ccz 0 1 2, 0) := (if_neg h2').trans (if_pos h3')
        rw [e1]
        have lz : (ccz 0 1 2).length ≤ 13 := by decide
        exact Ws.cons (Wt.ret (Ev.tup (ds := [_, _]) (EvA.cons (Ev.bin (Ev.var 1 rfl) (Ev.callC C_ccz hr (EvA.cons Ev.int (EvA.cons Ev.int (EvA.cons Ev.int EvA.nil))) (r_narrow_ccz (a := 0) (b := 1) (c := 2))) (od_catC (cat_le hcl lz (by decide)))) (EvA.cons Ev.int EvA.nil))) ⟨rfl, rfl⟩)
      · have h4' : ¬ es.sum % 8 = 4 := of_decide_eq_false h4
        have e1 : threeG es = (circE 0 (es.take 7) ++ markA 3 ++ phG (m8 (es.sum % 8)) 3 ++ invC (markA 3), 1) := (if_neg h2').trans (if_neg h4')
        rw [e1]
        have lb : (markA 3).length ≤ 18 := by decide
        have lq := phG_len (m8 (es.sum % 8)) 3
        refine Ws.nil ?_
        refine Ws.rho (ρ' := [_, _, _, _, _]) rfl ?_
        refine Ws.cons (Wt.set 4 (Ev.callC C_ma hr (EvA.cons Ev.int EvA.nil) (r_extra (e := 3))) ?_ hN)
        refine Ws.rho (ρ' := [_, _, _, _, _]) rfl ?_
        exact Ws.cons (Wt.ret (Ev.tup (ds := [_, _]) (EvA.cons (Ev.bin (Ev.bin (Ev.bin (Ev.var 1 rfl) (Ev.var 4 rfl) (od_catC (cat_le hcl lb (by decide)))) (Ev.callC C_ph hr (EvA.cons (Ev.var 3 rfl) (EvA.cons Ev.int EvA.nil)) (r_phase_gates (q := 3))) (od_catC (cat_le (app_le hcl lb) lq (by decide)))) (Ev.callC C_inv hr (EvA.cons (Ev.var 4 rfl) EvA.nil) (r_inverse_circuit ⟨all_ok (by decide), by decide⟩)) (od_catC (cat_le (app_le (app_le hcl lb) lq) (inv_le lb) (by decide)))) (EvA.cons Ev.int EvA.nil))) ⟨rfl, rfl⟩)
theorem ok_ends_circuit {f : Addr} {fd : FuncData} (F : Fun K "ends_circuit" "ends_circuit" s_ends_circuit f fd) (M : Blt mg) (C_om : Cal P wd K mg base 1 "omega_gates" 1 R_omega_gates) (C_ph : Cal P wd K mg base 1 "phase_gates" 2 R_phase_gates) (C_two : Cal P wd K mg base 3 "_two_qubit_ends" 1 (R_ends 4)) (C_three : Cal P wd K mg base 4 "_three_qubit_ends" 1 (R_ends 8)) : FnOk P wd K mg base CX0 5 f fd ["ends"] (spG K 1 R_ends_circuit) := by
  refine fn_ok F sc_ends_circuit fun cdv A outer s H E hr w as w' r hl dm h => ?_
  obtain ⟨rfl, rfl, es, ⟨hlen, hb⟩, rfl, rfl⟩ := h
  clear hl dm
  refine Ws.rho (ρ' := [_]) rfl ?_
  have hD : lenD (eD es) = some es.length := by show some (es.map PyData.int).length = _; rw [List.length_map]
  rcases hlen with h2 | h4 | h8
  · obtain ⟨a, b, rfl⟩ := len2 h2
    refine Ws.cons (Wt.iteT (EvT.to (EvT.cmp (Ev.lenC (Ev.var 0 rfl) M.len hD) Ev.int od_eq) rfl) ?_)
    have l0 : (omG (m8 a)).length ≤ 8 := by rw [om_len]; exact Nat.le_of_lt (m8_lt a)
    exact Ws.cons (Wt.ret (Ev.tup (ds := [_, _]) (EvA.cons (Ev.bin (Ev.callC C_om hr (EvA.cons (Ev.ix (Ev.var 0 rfl) Ev.int) EvA.nil) r_omega_gates) (Ev.callC C_ph hr (EvA.cons (Ev.bin (Ev.ix (Ev.var 0 rfl) Ev.int) (Ev.ix (Ev.var 0 rfl) Ev.int) od_sub) (EvA.cons Ev.int EvA.nil)) (r_phase_gates (q := 0))) (od_catC (cat_le l0 (phG_len _ 0) (by decide)))) (EvA.cons Ev.int EvA.nil))) ⟨rfl, rfl⟩)
  · refine Ws.cons (Wt.skip (EvT.to (EvT.cmp (Ev.lenC (Ev.var 0 rfl) M.len hD) Ev.int od_eq) (by rw [h4]; rfl)) ?_)
    refine Ws.cons (Wt.iteT (EvT.to (EvT.cmp (Ev.lenC (Ev.var 0 rfl) M.len hD) Ev.int od_eq) (by rw [h4]; rfl)) ?_)
    exact Ws.cons (Wt.ret (Ev.callC C_two hr (EvA.cons (Ev.var 0 rfl) EvA.nil) (r_ends h4 hb)) ⟨rfl, rfl⟩)
  · refine Ws.cons (Wt.skip (EvT.to (EvT.cmp (Ev.lenC (Ev.var 0 rfl) M.len hD) Ev.int od_eq) (by rw [h8]; rfl)) ?_)
    refine Ws.cons (Wt.skip (EvT.to (EvT.cmp (Ev.lenC (Ev.var 0 rfl) M.len hD) Ev.int od_eq) (by rw [h8]; rfl)) ?_)
    exact Ws.cons (Wt.ret (Ev.callC C_three hr (EvA.cons (Ev.var 0 rfl) EvA.nil) (r_ends h8 hb)) ⟨rfl, rfl⟩)
end
end Q

namespace Q
open PySem PySem.Spec PyProof.Rows L2 Evl Pm
local macro_rules | `(tactic| walk_at "side") => `(tactic| first | omega | decide | assumption | (refine ⟨?_, ?_⟩ <;> omega) | (refine ⟨?_, ?_⟩ <;> decide))
local macro_rules | `(tactic| walk_at "od") => `(tactic| first
  | exact od_add | exact od_sub | exact od_eq | exact od_lt | exact od_gt | exact od_le | exact od_ge | exact od_ne
  | exact od_mod (by walk_at "side") | exact od_div (by walk_at "side")
  | exact od_mul (.inl (by walk_at "side")) | exact od_mul (.inr (by walk_at "side"))
  | exact od_pow ⟨by decide, by decide, by decide⟩
  | exact od_isN | exact od_isB | exact od_isNotN)

structure Src where
  g : Int
  s : Int
  c : Int
abbrev Src.L (S : Src) : List D := [.int S.g, .int S.s, .int S.c]
def drawX (s c : Int) : Int :=
  let x := (s + c * 2654435761) % 4294967291
  let x := (x * x + 40503 * c + 7) % 4294967291
  let x := (x * x + 69621 * x + c) % 4294967279
  x / 64
def draw (S : Src) (m : Int) : Int := if 0 < S.g then S.g % m else drawX S.s (S.c + 1) % m
def drawS (S : Src) (m : Int) : Src := if 0 < S.g then ⟨S.g / m, S.s, S.c⟩ else ⟨S.g, S.s, S.c + 1⟩
theorem draw_lt (S : Src) {m : Int} (h : 0 < m) : 0 ≤ draw S m ∧ draw S m < m := by
  unfold draw
  split
  · exact ⟨Int.emod_nonneg _ (by omega), Int.emod_lt_of_pos _ h⟩
  · exact ⟨Int.emod_nonneg _ (by omega), Int.emod_lt_of_pos _ h⟩
abbrev Q4.T (x : Q4) : D := .tuple [.int x.a, .int x.b, .int x.c, .int x.d]
abbrev Q4.L (x : Q4) : List D := [.int x.a, .int x.b, .int x.c, .int x.d]
abbrev Q5.D (x : Q5) : D := .tuple [.int x.a, .int x.b, .int x.c, .int x.d, .int x.k]
def R__law_draw : W → List Ag → W → D → Prop := fun w as w' r => ∃ (p : Addr) (S : Src) (m : Int), w = [(p, Cell.L S.L)] ∧ w' = [(p, Cell.L (drawS S m).L)] ∧ as = [.own p, .dat (.int m)] ∧ (0 < m ∧ m < 1073741824) ∧ r = .int (draw S m)
theorem r__law_draw {p : Addr} {S : Src} {m : Int} (h : 0 < m ∧ m < 1073741824 := by walk_at "side") : R__law_draw [(p, Cell.L S.L)] [.own p, .dat (.int m)] [(p, Cell.L (drawS S m).L)] (.int (draw S m)) := ⟨p, S, m, rfl, rfl, rfl, h, rfl⟩
/-- the first four items -/
def Its (d : D) (x : Q4) : Prop := itemD d 0 = some (.int x.a) ∧ itemD d 1 = some (.int x.b) ∧ itemD d 2 = some (.int x.c) ∧ itemD d 3 = some (.int x.d)
theorem its4 (x : Q4) : Its x.T x := ⟨rfl, rfl, rfl, rfl⟩
def R__law_form : W → List Ag → W → D → Prop := fun w as w' r => w = [] ∧ w' = [] ∧ ∃ (a b c d k : Int), as = [.dat (.int a), .dat (.int b), .dat (.int c), .dat (.int d), .dat (.int k)] ∧ (0 ≤ k ∧ k ≤ 100000) ∧ r = (redQ k.toNat ⟨a, b, c, d⟩).D
theorem r__law_form {a b c d k : Int} (h : 0 ≤ k ∧ k ≤ 100000) : R__law_form [] [.dat (.int a), .dat (.int b), .dat (.int c), .dat (.int d), .dat (.int k)] [] (redQ k.toNat ⟨a, b, c, d⟩).D := ⟨rfl, rfl, a, b, c, d, k, rfl, h, rfl⟩
def R__law_add : W → List Ag → W → D → Prop := fun w as w' r => w = [] ∧ w' = [] ∧ ∃ (x y : Q4), as = [.dat x.T, .dat y.T] ∧ r = (add4 x y).T
theorem r__law_add {x y : Q4} : R__law_add [] [.dat x.T, .dat y.T] [] (add4 x y).T := ⟨rfl, rfl, x, y, rfl, rfl⟩
def R__law_turned : W → List Ag → W → D → Prop := fun w as w' r => w = [] ∧ w' = [] ∧ ∃ (p : D) (x : Q4) (j : Int), as = [.dat p, .dat (.int j)] ∧ Its p x ∧ r = (turnN (j % 8).toNat x).T
theorem r__law_turned {p : D} {x : Q4} {j : Int} (hp : Its p x) : R__law_turned [] [.dat p, .dat (.int j)] [] (turnN (j % 8).toNat x).T := ⟨rfl, rfl, p, x, j, rfl, hp, rfl⟩
section
variable {P : Program} {wd : World} {K : PySem.W.Frag} {mg : Str → Option Value} {base : Heap}
theorem mem_len {S : Src} : (S.L).length = 3 := rfl
theorem ok__law_draw {f : Addr} {fd : FuncData} (F : Fun K "_law_draw" "_law_draw" s__law_draw f fd) (m_int : mg "int" = none) : FnOk P wd K mg base CX0 1 f fd ["source", "many"] (spG K 2 R__law_draw) := by
  refine fn_ok F sc__law_draw fun cdv A outer s H E hr w as w' r hl dm h => ?_
  obtain ⟨p, S, m, rfl, rfl, rfl, hm, rfl⟩ := h
  have hN := sc__law_draw.nd
  refine Ws.cons (Wt.ite (EvT.cmp (Ev.ixO 0 0 rfl rfl Ev.int rfl) Ev.int (by walk_at "od")) (fun h1 => ?_) (fun h2 => ?_))
  ·
    have h1' : 0 < S.g := of_decide_eq_true h1
    refine Ws.cons (Wt.set 2 (Ev.bin (Ev.intC (Ev.ixO 0 0 rfl rfl Ev.int rfl) m_int) (Ev.var 1 rfl) (by walk_at "od")) ?_ hN)
    refine Ws.cons (Wt.setIx 0 0 rfl (Ev.bin (Ev.ixO 0 0 rfl rfl Ev.int rfl) (Ev.var 1 rfl) (by walk_at "od")) Ev.int rfl rfl ?_)
    refine Ws.cons (Wt.ret (Ev.var 2 rfl) ⟨?_, ?_⟩)
    · unfold draw
      rw [if_pos h1']
    · unfold drawS
      rw [if_pos h1']
      rfl
  ·
    have h2' : ¬ 0 < S.g := of_decide_eq_false h2
    refine Ws.nil ?_
    refine Ws.cons (Wt.setIx 0 0 rfl (Ev.bin (Ev.ixO 0 0 rfl rfl Ev.int rfl) Ev.int (by walk_at "od")) Ev.int rfl rfl ?_)
    refine Ws.cons (Wt.set 3 (Ev.bin (Ev.intC (Ev.bin (Ev.ixO 0 0 rfl rfl Ev.int rfl) (Ev.bin (Ev.ixO 0 0 rfl rfl Ev.int rfl) Ev.int (by walk_at "od")) (by walk_at "od")) m_int) Ev.int (by walk_at "od")) ?_ hN)
    refine Ws.cons (Wt.set 3 (Ev.bin (Ev.intC (Ev.bin (Ev.bin (Ev.bin (Ev.var 3 rfl) (Ev.var 3 rfl) (by walk_at "od")) (Ev.bin Ev.int (Ev.ixO 0 0 rfl rfl Ev.int rfl) (by walk_at "od")) (by walk_at "od")) Ev.int (by walk_at "od")) m_int) Ev.int (by walk_at "od")) ?_ hN)
    refine Ws.cons (Wt.set 3 (Ev.bin (Ev.intC (Ev.bin (Ev.bin (Ev.bin (Ev.var 3 rfl) (Ev.var 3 rfl) (by walk_at "od")) (Ev.bin Ev.int (Ev.var 3 rfl) (by walk_at "od")) (by walk_at "od")) (Ev.ixO 0 0 rfl rfl Ev.int rfl) (by walk_at "od")) m_int) Ev.int (by walk_at "od")) ?_ hN)
    refine Ws.cons (Wt.ret (Ev.bin (Ev.intC (Ev.bin (Ev.var 3 rfl) Ev.int (by walk_at "od")) m_int) (Ev.var 1 rfl) (by walk_at "od")) ⟨?_, ?_⟩)
    · unfold draw
      rw [if_neg h2']
      rfl
    · unfold drawS
      rw [if_neg h2']
      rfl
def seedL : List D → Int → Int
  | .int z :: r, s => seedL r ((s * 1000003 + z % 2147483647 + 1) % 4294967291)
  | _, s => s
def greatOf : List Int → Int
  | [] => 0
  | n :: _ => if 1000000000000000000 ≤ (if n < 0 then -n else n) then (if n < 0 then -n else n) - 1000000000000000000 else 0
def srcOf (ns : List Int) : Src := ⟨greatOf ns, seedL (cutP (ns.map PyData.int) none (some 63)) 0, 0⟩
def R__law_source : W → List Ag → W → List D → Prop := fun w as w' r => w = [] ∧ w' = [] ∧ ∃ ns : List Int, as = [.dat (.list (ns.map PyData.int))] ∧ r = (srcOf ns).L
theorem r__law_source {ns : List Int} : R__law_source [] [.dat (.list (ns.map PyData.int))] [] (srcOf ns).L := ⟨rfl, rfl, ns, rfl, rfl⟩
theorem cut_mem {ds : List D} {lo hi : Option Int} {y : D} (h : y ∈ cutP ds lo hi) : y ∈ ds := by
  unfold cutP at h
  exact List.mem_of_mem_drop (List.mem_of_mem_take h)
theorem ok__law_source {f : Addr} {fd : FuncData} (F : Fun K "_law_source" "_law_source" s__law_source f fd) (m_int : mg "int" = none) (m_len : mg "len" = none) (m_abs : mg "abs" = none) : FnOk P wd K mg base CX0 1 f fd ["script"] (spN K 1 R__law_source) := by
  refine fn_okN F sc__law_source fun cdv A outer s H E hr w as w' r hl dm h => ?_
  obtain ⟨rfl, rfl, ns, rfl, rfl⟩ := h
  have hN := sc__law_source.nd
  refine Ws.cons (Wt.set 1 Ev.int ?_ hN)
  refine Ws.cons (Wt.forL 2 (fun i ρ w => w = [] ∧ ∃ z x, ρ = [.dat (.list (ns.map PyData.int)), .dat (.int z), x, .none] ∧ seedL ((cutP (ns.map PyData.int) none (some 63)).drop i) z = seedL (cutP (ns.map PyData.int) none (some 63)) 0) (EvN.ev (EvN.slL (Ev.var 0 rfl) EvP.none (EvP.some Ev.int))) ⟨rfl, _, _, rfl, rfl⟩ ?_ ?_ .never rfl hN)
  · rintro i y ρ w hi ⟨rfl, z, x, rfl, e⟩
    obtain ⟨v, _, rfl⟩ := List.mem_map.mp (cut_mem (List.mem_of_getElem? hi))
    refine Ws.cons (Wt.set 1 (Ev.bin (Ev.intC (Ev.bin (Ev.bin (Ev.bin (Ev.var 1 rfl) Ev.int (by walk_at "od")) (Ev.bin (Ev.intC (Ev.var 2 rfl) m_int) Ev.int (by walk_at "od")) (by walk_at "od")) Ev.int (by walk_at "od")) m_int) Ev.int (by walk_at "od")) ?_ hN)
    refine Ws.nil ?_
    refine ⟨rfl, _, _, rfl, ?_⟩
    rw [← e]
    obtain ⟨hlt, ei⟩ := List.getElem?_eq_some_iff.mp hi
    rw [List.drop_eq_getElem_cons hlt, ei]
    rfl
  · rintro ρ w ⟨rfl, z, x, rfl, e⟩
    have e2 : seedL (cutP (ns.map PyData.int) none (some 63)) 0 = z := by
      rw [← e, List.drop_length]
      rfl
    refine Ws.cons (Wt.set 3 Ev.int ?_ hN)
    cases ns with
    | nil =>
      refine Ws.cons (Wt.skip (EvT.to (EvT.of (EvW.and (j := false) (EvT.cmp (Ev.lenC (Ev.var 0 rfl) m_len) Ev.int (by walk_at "od")) fun h3 => absurd (of_decide_eq_true h3) (by simp))) (Bool.and_false _)) ?_)
      refine Ws.cons (Wt.retNew (EvN.lst (ds := [_, _, _]) (EvA.cons (Ev.var 3 rfl) (EvA.cons (Ev.var 1 rfl) (EvA.cons Ev.int EvA.nil)))) ⟨?_, rfl⟩)
      unfold srcOf
      rw [e2]
      rfl
    | cons n ns =>
      refine Ws.cons (Wt.ite (EvT.of (EvW.and (EvT.cmp (Ev.lenC (Ev.var 0 rfl) m_len) Ev.int (by walk_at "od")) fun h3 => (EvW.and1 (EvT.cmp (Ev.absC (Ev.ix (Ev.var 0 rfl) Ev.int (item_natL (i := 0) rfl)) m_abs) (Ev.bin Ev.int Ev.int (by walk_at "od")) (by walk_at "od"))))) (fun h1 => ?_) (fun h2 => ?_))
      ·
        refine Ws.cons (Wt.set 3 (Ev.bin (Ev.absC (Ev.ix (Ev.var 0 rfl) Ev.int (item_natL (i := 0) rfl)) m_abs) (Ev.bin Ev.int Ev.int (by walk_at "od")) (by walk_at "od")) ?_ hN)
        refine Ws.nil ?_
        refine Ws.cons (Wt.retNew (EvN.lst (ds := [_, _, _]) (EvA.cons (Ev.var 3 rfl) (EvA.cons (Ev.var 1 rfl) (EvA.cons Ev.int EvA.nil)))) ⟨?_, rfl⟩)
        unfold srcOf
        rw [e2]
        have h1' : (1000000000000000000 : Int) ≤ (if n < 0 then -n else n) := of_decide_eq_true ((Bool.and_eq_true_iff.mp h1).2)
        have eg : greatOf (n :: ns) = (if n < 0 then -n else n) - 1000000000000000000 := if_pos h1'
        rw [eg]
        rfl
      ·
        refine Ws.nil ?_
        refine Ws.cons (Wt.retNew (EvN.lst (ds := [_, _, _]) (EvA.cons (Ev.var 3 rfl) (EvA.cons (Ev.var 1 rfl) (EvA.cons Ev.int EvA.nil)))) ⟨?_, rfl⟩)
        unfold srcOf
        rw [e2]
        have hl0 : decide ((0 : Int) < (((n :: ns).map PyData.int).length : Nat)) = true := decide_eq_true (by rw [List.length_map, List.length_cons]; omega)
        have h2' : ¬ (1000000000000000000 : Int) ≤ (if n < 0 then -n else n) := of_decide_eq_false (by
          rcases Bool.and_eq_false_iff.mp h2 with z | z
          · exact absurd hl0 (by rw [z]; decide)
          · exact z)
        have eg : greatOf (n :: ns) = 0 := if_neg h2'
        rw [eg]

def Okd : Nat → D → Prop
  | _, .int _ => True
  | _, .str _ => True
  | n + 1, .tuple ds => ds.length ≤ 1000 ∧ ∀ x ∈ ds, Okd n x
  | _, _ => False
def R__law_same (n : Nat) : W → List Ag → W → D → Prop := fun w as w' r => w = [] ∧ w' = [] ∧ ∃ d, Okd n d ∧ as = [.dat d, .dat d] ∧ r = .bool true
theorem r__law_same {n : Nat} {d : D} (h : Okd n d) : R__law_same n [] [.dat d, .dat d] [] (.bool true) := ⟨rfl, rfl, d, h, rfl, rfl⟩
theorem ok__law_same {f : Addr} {fd : FuncData} (F : Fun K "_law_same" "_law_same" s__law_same f fd) (M : Blt mg) (n : Nat) (C__law_same : ∀ m, n = m + 1 → Cal P wd K mg base n "_law_same" 2 (R__law_same m)) : FnOk P wd K mg base CX0 (n + 1) f fd ["told", "due"] (spG K 2 (R__law_same n)) := by
  refine fn_ok F sc__law_same fun cdv A outer s H E hr w as w' r hl dm h => ?_
  obtain ⟨rfl, rfl, d, hd, rfl, rfl⟩ := h
  have hN := sc__law_same.nd
  cases d with
  | int i =>
    refine Ws.cons (Wt.skip (EvT.cmp (Ev.var 1 rfl) Ev.non od_isN) ?_)
    refine Ws.cons (Wt.skip (EvT.cmp (Ev.var 1 rfl) Ev.bl od_isB) ?_)
    refine Ws.cons (Wt.skip (EvT.cmp (Ev.var 1 rfl) Ev.bl od_isB) ?_)
    refine Ws.cons (Wt.iteT (EvT.val (Ev.isi (T := "int") (Ev.var 1 rfl) kit_int_int M.isinstance M.int bt_int)) ?_)
    refine Ws.cons (Wt.ret (Ev.and (Ev.isi (k := true) (T := "int") (Ev.var 0 rfl) kit_int_int M.isinstance M.int bt_int) fun h9 => (Ev.and (Ev.not (Ev.isi (k := false) (T := "bool") (Ev.var 0 rfl) kit_int_bool M.isinstance M.bool bt_bool)) fun h10 => (Ev.bone (Ev.cmp (Ev.var 0 rfl) (Ev.var 1 rfl) (by walk_at "od"))))) ⟨?_, rfl⟩)
    simp
  | tuple ds =>
    cases n with
    | zero => exact hd.elim
    | succ m =>
      have C := C__law_same m rfl
      obtain ⟨hz, hd⟩ := hd
      refine Ws.cons (Wt.skip (EvT.cmp (Ev.var 1 rfl) Ev.non od_isN) ?_)
      refine Ws.cons (Wt.skip (EvT.cmp (Ev.var 1 rfl) Ev.bl od_isB) ?_)
      refine Ws.cons (Wt.skip (EvT.cmp (Ev.var 1 rfl) Ev.bl od_isB) ?_)
      refine Ws.cons (Wt.skip (EvT.val (Ev.isi (T := "int") (Ev.var 1 rfl) kit_tuple_int M.isinstance M.int bt_int)) ?_)
      refine Ws.cons (Wt.skip (EvT.val (Ev.isi (T := "str") (Ev.var 1 rfl) kit_tuple_str M.isinstance M.str bt_str)) ?_)
      refine Ws.cons (Wt.iteT (EvT.val (Ev.isi (T := "tuple") (Ev.var 1 rfl) kit_tuple_tuple M.isinstance M.tuple bt_tuple)) ?_)
      refine Ws.cons (Wt.skip (EvT.to (EvT.of (EvW.or (EvT.not (EvT.val (Ev.isi (k := true) (T := "tuple") (Ev.var 0 rfl) kit_tuple_tuple M.isinstance M.tuple bt_tuple))) fun h18 => (EvW.or1 (EvT.cmp (Ev.lenC (Ev.var 0 rfl) M.len) (Ev.lenC (Ev.var 1 rfl) M.len) (by walk_at "od"))))) (by simp)) ?_)
      refine Ws.nil ?_
      refine Ws.cons (Wt.forR1 2 (fun i ρ w => w = [] ∧ ∃ x, ρ = [.dat (.tuple ds), .dat (.tuple ds), x]) (EvA.cons (Ev.lenC (Ev.var 1 rfl) M.len) EvA.nil) ⟨by omega, by omega⟩ ⟨rfl, _, rfl⟩ ?_ ?_ .never rfl hN M.range)
      · rintro i ρ w hi ⟨rfl, x, rfl⟩
        have hi' : i < ds.length := by omega
        have hx : itemD (.tuple ds) (i : Int) = some ds[i] := item_nat (List.getElem?_eq_getElem hi')
        refine Ws.cons (Wt.skip (EvT.not (EvT.val (Ev.callC C hr (EvA.cons (Ev.ix (Ev.var 0 rfl) (Ev.var 2 rfl) hx) (EvA.cons (Ev.ix (Ev.var 1 rfl) (Ev.var 2 rfl) hx) EvA.nil)) (r__law_same (hd _ (List.getElem_mem hi'))) rfl (Nat.le_refl _)))) ?_)
        exact Ws.nil ⟨rfl, _, rfl⟩
      · rintro ρ w ⟨rfl, x, rfl⟩
        exact Ws.cons (Wt.ret Ev.bl ⟨rfl, rfl⟩)
  | none => cases n <;> exact hd.elim
  | bool _ => cases n <;> exact hd.elim
  | str i =>
    refine Ws.cons (Wt.skip (EvT.cmp (Ev.var 1 rfl) Ev.non od_isN) ?_)
    refine Ws.cons (Wt.skip (EvT.cmp (Ev.var 1 rfl) Ev.bl od_isB) ?_)
    refine Ws.cons (Wt.skip (EvT.cmp (Ev.var 1 rfl) Ev.bl od_isB) ?_)
    refine Ws.cons (Wt.skip (EvT.val (Ev.isi (T := "int") (Ev.var 1 rfl) kit_str_int M.isinstance M.int bt_int)) ?_)
    refine Ws.cons (Wt.iteT (EvT.val (Ev.isi (T := "str") (Ev.var 1 rfl) kit_str_str M.isinstance M.str bt_str)) ?_)
    refine Ws.cons (Wt.ret (Ev.and (Ev.isi (k := true) (T := "str") (Ev.var 0 rfl) kit_str_str M.isinstance M.str bt_str) fun h9 => (Ev.bone (Ev.cmp (Ev.var 0 rfl) (Ev.var 1 rfl) od_eqS))) ⟨?_, rfl⟩)
    simp
  | list _ => cases n <;> exact hd.elim
  | dict _ => cases n <;> exact hd.elim
theorem ok__law_form {f : Addr} {fd : FuncData} (F : Fun K "_law_form" "_law_form" s__law_form f fd) (M : Blt mg) : FnOk P wd K mg base CX0 1 f fd ["a", "b", "c", "d", "k"] (spG K 5 R__law_form) := by
  refine fn_ok F sc__law_form fun cdv A outer s H E hr w as w' r hl dm h => ?_
  obtain ⟨rfl, rfl, a, b, c, d, k, rfl, hk, rfl⟩ := h
  clear hl dm
  have hN := sc__law_form.nd
  refine Ws.rho (ρ' := [_, _, _, _, _, _]) rfl ?_
  refine Ws.cons (Wt.cut (fun ρ w => w = [] ∧ ∃ (y : Q5) (x : Pm.Slot), ρ = [.dat (.int y.a), .dat (.int y.b), .dat (.int y.c), .dat (.int y.d), .dat (.int y.k), x] ∧ redQ k.toNat ⟨a, b, c, d⟩ = y)
    (Wt.forR1 5 (fun i ρ w => w = [] ∧ ∃ (y : Q4) (x : Pm.Slot), ρ = [.dat (.int y.a), .dat (.int y.b), .dat (.int y.c), .dat (.int y.d), .dat (.int (k - i)), x] ∧ redQ (k.toNat - i) y = redQ k.toNat ⟨a, b, c, d⟩) (EvA.cons (Ev.var 4 rfl) EvA.nil) ⟨by omega, by omega⟩ ⟨rfl, ⟨a, b, c, d⟩, _, by rw [show k - ((0 : Nat) : Int) = k by omega]; rfl, rfl⟩ ?_ ?_ .never rfl hN M.range) ?_)
  · rintro i ρ w hi ⟨rfl, y, x, rfl, e⟩
    refine Ws.rho (ρ' := [_, _, _, _, _, _]) rfl ?_
    rw [show k.toNat - i = (k.toNat - (i + 1)) + 1 by omega, redQ_succ] at e
    refine Ws.cons (Wt.ite (EvT.of (EvW.or (EvT.cmp (Ev.bin (Ev.intC (Ev.bin (Ev.var 0 rfl) (Ev.var 2 rfl) od_add) M.int) Ev.int (od_mod (by decide))) Ev.int od_eq) fun h3 => (EvW.or1 (EvT.cmp (Ev.bin (Ev.intC (Ev.bin (Ev.var 1 rfl) (Ev.var 3 rfl) od_add) M.int) Ev.int (od_mod (by decide))) Ev.int od_eq)))) (fun h1 => ?_) (fun h2 => ?_))
    · simp only [Bool.or_eq_true, decide_eq_true_eq] at h1
      rw [if_neg (by omega)] at e
      refine Ws.cons (Wt.brk ⟨rfl, ⟨y.a, y.b, y.c, y.d, k - i⟩, _, rfl, ?_⟩)
      rw [← e]
      congr 1
      omega
    · simp only [Bool.or_eq_false_iff, decide_eq_false_iff_not] at h2
      rw [if_pos (by omega)] at e
      refine Ws.nil ?_
      refine Ws.rho (ρ' := [_, _, _, _, _, _]) rfl ?_
      refine Ws.cons (Wt.unT (is := [0, 1, 2, 3, 4]) (Ev.tup (ds := [_, _, _, _, _]) (EvA.cons (Ev.bin (Ev.bin (Ev.var 1 rfl) (Ev.var 3 rfl) od_sub) Ev.int (od_div (by decide))) (EvA.cons (Ev.bin (Ev.bin (Ev.var 0 rfl) (Ev.var 2 rfl) od_add) Ev.int (od_div (by decide))) (EvA.cons (Ev.bin (Ev.bin (Ev.var 1 rfl) (Ev.var 3 rfl) od_add) Ev.int (od_div (by decide))) (EvA.cons (Ev.bin (Ev.bin (Ev.var 2 rfl) (Ev.var 0 rfl) od_sub) Ev.int (od_div (by decide))) (EvA.cons (Ev.bin (Ev.var 4 rfl) Ev.int od_sub) EvA.nil)))))) ?_ hN rfl (.cons (i := 0) rfl (.inl rfl) (.inr rfl) rfl (.cons (i := 1) rfl (.inl rfl) (.inr rfl) rfl (.cons (i := 2) rfl (.inl rfl) (.inr rfl) rfl (.cons (i := 3) rfl (.inl rfl) (.inr rfl) rfl (.cons (i := 4) rfl (.inl rfl) (.inr rfl) rfl .nil))))))
      refine Ws.nil ⟨rfl, ⟨(y.b - y.d) / 2, (y.a + y.c) / 2, (y.b + y.d) / 2, (y.c - y.a) / 2⟩, .dat (.int i), ?_, e⟩
      rw [show k - ((i + 1 : Nat) : Int) = k - i - 1 by omega]
      rfl
  · rintro ρ w ⟨rfl, y, x, rfl, e⟩
    rw [Nat.sub_self] at e
    refine ⟨rfl, ⟨y.a, y.b, y.c, y.d, 0⟩, x, ?_, e.symm⟩
    rw [show k - (k.toNat : Int) = 0 by omega]
  · rintro ρ w ⟨rfl, y, x, rfl, e⟩
    refine Ws.cons (Wt.ret (Ev.tup (ds := [_, _, _, _, _]) (EvA.cons (Ev.var 0 rfl) (EvA.cons (Ev.var 1 rfl) (EvA.cons (Ev.var 2 rfl) (EvA.cons (Ev.var 3 rfl) (EvA.cons (Ev.var 4 rfl) EvA.nil)))))) ⟨by rw [e], rfl⟩)
theorem ok__law_add {f : Addr} {fd : FuncData} (F : Fun K "_law_add" "_law_add" s__law_add f fd) : FnOk P wd K mg base CX0 1 f fd ["x", "y"] (spG K 2 R__law_add) := by
  refine fn_ok F sc__law_add fun cdv A outer s H E hr w as w' r hl dm h => ?_
  obtain ⟨rfl, rfl, x, y, rfl, rfl⟩ := h
  clear hl dm
  refine Ws.rho (ρ' := [_, _]) rfl ?_
  refine Ws.cons (Wt.ret (Ev.tup (ds := [_, _, _, _]) (EvA.cons (Ev.bin (Ev.ix (Ev.var 0 rfl) Ev.int) (Ev.ix (Ev.var 1 rfl) Ev.int) od_add) (EvA.cons (Ev.bin (Ev.ix (Ev.var 0 rfl) Ev.int) (Ev.ix (Ev.var 1 rfl) Ev.int) od_add) (EvA.cons (Ev.bin (Ev.ix (Ev.var 0 rfl) Ev.int) (Ev.ix (Ev.var 1 rfl) Ev.int) od_add) (EvA.cons (Ev.bin (Ev.ix (Ev.var 0 rfl) Ev.int) (Ev.ix (Ev.var 1 rfl) Ev.int) od_add) EvA.nil))))) ⟨rfl, rfl⟩)
theorem ok__law_turned {f : Addr} {fd : FuncData} (F : Fun K "_law_turned" "_law_turned" s__law_turned f fd) (M : Blt mg) : FnOk P wd K mg base CX0 1 f fd ["x", "j"] (spG K 2 R__law_turned) := by
  refine fn_ok F sc__law_turned fun cdv A outer s H E hr w as w' r hl dm h => ?_
  obtain ⟨rfl, rfl, p, x, j, rfl, ⟨x0, x1, x2, x3⟩, rfl⟩ := h
  clear hl dm
  have hN := sc__law_turned.nd
  refine Ws.rho (ρ' := [_, _, _, _]) rfl ?_
  refine Ws.cons (Wt.set 2 (EvN.ev (EvN.lst (ds := [_, _, _, _]) (EvA.cons (Ev.ix (Ev.var 0 rfl) Ev.int x0) (EvA.cons (Ev.ix (Ev.var 0 rfl) Ev.int x1) (EvA.cons (Ev.ix (Ev.var 0 rfl) Ev.int x2) (EvA.cons (Ev.ix (Ev.var 0 rfl) Ev.int x3) EvA.nil)))))) ?_ hN)
  refine Ws.rho (ρ' := [_, _, _, _]) rfl ?_
  refine Ws.cons (Wt.forR1 3 (fun i ρ w => w = [] ∧ ∃ (y : Q4) (z : Pm.Slot), ρ = [.dat p, .dat (.int j), .dat (.list y.L), z] ∧ turnN ((j % 8).toNat - i) y = turnN (j % 8).toNat x) (EvA.cons (Ev.bin (Ev.intC (Ev.var 1 rfl) M.int) Ev.int (od_mod (by decide))) EvA.nil) ⟨by omega, by omega⟩ ⟨rfl, x, _, rfl, rfl⟩ ?_ ?_ .never rfl hN M.range)
  · rintro i ρ w hi ⟨rfl, y, z, rfl, e⟩
    refine Ws.rho (ρ' := [_, _, _, _]) rfl ?_
    refine Ws.cons (Wt.set 2 (EvN.ev (EvN.lst (ds := [_, _, _, _]) (EvA.cons (Ev.bin Ev.int (Ev.ix (Ev.var 2 rfl) Ev.int) od_sub) (EvA.cons (Ev.ix (Ev.var 2 rfl) Ev.int) (EvA.cons (Ev.ix (Ev.var 2 rfl) Ev.int) (EvA.cons (Ev.ix (Ev.var 2 rfl) Ev.int) EvA.nil)))))) ?_ hN)
    refine Ws.nil ⟨rfl, turn4 y, _, rfl, ?_⟩
    rw [← e, show (j % 8).toNat - i = ((j % 8).toNat - (i + 1)) + 1 by omega]
    rfl
  · rintro ρ w ⟨rfl, y, z, rfl, e⟩
    rw [Nat.sub_self] at e
    refine Ws.cons (Wt.ret (Ev.tup (ds := [_, _, _, _]) (EvA.cons (Ev.ix (Ev.var 2 rfl) Ev.int) (EvA.cons (Ev.ix (Ev.var 2 rfl) Ev.int) (EvA.cons (Ev.ix (Ev.var 2 rfl) Ev.int) (EvA.cons (Ev.ix (Ev.var 2 rfl) Ev.int) EvA.nil))))) ⟨?_, rfl⟩)
    rw [← e]
    rfl
end
end Q

namespace Q
open PySem PySem.Spec PyProof.Rows L2 Evl Pm
theorem lt13 {k : Nat} (h : k < 13) : k = 0 ∨ k = 1 ∨ k = 2 ∨ k = 3 ∨ k = 4 ∨ k = 5 ∨ k = 6 ∨ k = 7 ∨ k = 8 ∨ k = 9 ∨ k = 10 ∨ k = 11 ∨ k = 12 := by omega
theorem band (i m : Nat) : Builtin.bitAnd (i : Int) (m : Int) = ((i &&& m : Nat) : Int) := by
  rw [bitAnd_pp (by omega) (by omega), Int.toNat_natCast, Int.toNat_natCast]
theorem bxor (i m : Nat) : Builtin.bitXor (i : Int) (m : Int) = ((i ^^^ m : Nat) : Int) := by
  rw [Bits.bitXor_pp (by omega) (by omega), Int.toNat_natCast, Int.toNat_natCast]
theorem on_val (i m : Nat) : (if decide ((0 : Int) < Builtin.bitAnd (i : Int) (m : Int)) = true then (1 : Int) else 0) = ((onB i m : Nat) : Int) := by
  rw [band]
  unfold onB
  by_cases h : 0 < i &&& m
  · rw [if_pos h, if_pos (decide_eq_true (by omega))]
    rfl
  · rw [if_neg h, if_neg (fun z => h (by have := of_decide_eq_true z; omega))]
    rfl
theorem on_le (i m : Nat) : onB i m ≤ 1 := by
  unfold onB
  split <;> omega
theorem no_by {ds : List D} {d : D} {j : Nat} (h : (ds.take j).all (fun z => !eqF z d) = true) : ∀ (m : Nat) (z' : D), m < j → ds[m]? = some z' → eqF z' d = false := fun m z' hm hz => by
  have h2 := List.all_eq_true.mp h z' (List.mem_of_getElem? (by rw [List.getElem?_take_of_lt hm]; exact hz))
  simpa using h2
/-! ### dicts of states -/
def mD (st : St4) : List (Key × D) := st.map fun q => (.inl (q.1 : Int), q.2.T)
theorem val_mD (i : Nat) : ∀ st : St4, valD (mD st) (.inl (i : Int)) = (getS st i).map Q4.T
  | [] => rfl
  | p :: r => by
    have ih := val_mD i r
    unfold valD at ih ⊢
    show ((((Sum.inl (p.1 : Int), p.2.T) : Key × D) :: mD r).find? fun kv => decide (kv.1 = Sum.inl (i : Int))).map (·.2) = (if p.1 = i then some p.2 else getS r i).map Q4.T
    by_cases h : p.1 = i
    · rw [if_pos h, List.find?_cons_of_pos (by simp [h])]
      rfl
    · rw [if_neg h, List.find?_cons_of_neg (by simp; omega)]
      exact ih
theorem any_mD (i : Nat) (st : St4) : ((mD st).any fun kv => decide (kv.1 = Sum.inl (i : Int))) = hasS st i := by
  induction st with
  | nil => rfl
  | cons p r ih =>
    show (decide ((Sum.inl (p.1 : Int) : Key) = Sum.inl (i : Int)) || (mD r).any _) = (if p.1 = i then some p.2 else getS r i).isSome
    by_cases h : p.1 = i
    · rw [if_pos h, decide_eq_true (by rw [h])]
      rfl
    · rw [if_neg h, decide_eq_false (fun z => h (by have := Sum.inl.inj z; omega)), Bool.false_or]
      exact ih
theorem put_mD (i : Nat) (x : Q4) (st : St4) : putD (mD st) (.inl (i : Int)) x.T = mD (putS st i x) := by
  unfold putD putS
  rw [any_mD]
  split
  · unfold mD
    rw [List.map_map, List.map_map]
    apply List.map_congr_left
    intro p _
    show (if (Sum.inl (p.1 : Int) : Key) = Sum.inl (i : Int) then _ else _) = _
    by_cases h : p.1 = i
    · rw [if_pos (by rw [h])]
      simp [h]
    · rw [if_neg (fun z => h (by have := Sum.inl.inj z; omega))]
      simp [h]
  · unfold mD
    rw [List.map_append]
    rfl
theorem mD_len (st : St4) : (mD st).length = st.length := List.length_map ..
theorem put_len (st : St4) (i : Nat) (x : Q4) : (putS st i x).length ≤ st.length + 1 := by
  unfold putS
  split
  · rw [List.length_map]; omega
  · rw [List.length_append]; exact Nat.le_refl _
theorem gain_len (st : St4) (i : Nat) (x : Q4) : (gain st i x).length ≤ st.length + 1 := put_len _ _ _
/-! ### promises -/
def R__law_arity : W → List Ag → W → D → Prop := fun w as w' r => w = [] ∧ w' = [] ∧ ∃ k : Nat, k < 13 ∧ as = [.dat (.str (nm k))] ∧ r = nD (arN k)
theorem r__law_arity {k : Nat} (h : k < 13) : R__law_arity [] [.dat (.str (nm k))] [] (nD (arN k)) := ⟨rfl, rfl, k, h, rfl, rfl⟩
def R__law_mask : W → List Ag → W → D → Prop := fun w as w' r => w = [] ∧ w' = [] ∧ ∃ n p : Nat, (p < n ∧ n ≤ 10) ∧ as = [.dat (nD n), .dat (nD p)] ∧ r = nD (maskN n p)
theorem r__law_mask {n p : Nat} (h : p < n ∧ n ≤ 10) : R__law_mask [] [.dat (nD n), .dat (nD p)] [] (nD (maskN n p)) := ⟨rfl, rfl, n, p, h, rfl, rfl⟩
def R__law_extra : W → List Ag → W → D → Prop := fun w as w' r => w = [] ∧ w' = [] ∧ ∃ es : List Int, as = [.dat (eD es)] ∧ r = nD (extraN es)
theorem r__law_extra {es : List Int} : R__law_extra [] [.dat (eD es)] [] (nD (extraN es)) := ⟨rfl, rfl, es, rfl, rfl⟩
def R__law_gain : W → List Ag → W → D → Prop := fun w as w' r => ∃ (p : Addr) (st : St4) (i : Nat) (x : Q4), st.length ≤ 10000 ∧ w = [(p, Cell.M (mD st))] ∧ w' = [(p, Cell.M (mD (gain st i x)))] ∧ as = [.own p, .dat (nD i), .dat x.T] ∧ r = .none
theorem r__law_gain {p : Addr} {st : St4} {i : Nat} {x : Q4} (h : st.length ≤ 10000) : R__law_gain [(p, Cell.M (mD st))] [.own p, .dat (nD i), .dat x.T] [(p, Cell.M (mD (gain st i x)))] .none := ⟨p, st, i, x, h, rfl, rfl, rfl, rfl⟩
def R__law_way : W → List Ag → W → D → Prop := fun w as w' r => w = [] ∧ w' = [] ∧ ∃ (k : Nat) (ms : List Nat) (i : Nat), (k < 13 ∧ k ≠ 5 ∧ ms.length = arN k) ∧ as = [.dat (.str (nm k)), .dat (.list (ms.map nD)), .dat (nD i)] ∧ r = .tuple [nD (wayN k ms i).1, nD (wayN k ms i).2]
theorem r__law_way {k : Nat} {ms : List Nat} {i : Nat} (h : k < 13 ∧ k ≠ 5 ∧ ms.length = arN k) : R__law_way [] [.dat (.str (nm k)), .dat (.list (ms.map nD)), .dat (nD i)] [] (.tuple [nD (wayN k ms i).1, nD (wayN k ms i).2]) := ⟨rfl, rfl, k, ms, i, h, rfl, rfl⟩
theorem ms1 {ms : List Nat} (h : ms.length = 1) : ∃ a, ms = [a] := by
  match ms, h with
  | [a], _ => exact ⟨a, rfl⟩
theorem ms2 {ms : List Nat} (h : ms.length = 2) : ∃ a b, ms = [a, b] := by
  match ms, h with
  | [a, b], _ => exact ⟨a, b, rfl⟩
theorem Ev.min1 {X : Cx} {e : Expr} {ρ : List Pm.Slot} {w w1 : W} {n : Int} {p pos : Pos} (h : Ev X e ρ w w1 (.list [.int n])) (hm : X.mg "min" = none) (hc : X.calm = true) (hg : Gl X "min" := by rfl) (he : starEach [e] X.env = (false, eval e X.env) :: starEach [] X.env := by rfl) (hpl : (backTo pos (starEach [] X.env)).any (·.1) = false := by rfl) : Ev X (.Call (.Name "min" p) [e] [] pos) ρ w w1 (.int n) :=
  Ev.minC (ns := [n]) (m := n) h hm hc (List.mem_singleton.mpr rfl) (fun y hy => by rw [List.mem_singleton.mp hy]; exact Int.le_refl _) hg he hpl
theorem sl_first {X : Cx} {a : Expr} {ρ : List Pm.Slot} {w w1 : W} {d1 d2 : D} {hi : Option Expr} {j : Int} {p2 pos : Pos} (ha : Ev X a ρ w w1 (.list [d1, d2])) (h2 : EvP X hi ρ w1 (some j)) (hj : j = 1) : Ev X (.Subscript a (.Slice none hi none p2) pos) ρ w w1 (.list [d1]) := by
  subst hj
  exact EvN.ev (EvN.to (EvN.slL ha EvP.none h2) rfl)
section
variable {P : Program} {wd : World} {K : PySem.W.Frag} {mg : Str → Option Value} {base : Heap}
theorem ok__law_mask {f : Addr} {fd : FuncData} (F : Fun K "_law_mask" "_law_mask" s__law_mask f fd) (M : Blt mg) : FnOk P wd K mg base CX0 1 f fd ["n", "place"] (spG K 2 R__law_mask) := by
  refine fn_ok F sc__law_mask fun cdv A outer s H E hr w as w' r hl dm h => ?_
  obtain ⟨rfl, rfl, n, p, hp, rfl, rfl⟩ := h
  clear hl dm
  have hN := sc__law_mask.nd
  have e1 : ((n : Int) - 1 - (p : Int)) = ((n - 1 - p : Nat) : Int) := by omega
  refine Ws.rho (ρ' := [_, _, _, _]) rfl ?_
  refine Ws.cons (Wt.set 2 Ev.int ?_ hN)
  refine Ws.rho (ρ' := [_, _, _, _]) rfl ?_
  refine Ws.cons (Wt.forR1 3 (n := (n : Int) - 1 - (p : Int)) (fun i ρ w => w = [] ∧ ∃ x, ρ = [.dat (nD n), .dat (nD p), .dat (nD (2 ^ i)), x]) (EvA.cons (Ev.bin (Ev.bin (Ev.var 0 rfl) Ev.int od_sub) (Ev.var 1 rfl) od_sub) EvA.nil) ⟨by omega, by omega⟩ ⟨rfl, _, rfl⟩ ?_ ?_ .never rfl hN M.range)
  · rintro i ρ w hi ⟨rfl, x, rfl⟩
    refine Ws.rho (ρ' := [_, _, _, _]) rfl ?_
    have hi10 : i ≤ 10 := by omega
    have hle : (2 : Nat) ^ i ≤ 2 ^ 10 := Nat.pow_le_pow_right (by decide) hi10
    have h1024 : (2 : Nat) ^ 10 = 1024 := by decide
    refine Ws.cons (Wt.set 2 (Ev.to (d1 := nD (2 ^ (i + 1))) (Ev.bin (Ev.var 2 rfl) Ev.int (od_mul (.inl ⟨Int.lt_of_lt_of_le (by decide) (Int.natCast_nonneg _), Int.lt_of_le_of_lt (Int.ofNat_le.mpr (h1024 ▸ hle)) (by decide)⟩))) (by
      show PyData.int (((2 ^ i : Nat) : Int) * 2) = .int ((2 ^ (i + 1) : Nat) : Int)
      rw [Nat.pow_succ, Int.natCast_mul]
      rfl)) ?_ hN)
    exact Ws.nil ⟨rfl, _, rfl⟩
  · rintro ρ w ⟨rfl, x, rfl⟩
    refine Ws.rho (ρ' := [_, _, _, _]) rfl ?_
    refine Ws.cons (Wt.ret (Ev.var 2 rfl) ⟨?_, rfl⟩)
    rw [e1, Int.toNat_natCast]
    rfl
theorem ok__law_extra {f : Addr} {fd : FuncData} (F : Fun K "_law_extra" "_law_extra" s__law_extra f fd) (M : Blt mg) (m_sum : mg "sum" = none) : FnOk P wd K mg base CX0 1 f fd ["ends"] (spG K 1 R__law_extra) := by
  refine fn_ok F sc__law_extra fun cdv A outer s H E hr w as w' r hl dm h => ?_
  obtain ⟨rfl, rfl, es, rfl, rfl⟩ := h
  clear hl dm
  have hD : lenD (eD es) = some es.length := by show some (es.map PyData.int).length = _; rw [List.length_map]
  refine Ws.rho (ρ' := [_]) rfl ?_
  unfold extraN
  refine Ws.cons (Wt.ite (EvT.cmp (Ev.lenC (Ev.var 0 rfl) M.len hD) Ev.int od_eq) (fun h1 => ?_) (fun h2 => ?_))
  · have h1' : es.length = 4 := by have := of_decide_eq_true h1; omega
    refine Ws.cons (Wt.ret (Ev.bin (Ev.intC (Ev.sumT (Ev.var 0 rfl) m_sum rfl) M.int) Ev.int (od_mod (by decide))) ⟨?_, rfl⟩)
    rw [if_pos h1']
    show PyData.int (es.sum % 2) = .int (((es.sum % 2).toNat : Nat) : Int)
    rw [Int.toNat_of_nonneg (Int.emod_nonneg _ (by decide))]
  · have h2' : ¬ es.length = 4 := by have := of_decide_eq_false h2; omega
    refine Ws.nil ?_
    refine Ws.rho (ρ' := [_]) rfl ?_
    refine Ws.cons (Wt.ite (EvT.cmp (Ev.lenC (Ev.var 0 rfl) M.len hD) Ev.int od_eq) (fun h3 => ?_) (fun h4 => ?_))
    · have h3' : es.length = 8 := by have := of_decide_eq_true h3; omega
      refine Ws.cons (Wt.ret (Ev.intB (Ev.cmp (Ev.bin (Ev.intC (Ev.sumT (Ev.var 0 rfl) m_sum rfl) M.int) Ev.int (od_mod (by decide))) Ev.int od_gt) M.int) ⟨?_, rfl⟩)
      rw [if_neg h2', if_pos h3']
      by_cases hs : 0 < es.sum % 4
      · rw [if_pos hs, if_pos (decide_eq_true hs)]
        rfl
      · rw [if_neg hs, if_neg (fun z => hs (of_decide_eq_true z))]
        rfl
    · have h4' : ¬ es.length = 8 := by have := of_decide_eq_false h4; omega
      refine Ws.nil ?_
      refine Ws.rho (ρ' := [_]) rfl ?_
      refine Ws.cons (Wt.ret Ev.int ⟨?_, rfl⟩)
      rw [if_neg h2', if_neg h4']
      rfl
theorem ok__law_gain {f : Addr} {fd : FuncData} (F : Fun K "_law_gain" "_law_gain" s__law_gain f fd) (C_add : Cal P wd K mg base 1 "_law_add" 2 R__law_add) : FnOk P wd K mg base CX0 2 f fd ["state", "index", "x"] (spG K 3 R__law_gain) := by
  refine fn_ok F sc__law_gain fun cdv A outer s H E hr w as w' r hl dm h => ?_
  obtain ⟨p, st, i, x, hz, rfl, rfl, rfl, rfl⟩ := h
  clear hl dm
  have hN := sc__law_gain.nd
  refine Ws.rho (ρ' := [_, _, _, _]) rfl ?_
  refine Ws.cons (Wt.set 3 (Ev.getM 0 0 (k := .inl (i : Int)) (d := ((getS st i).getD z4).T) hr.units rfl ⟨_, rfl⟩ (Ev.var 1 rfl) (Ev.tup (ds := [_, _, _, _]) (EvA.cons Ev.int (EvA.cons Ev.int (EvA.cons Ev.int (EvA.cons Ev.int EvA.nil))))) rfl (by
    rw [val_mD]
    cases getS st i <;> rfl)) ?_ hN)
  refine Ws.rho (ρ' := [_, _, _, _]) rfl ?_
  refine Ws.cons (Wt.setKey 0 0 (k := .inl (i : Int)) hr.units rfl (Ev.callC C_add hr (EvA.cons (Ev.var 3 rfl) (EvA.cons (Ev.var 2 rfl) EvA.nil)) (r__law_add)) (Ev.var 1 rfl) rfl (by rw [mD_len]; omega) ?_)
  refine Ws.nil ⟨rfl, ?_⟩
  show [(p, Cell.M _)] = [(p, Cell.M _)]
  rw [put_mD]
  rfl

theorem ok__law_arity {f : Addr} {fd : FuncData} (F : Fun K "_law_arity" "_law_arity" s__law_arity f fd) : FnOk P wd K mg base CX0 1 f fd ["name"] (spG K 1 R__law_arity) := by
  refine fn_ok F sc__law_arity fun cdv A outer s H E hr w as w' r hl dm h => ?_
  obtain ⟨rfl, rfl, k, hk, rfl, rfl⟩ := h
  clear hl dm
  refine Ws.rho (ρ' := [_]) rfl ?_
  rcases lt13 hk with rfl | rfl | rfl | rfl | rfl | rfl | rfl | rfl | rfl | rfl | rfl | rfl | rfl
  · exact Ws.cons (Wt.iteT (EvT.to (EvT.cmp (Ev.var 0 rfl) (Ev.lst (ds := [_, _]) (EvA.cons Ev.str (EvA.cons Ev.str EvA.nil))) (od_in rfl rfl rfl)) (by decide)) (Ws.cons (Wt.ret Ev.int ⟨rfl, rfl⟩)))
  · exact Ws.cons (Wt.iteT (EvT.to (EvT.cmp (Ev.var 0 rfl) (Ev.lst (ds := [_, _]) (EvA.cons Ev.str (EvA.cons Ev.str EvA.nil))) (od_in rfl rfl rfl)) (by decide)) (Ws.cons (Wt.ret Ev.int ⟨rfl, rfl⟩)))
  · refine Ws.cons (Wt.skip (EvT.to (EvT.cmp (Ev.var 0 rfl) (Ev.lst (ds := [_, _]) (EvA.cons Ev.str (EvA.cons Ev.str EvA.nil))) (od_in rfl rfl rfl)) (by decide)) ?_)
    refine Ws.cons (Wt.skip (EvT.to (EvT.cmp (Ev.var 0 rfl) (Ev.lst (ds := [_, _, _]) (EvA.cons Ev.str (EvA.cons Ev.str (EvA.cons Ev.str EvA.nil)))) (od_in rfl rfl rfl)) (by decide)) ?_)
    refine Ws.cons (Wt.skip (EvT.to (EvT.cmp (Ev.var 0 rfl) (Ev.lst (ds := [_, _]) (EvA.cons Ev.str (EvA.cons Ev.str EvA.nil))) (od_in rfl rfl rfl)) (by decide)) ?_)
    refine Ws.cons (Wt.skip (EvT.to (EvT.cmp (Ev.var 0 rfl) Ev.str od_eqS) (by decide)) ?_)
    exact Ws.cons (Wt.ret Ev.int ⟨rfl, rfl⟩)
  · refine Ws.cons (Wt.skip (EvT.to (EvT.cmp (Ev.var 0 rfl) (Ev.lst (ds := [_, _]) (EvA.cons Ev.str (EvA.cons Ev.str EvA.nil))) (od_in rfl rfl rfl)) (by decide)) ?_)
    refine Ws.cons (Wt.skip (EvT.to (EvT.cmp (Ev.var 0 rfl) (Ev.lst (ds := [_, _, _]) (EvA.cons Ev.str (EvA.cons Ev.str (EvA.cons Ev.str EvA.nil)))) (od_in rfl rfl rfl)) (by decide)) ?_)
    refine Ws.cons (Wt.skip (EvT.to (EvT.cmp (Ev.var 0 rfl) (Ev.lst (ds := [_, _]) (EvA.cons Ev.str (EvA.cons Ev.str EvA.nil))) (od_in rfl rfl rfl)) (by decide)) ?_)
    refine Ws.cons (Wt.skip (EvT.to (EvT.cmp (Ev.var 0 rfl) Ev.str od_eqS) (by decide)) ?_)
    exact Ws.cons (Wt.ret Ev.int ⟨rfl, rfl⟩)
  · refine Ws.cons (Wt.skip (EvT.to (EvT.cmp (Ev.var 0 rfl) (Ev.lst (ds := [_, _]) (EvA.cons Ev.str (EvA.cons Ev.str EvA.nil))) (od_in rfl rfl rfl)) (by decide)) ?_)
    refine Ws.cons (Wt.skip (EvT.to (EvT.cmp (Ev.var 0 rfl) (Ev.lst (ds := [_, _, _]) (EvA.cons Ev.str (EvA.cons Ev.str (EvA.cons Ev.str EvA.nil)))) (od_in rfl rfl rfl)) (by decide)) ?_)
    refine Ws.cons (Wt.skip (EvT.to (EvT.cmp (Ev.var 0 rfl) (Ev.lst (ds := [_, _]) (EvA.cons Ev.str (EvA.cons Ev.str EvA.nil))) (od_in rfl rfl rfl)) (by decide)) ?_)
    refine Ws.cons (Wt.skip (EvT.to (EvT.cmp (Ev.var 0 rfl) Ev.str od_eqS) (by decide)) ?_)
    exact Ws.cons (Wt.ret Ev.int ⟨rfl, rfl⟩)
  · refine Ws.cons (Wt.skip (EvT.to (EvT.cmp (Ev.var 0 rfl) (Ev.lst (ds := [_, _]) (EvA.cons Ev.str (EvA.cons Ev.str EvA.nil))) (od_in rfl rfl rfl)) (by decide)) ?_)
    refine Ws.cons (Wt.skip (EvT.to (EvT.cmp (Ev.var 0 rfl) (Ev.lst (ds := [_, _, _]) (EvA.cons Ev.str (EvA.cons Ev.str (EvA.cons Ev.str EvA.nil)))) (od_in rfl rfl rfl)) (by decide)) ?_)
    refine Ws.cons (Wt.skip (EvT.to (EvT.cmp (Ev.var 0 rfl) (Ev.lst (ds := [_, _]) (EvA.cons Ev.str (EvA.cons Ev.str EvA.nil))) (od_in rfl rfl rfl)) (by decide)) ?_)
    refine Ws.cons (Wt.skip (EvT.to (EvT.cmp (Ev.var 0 rfl) Ev.str od_eqS) (by decide)) ?_)
    exact Ws.cons (Wt.ret Ev.int ⟨rfl, rfl⟩)
  · refine Ws.cons (Wt.skip (EvT.to (EvT.cmp (Ev.var 0 rfl) (Ev.lst (ds := [_, _]) (EvA.cons Ev.str (EvA.cons Ev.str EvA.nil))) (od_in rfl rfl rfl)) (by decide)) ?_)
    refine Ws.cons (Wt.skip (EvT.to (EvT.cmp (Ev.var 0 rfl) (Ev.lst (ds := [_, _, _]) (EvA.cons Ev.str (EvA.cons Ev.str (EvA.cons Ev.str EvA.nil)))) (od_in rfl rfl rfl)) (by decide)) ?_)
    refine Ws.cons (Wt.skip (EvT.to (EvT.cmp (Ev.var 0 rfl) (Ev.lst (ds := [_, _]) (EvA.cons Ev.str (EvA.cons Ev.str EvA.nil))) (od_in rfl rfl rfl)) (by decide)) ?_)
    refine Ws.cons (Wt.skip (EvT.to (EvT.cmp (Ev.var 0 rfl) Ev.str od_eqS) (by decide)) ?_)
    exact Ws.cons (Wt.ret Ev.int ⟨rfl, rfl⟩)
  · refine Ws.cons (Wt.skip (EvT.to (EvT.cmp (Ev.var 0 rfl) (Ev.lst (ds := [_, _]) (EvA.cons Ev.str (EvA.cons Ev.str EvA.nil))) (od_in rfl rfl rfl)) (by decide)) ?_)
    refine Ws.cons (Wt.skip (EvT.to (EvT.cmp (Ev.var 0 rfl) (Ev.lst (ds := [_, _, _]) (EvA.cons Ev.str (EvA.cons Ev.str (EvA.cons Ev.str EvA.nil)))) (od_in rfl rfl rfl)) (by decide)) ?_)
    refine Ws.cons (Wt.skip (EvT.to (EvT.cmp (Ev.var 0 rfl) (Ev.lst (ds := [_, _]) (EvA.cons Ev.str (EvA.cons Ev.str EvA.nil))) (od_in rfl rfl rfl)) (by decide)) ?_)
    refine Ws.cons (Wt.skip (EvT.to (EvT.cmp (Ev.var 0 rfl) Ev.str od_eqS) (by decide)) ?_)
    exact Ws.cons (Wt.ret Ev.int ⟨rfl, rfl⟩)
  · refine Ws.cons (Wt.skip (EvT.to (EvT.cmp (Ev.var 0 rfl) (Ev.lst (ds := [_, _]) (EvA.cons Ev.str (EvA.cons Ev.str EvA.nil))) (od_in rfl rfl rfl)) (by decide)) ?_)
    refine Ws.cons (Wt.skip (EvT.to (EvT.cmp (Ev.var 0 rfl) (Ev.lst (ds := [_, _, _]) (EvA.cons Ev.str (EvA.cons Ev.str (EvA.cons Ev.str EvA.nil)))) (od_in rfl rfl rfl)) (by decide)) ?_)
    refine Ws.cons (Wt.skip (EvT.to (EvT.cmp (Ev.var 0 rfl) (Ev.lst (ds := [_, _]) (EvA.cons Ev.str (EvA.cons Ev.str EvA.nil))) (od_in rfl rfl rfl)) (by decide)) ?_)
    refine Ws.cons (Wt.skip (EvT.to (EvT.cmp (Ev.var 0 rfl) Ev.str od_eqS) (by decide)) ?_)
    exact Ws.cons (Wt.ret Ev.int ⟨rfl, rfl⟩)
  · refine Ws.cons (Wt.skip (EvT.to (EvT.cmp (Ev.var 0 rfl) (Ev.lst (ds := [_, _]) (EvA.cons Ev.str (EvA.cons Ev.str EvA.nil))) (od_in rfl rfl rfl)) (by decide)) ?_)
    refine Ws.cons (Wt.skip (EvT.to (EvT.cmp (Ev.var 0 rfl) (Ev.lst (ds := [_, _, _]) (EvA.cons Ev.str (EvA.cons Ev.str (EvA.cons Ev.str EvA.nil)))) (od_in rfl rfl rfl)) (by decide)) ?_)
    refine Ws.cons (Wt.skip (EvT.to (EvT.cmp (Ev.var 0 rfl) (Ev.lst (ds := [_, _]) (EvA.cons Ev.str (EvA.cons Ev.str EvA.nil))) (od_in rfl rfl rfl)) (by decide)) ?_)
    refine Ws.cons (Wt.skip (EvT.to (EvT.cmp (Ev.var 0 rfl) Ev.str od_eqS) (by decide)) ?_)
    exact Ws.cons (Wt.ret Ev.int ⟨rfl, rfl⟩)
  · refine Ws.cons (Wt.skip (EvT.to (EvT.cmp (Ev.var 0 rfl) (Ev.lst (ds := [_, _]) (EvA.cons Ev.str (EvA.cons Ev.str EvA.nil))) (od_in rfl rfl rfl)) (by decide)) ?_)
    exact Ws.cons (Wt.iteT (EvT.to (EvT.cmp (Ev.var 0 rfl) (Ev.lst (ds := [_, _, _]) (EvA.cons Ev.str (EvA.cons Ev.str (EvA.cons Ev.str EvA.nil)))) (od_in rfl rfl rfl)) (by decide)) (Ws.cons (Wt.ret Ev.int ⟨rfl, rfl⟩)))
  · refine Ws.cons (Wt.skip (EvT.to (EvT.cmp (Ev.var 0 rfl) (Ev.lst (ds := [_, _]) (EvA.cons Ev.str (EvA.cons Ev.str EvA.nil))) (od_in rfl rfl rfl)) (by decide)) ?_)
    exact Ws.cons (Wt.iteT (EvT.to (EvT.cmp (Ev.var 0 rfl) (Ev.lst (ds := [_, _, _]) (EvA.cons Ev.str (EvA.cons Ev.str (EvA.cons Ev.str EvA.nil)))) (od_in rfl rfl rfl)) (by decide)) (Ws.cons (Wt.ret Ev.int ⟨rfl, rfl⟩)))
  · refine Ws.cons (Wt.skip (EvT.to (EvT.cmp (Ev.var 0 rfl) (Ev.lst (ds := [_, _]) (EvA.cons Ev.str (EvA.cons Ev.str EvA.nil))) (od_in rfl rfl rfl)) (by decide)) ?_)
    exact Ws.cons (Wt.iteT (EvT.to (EvT.cmp (Ev.var 0 rfl) (Ev.lst (ds := [_, _, _]) (EvA.cons Ev.str (EvA.cons Ev.str (EvA.cons Ev.str EvA.nil)))) (od_in rfl rfl rfl)) (by decide)) (Ws.cons (Wt.ret Ev.int ⟨rfl, rfl⟩)))
theorem ok__law_way {f : Addr} {fd : FuncData} (F : Fun K "_law_way" "_law_way" s__law_way f fd) (M : Blt mg) (m_min : mg "min" = none) : FnOk P wd K mg base CX0 1 f fd ["name", "masks", "i"] (spG K 3 R__law_way) := by
  refine fn_ok F sc__law_way fun cdv A outer s H E hr w as w' r hl dm h => ?_
  obtain ⟨rfl, rfl, k, ms, i, ⟨hk, h5, hms⟩, rfl, rfl⟩ := h
  clear hl dm
  have hN := sc__law_way.nd
  have on0 : ∀ m, -(2 ^ 64) < ((onB i m : Nat) : Int) ∧ ((onB i m : Nat) : Int) < 2 ^ 64 := fun m => by have := on_le i m; omega
  rcases lt13 hk with rfl | rfl | rfl | rfl | rfl | rfl | rfl | rfl | rfl | rfl | rfl | rfl | rfl
  · refine Ws.rho (ρ' := [_, _, _, _, _]) rfl ?_
    exact Ws.cons (Wt.iteT (EvT.to (EvT.cmp (Ev.var 0 rfl) Ev.str od_eqS) (by decide)) (Ws.cons (Wt.ret (Ev.tup (ds := [_, _]) (EvA.cons (Ev.var 2 rfl) (EvA.cons Ev.int EvA.nil))) ⟨rfl, rfl⟩)))
  · refine Ws.rho (ρ' := [_, _, _, _, _]) rfl ?_
    refine Ws.cons (Wt.skip (EvT.to (EvT.cmp (Ev.var 0 rfl) Ev.str od_eqS) (by decide)) ?_)
    exact Ws.cons (Wt.iteT (EvT.to (EvT.cmp (Ev.var 0 rfl) Ev.str od_eqS) (by decide)) (Ws.cons (Wt.ret (Ev.tup (ds := [_, _]) (EvA.cons (Ev.var 2 rfl) (EvA.cons Ev.int EvA.nil))) ⟨rfl, rfl⟩)))
  · obtain ⟨m, rfl⟩ := ms1 hms
    refine Ws.rho (ρ' := [_, _, _, _, _]) rfl ?_
    refine Ws.cons (Wt.skip (EvT.to (EvT.cmp (Ev.var 0 rfl) Ev.str od_eqS) (by decide)) ?_)
    refine Ws.cons (Wt.skip (EvT.to (EvT.cmp (Ev.var 0 rfl) Ev.str od_eqS) (by decide)) ?_)
    refine Ws.cons (Wt.setRd 3 (compL_run 4 (ys := [nD (onB i m)]) (Ev.var 1 rfl) rfl (fun q y z hy hz => by
      match q, hy, hz with
      | 0, hy, hz => cases hy; cases hz; exact fun s H0 C cl fp => Ev.to (d1 := nD (onB i m)) (Ev.intB (Ev.cmp (Ev.bin (Ev.var 2 rfl) (Ev.var 4 rfl) od_and) Ev.int od_gt) M.int) (congrArg PyData.int (on_val i m))
      | n + 1, hy, hz => cases hy) (by simp)) (ps_compL 3 4 (blkOk_by (N := N__law_way) (sc := defScope s__law_way) (by decide +kernel)) rfl hN) ?_)
    refine Ws.rho (ρ' := [_, _, _, _, _]) rfl ?_
    refine Ws.cons (Wt.skip (EvT.to (EvT.cmp (Ev.var 0 rfl) (Ev.lst (ds := [_, _, _, _, _]) (EvA.cons Ev.str (EvA.cons Ev.str (EvA.cons Ev.str (EvA.cons Ev.str (EvA.cons Ev.str EvA.nil)))))) (od_in rfl rfl rfl)) (by decide)) ?_)
    refine Ws.cons (Wt.iteT (EvT.to (EvT.cmp (Ev.var 0 rfl) Ev.str od_eqS) (by decide)) ?_)
    refine Ws.cons (Wt.ret (Ev.tup (ds := [_, _]) (EvA.cons (Ev.bin (Ev.var 2 rfl) (Ev.ix (Ev.var 1 rfl) Ev.int) od_xor) (EvA.cons Ev.int EvA.nil))) ⟨?_, rfl⟩)
    rw [bxor]
    rfl
  · obtain ⟨m, rfl⟩ := ms1 hms
    refine Ws.rho (ρ' := [_, _, _, _, _]) rfl ?_
    refine Ws.cons (Wt.skip (EvT.to (EvT.cmp (Ev.var 0 rfl) Ev.str od_eqS) (by decide)) ?_)
    refine Ws.cons (Wt.skip (EvT.to (EvT.cmp (Ev.var 0 rfl) Ev.str od_eqS) (by decide)) ?_)
    refine Ws.cons (Wt.setRd 3 (compL_run 4 (ys := [nD (onB i m)]) (Ev.var 1 rfl) rfl (fun q y z hy hz => by
      match q, hy, hz with
      | 0, hy, hz => cases hy; cases hz; exact fun s H0 C cl fp => Ev.to (d1 := nD (onB i m)) (Ev.intB (Ev.cmp (Ev.bin (Ev.var 2 rfl) (Ev.var 4 rfl) od_and) Ev.int od_gt) M.int) (congrArg PyData.int (on_val i m))
      | n + 1, hy, hz => cases hy) (by simp)) (ps_compL 3 4 (blkOk_by (N := N__law_way) (sc := defScope s__law_way) (by decide +kernel)) rfl hN) ?_)
    refine Ws.rho (ρ' := [_, _, _, _, _]) rfl ?_
    refine Ws.cons (Wt.skip (EvT.to (EvT.cmp (Ev.var 0 rfl) (Ev.lst (ds := [_, _, _, _, _]) (EvA.cons Ev.str (EvA.cons Ev.str (EvA.cons Ev.str (EvA.cons Ev.str (EvA.cons Ev.str EvA.nil)))))) (od_in rfl rfl rfl)) (by decide)) ?_)
    refine Ws.cons (Wt.skip (EvT.to (EvT.cmp (Ev.var 0 rfl) Ev.str od_eqS) (by decide)) ?_)
    refine Ws.cons (Wt.iteT (EvT.to (EvT.cmp (Ev.var 0 rfl) Ev.str od_eqS) (by decide)) ?_)
    refine Ws.cons (Wt.ret (Ev.tup (ds := [_, _]) (EvA.cons (Ev.bin (Ev.var 2 rfl) (Ev.ix (Ev.var 1 rfl) Ev.int) od_xor) (EvA.cons (Ev.bin Ev.int (Ev.bin Ev.int (Ev.ix (Ev.var 3 rfl) Ev.int) (od_mul (.inl (by decide)))) od_add) EvA.nil))) ⟨?_, rfl⟩)
    rw [bxor]
    show PyData.tuple [nD (i ^^^ m), .int (2 + 4 * ((onB i m : Nat) : Int))] = .tuple [nD (i ^^^ m), .int ((2 + 4 * onB i m : Nat) : Int)]
    rw [Int.natCast_add, Int.natCast_mul]
    rfl
  · obtain ⟨m, rfl⟩ := ms1 hms
    refine Ws.rho (ρ' := [_, _, _, _, _]) rfl ?_
    refine Ws.cons (Wt.skip (EvT.to (EvT.cmp (Ev.var 0 rfl) Ev.str od_eqS) (by decide)) ?_)
    refine Ws.cons (Wt.skip (EvT.to (EvT.cmp (Ev.var 0 rfl) Ev.str od_eqS) (by decide)) ?_)
    refine Ws.cons (Wt.setRd 3 (compL_run 4 (ys := [nD (onB i m)]) (Ev.var 1 rfl) rfl (fun q y z hy hz => by
      match q, hy, hz with
      | 0, hy, hz => cases hy; cases hz; exact fun s H0 C cl fp => Ev.to (d1 := nD (onB i m)) (Ev.intB (Ev.cmp (Ev.bin (Ev.var 2 rfl) (Ev.var 4 rfl) od_and) Ev.int od_gt) M.int) (congrArg PyData.int (on_val i m))
      | n + 1, hy, hz => cases hy) (by simp)) (ps_compL 3 4 (blkOk_by (N := N__law_way) (sc := defScope s__law_way) (by decide +kernel)) rfl hN) ?_)
    refine Ws.rho (ρ' := [_, _, _, _, _]) rfl ?_
    refine Ws.cons (Wt.iteT (EvT.to (EvT.cmp (Ev.var 0 rfl) (Ev.lst (ds := [_, _, _, _, _]) (EvA.cons Ev.str (EvA.cons Ev.str (EvA.cons Ev.str (EvA.cons Ev.str (EvA.cons Ev.str EvA.nil)))))) (od_in rfl rfl rfl)) (by decide)) ?_)
    refine Ws.cons (Wt.ret (Ev.tup (ds := [_, _]) (EvA.cons (Ev.var 2 rfl) (EvA.cons (Ev.bin (Ev.ix (Ev.var 3 rfl) Ev.int) (Ev.ix (Ev.lst (ds := [_, _, _, _, _]) (EvA.cons Ev.int (EvA.cons Ev.int (EvA.cons Ev.int (EvA.cons Ev.int (EvA.cons Ev.int EvA.nil)))))) (Ev.indexL (j := 0) (Ev.lst (ds := [_, _, _, _, _]) (EvA.cons Ev.str (EvA.cons Ev.str (EvA.cons Ev.str (EvA.cons Ev.str (EvA.cons Ev.str EvA.nil)))))) (Ev.var 0 rfl) rfl rfl rfl (by decide) (no_by (by decide))) rfl) (od_mul (.inl (on0 m)))) EvA.nil))) ⟨?_, rfl⟩)
    show PyData.tuple [nD i, .int (((onB i m : Nat) : Int) * 4)] = .tuple [nD i, .int ((onB i m * 4 : Nat) : Int)]
    rw [Int.natCast_mul]
    rfl
  · exact absurd rfl h5
  · obtain ⟨m, rfl⟩ := ms1 hms
    refine Ws.rho (ρ' := [_, _, _, _, _]) rfl ?_
    refine Ws.cons (Wt.skip (EvT.to (EvT.cmp (Ev.var 0 rfl) Ev.str od_eqS) (by decide)) ?_)
    refine Ws.cons (Wt.skip (EvT.to (EvT.cmp (Ev.var 0 rfl) Ev.str od_eqS) (by decide)) ?_)
    refine Ws.cons (Wt.setRd 3 (compL_run 4 (ys := [nD (onB i m)]) (Ev.var 1 rfl) rfl (fun q y z hy hz => by
      match q, hy, hz with
      | 0, hy, hz => cases hy; cases hz; exact fun s H0 C cl fp => Ev.to (d1 := nD (onB i m)) (Ev.intB (Ev.cmp (Ev.bin (Ev.var 2 rfl) (Ev.var 4 rfl) od_and) Ev.int od_gt) M.int) (congrArg PyData.int (on_val i m))
      | n + 1, hy, hz => cases hy) (by simp)) (ps_compL 3 4 (blkOk_by (N := N__law_way) (sc := defScope s__law_way) (by decide +kernel)) rfl hN) ?_)
    refine Ws.rho (ρ' := [_, _, _, _, _]) rfl ?_
    refine Ws.cons (Wt.iteT (EvT.to (EvT.cmp (Ev.var 0 rfl) (Ev.lst (ds := [_, _, _, _, _]) (EvA.cons Ev.str (EvA.cons Ev.str (EvA.cons Ev.str (EvA.cons Ev.str (EvA.cons Ev.str EvA.nil)))))) (od_in rfl rfl rfl)) (by decide)) ?_)
    refine Ws.cons (Wt.ret (Ev.tup (ds := [_, _]) (EvA.cons (Ev.var 2 rfl) (EvA.cons (Ev.bin (Ev.ix (Ev.var 3 rfl) Ev.int) (Ev.ix (Ev.lst (ds := [_, _, _, _, _]) (EvA.cons Ev.int (EvA.cons Ev.int (EvA.cons Ev.int (EvA.cons Ev.int (EvA.cons Ev.int EvA.nil)))))) (Ev.indexL (j := 1) (Ev.lst (ds := [_, _, _, _, _]) (EvA.cons Ev.str (EvA.cons Ev.str (EvA.cons Ev.str (EvA.cons Ev.str (EvA.cons Ev.str EvA.nil)))))) (Ev.var 0 rfl) rfl rfl rfl (by decide) (no_by (by decide))) rfl) (od_mul (.inl (on0 m)))) EvA.nil))) ⟨?_, rfl⟩)
    show PyData.tuple [nD i, .int (((onB i m : Nat) : Int) * 2)] = .tuple [nD i, .int ((onB i m * 2 : Nat) : Int)]
    rw [Int.natCast_mul]
    rfl
  · obtain ⟨m, rfl⟩ := ms1 hms
    refine Ws.rho (ρ' := [_, _, _, _, _]) rfl ?_
    refine Ws.cons (Wt.skip (EvT.to (EvT.cmp (Ev.var 0 rfl) Ev.str od_eqS) (by decide)) ?_)
    refine Ws.cons (Wt.skip (EvT.to (EvT.cmp (Ev.var 0 rfl) Ev.str od_eqS) (by decide)) ?_)
    refine Ws.cons (Wt.setRd 3 (compL_run 4 (ys := [nD (onB i m)]) (Ev.var 1 rfl) rfl (fun q y z hy hz => by
      match q, hy, hz with
      | 0, hy, hz => cases hy; cases hz; exact fun s H0 C cl fp => Ev.to (d1 := nD (onB i m)) (Ev.intB (Ev.cmp (Ev.bin (Ev.var 2 rfl) (Ev.var 4 rfl) od_and) Ev.int od_gt) M.int) (congrArg PyData.int (on_val i m))
      | n + 1, hy, hz => cases hy) (by simp)) (ps_compL 3 4 (blkOk_by (N := N__law_way) (sc := defScope s__law_way) (by decide +kernel)) rfl hN) ?_)
    refine Ws.rho (ρ' := [_, _, _, _, _]) rfl ?_
    refine Ws.cons (Wt.iteT (EvT.to (EvT.cmp (Ev.var 0 rfl) (Ev.lst (ds := [_, _, _, _, _]) (EvA.cons Ev.str (EvA.cons Ev.str (EvA.cons Ev.str (EvA.cons Ev.str (EvA.cons Ev.str EvA.nil)))))) (od_in rfl rfl rfl)) (by decide)) ?_)
    refine Ws.cons (Wt.ret (Ev.tup (ds := [_, _]) (EvA.cons (Ev.var 2 rfl) (EvA.cons (Ev.bin (Ev.ix (Ev.var 3 rfl) Ev.int) (Ev.ix (Ev.lst (ds := [_, _, _, _, _]) (EvA.cons Ev.int (EvA.cons Ev.int (EvA.cons Ev.int (EvA.cons Ev.int (EvA.cons Ev.int EvA.nil)))))) (Ev.indexL (j := 2) (Ev.lst (ds := [_, _, _, _, _]) (EvA.cons Ev.str (EvA.cons Ev.str (EvA.cons Ev.str (EvA.cons Ev.str (EvA.cons Ev.str EvA.nil)))))) (Ev.var 0 rfl) rfl rfl rfl (by decide) (no_by (by decide))) rfl) (od_mul (.inl (on0 m)))) EvA.nil))) ⟨?_, rfl⟩)
    show PyData.tuple [nD i, .int (((onB i m : Nat) : Int) * 6)] = .tuple [nD i, .int ((onB i m * 6 : Nat) : Int)]
    rw [Int.natCast_mul]
    rfl
  · obtain ⟨m, rfl⟩ := ms1 hms
    refine Ws.rho (ρ' := [_, _, _, _, _]) rfl ?_
    refine Ws.cons (Wt.skip (EvT.to (EvT.cmp (Ev.var 0 rfl) Ev.str od_eqS) (by decide)) ?_)
    refine Ws.cons (Wt.skip (EvT.to (EvT.cmp (Ev.var 0 rfl) Ev.str od_eqS) (by decide)) ?_)
    refine Ws.cons (Wt.setRd 3 (compL_run 4 (ys := [nD (onB i m)]) (Ev.var 1 rfl) rfl (fun q y z hy hz => by
      match q, hy, hz with
      | 0, hy, hz => cases hy; cases hz; exact fun s H0 C cl fp => Ev.to (d1 := nD (onB i m)) (Ev.intB (Ev.cmp (Ev.bin (Ev.var 2 rfl) (Ev.var 4 rfl) od_and) Ev.int od_gt) M.int) (congrArg PyData.int (on_val i m))
      | n + 1, hy, hz => cases hy) (by simp)) (ps_compL 3 4 (blkOk_by (N := N__law_way) (sc := defScope s__law_way) (by decide +kernel)) rfl hN) ?_)
    refine Ws.rho (ρ' := [_, _, _, _, _]) rfl ?_
    refine Ws.cons (Wt.iteT (EvT.to (EvT.cmp (Ev.var 0 rfl) (Ev.lst (ds := [_, _, _, _, _]) (EvA.cons Ev.str (EvA.cons Ev.str (EvA.cons Ev.str (EvA.cons Ev.str (EvA.cons Ev.str EvA.nil)))))) (od_in rfl rfl rfl)) (by decide)) ?_)
    refine Ws.cons (Wt.ret (Ev.tup (ds := [_, _]) (EvA.cons (Ev.var 2 rfl) (EvA.cons (Ev.bin (Ev.ix (Ev.var 3 rfl) Ev.int) (Ev.ix (Ev.lst (ds := [_, _, _, _, _]) (EvA.cons Ev.int (EvA.cons Ev.int (EvA.cons Ev.int (EvA.cons Ev.int (EvA.cons Ev.int EvA.nil)))))) (Ev.indexL (j := 3) (Ev.lst (ds := [_, _, _, _, _]) (EvA.cons Ev.str (EvA.cons Ev.str (EvA.cons Ev.str (EvA.cons Ev.str (EvA.cons Ev.str EvA.nil)))))) (Ev.var 0 rfl) rfl rfl rfl (by decide) (no_by (by decide))) rfl) (od_mul (.inl (on0 m)))) EvA.nil))) ⟨?_, rfl⟩)
    show PyData.tuple [nD i, .int (((onB i m : Nat) : Int) * 1)] = .tuple [nD i, .int ((onB i m * 1 : Nat) : Int)]
    rw [Int.natCast_mul]
    rfl
  · obtain ⟨m, rfl⟩ := ms1 hms
    refine Ws.rho (ρ' := [_, _, _, _, _]) rfl ?_
    refine Ws.cons (Wt.skip (EvT.to (EvT.cmp (Ev.var 0 rfl) Ev.str od_eqS) (by decide)) ?_)
    refine Ws.cons (Wt.skip (EvT.to (EvT.cmp (Ev.var 0 rfl) Ev.str od_eqS) (by decide)) ?_)
    refine Ws.cons (Wt.setRd 3 (compL_run 4 (ys := [nD (onB i m)]) (Ev.var 1 rfl) rfl (fun q y z hy hz => by
      match q, hy, hz with
      | 0, hy, hz => cases hy; cases hz; exact fun s H0 C cl fp => Ev.to (d1 := nD (onB i m)) (Ev.intB (Ev.cmp (Ev.bin (Ev.var 2 rfl) (Ev.var 4 rfl) od_and) Ev.int od_gt) M.int) (congrArg PyData.int (on_val i m))
      | n + 1, hy, hz => cases hy) (by simp)) (ps_compL 3 4 (blkOk_by (N := N__law_way) (sc := defScope s__law_way) (by decide +kernel)) rfl hN) ?_)
    refine Ws.rho (ρ' := [_, _, _, _, _]) rfl ?_
    refine Ws.cons (Wt.iteT (EvT.to (EvT.cmp (Ev.var 0 rfl) (Ev.lst (ds := [_, _, _, _, _]) (EvA.cons Ev.str (EvA.cons Ev.str (EvA.cons Ev.str (EvA.cons Ev.str (EvA.cons Ev.str EvA.nil)))))) (od_in rfl rfl rfl)) (by decide)) ?_)
    refine Ws.cons (Wt.ret (Ev.tup (ds := [_, _]) (EvA.cons (Ev.var 2 rfl) (EvA.cons (Ev.bin (Ev.ix (Ev.var 3 rfl) Ev.int) (Ev.ix (Ev.lst (ds := [_, _, _, _, _]) (EvA.cons Ev.int (EvA.cons Ev.int (EvA.cons Ev.int (EvA.cons Ev.int (EvA.cons Ev.int EvA.nil)))))) (Ev.indexL (j := 4) (Ev.lst (ds := [_, _, _, _, _]) (EvA.cons Ev.str (EvA.cons Ev.str (EvA.cons Ev.str (EvA.cons Ev.str (EvA.cons Ev.str EvA.nil)))))) (Ev.var 0 rfl) rfl rfl rfl (by decide) (no_by (by decide))) rfl) (od_mul (.inl (on0 m)))) EvA.nil))) ⟨?_, rfl⟩)
    show PyData.tuple [nD i, .int (((onB i m : Nat) : Int) * 7)] = .tuple [nD i, .int ((onB i m * 7 : Nat) : Int)]
    rw [Int.natCast_mul]
    rfl
  · obtain ⟨m, m2, rfl⟩ := ms2 hms
    refine Ws.rho (ρ' := [_, _, _, _, _]) rfl ?_
    refine Ws.cons (Wt.skip (EvT.to (EvT.cmp (Ev.var 0 rfl) Ev.str od_eqS) (by decide)) ?_)
    refine Ws.cons (Wt.skip (EvT.to (EvT.cmp (Ev.var 0 rfl) Ev.str od_eqS) (by decide)) ?_)
    refine Ws.cons (Wt.setRd 3 (compL_run 4 (ys := [nD (onB i m), nD (onB i m2)]) (Ev.var 1 rfl) rfl (fun q y z hy hz => by
      match q, hy, hz with
      | 0, hy, hz => cases hy; cases hz; exact fun s H0 C cl fp => Ev.to (d1 := nD (onB i m)) (Ev.intB (Ev.cmp (Ev.bin (Ev.var 2 rfl) (Ev.var 4 rfl) od_and) Ev.int od_gt) M.int) (congrArg PyData.int (on_val i m))
      | 1, hy, hz => cases hy; cases hz; exact fun s H0 C cl fp => Ev.to (d1 := nD (onB i m2)) (Ev.intB (Ev.cmp (Ev.bin (Ev.var 2 rfl) (Ev.var 4 rfl) od_and) Ev.int od_gt) M.int) (congrArg PyData.int (on_val i m2))
      | n + 2, hy, hz => cases hy) (by simp)) (ps_compL 3 4 (blkOk_by (N := N__law_way) (sc := defScope s__law_way) (by decide +kernel)) rfl hN) ?_)
    refine Ws.rho (ρ' := [_, _, _, _, _]) rfl ?_
    refine Ws.cons (Wt.skip (EvT.to (EvT.cmp (Ev.var 0 rfl) (Ev.lst (ds := [_, _, _, _, _]) (EvA.cons Ev.str (EvA.cons Ev.str (EvA.cons Ev.str (EvA.cons Ev.str (EvA.cons Ev.str EvA.nil)))))) (od_in rfl rfl rfl)) (by decide)) ?_)
    refine Ws.cons (Wt.skip (EvT.to (EvT.cmp (Ev.var 0 rfl) Ev.str od_eqS) (by decide)) ?_)
    refine Ws.cons (Wt.skip (EvT.to (EvT.cmp (Ev.var 0 rfl) Ev.str od_eqS) (by decide)) ?_)
    refine Ws.cons (Wt.skip (EvT.to (EvT.cmp (Ev.var 0 rfl) Ev.str od_eqS) (by decide)) ?_)
    refine Ws.cons (Wt.ite (EvT.cmp (Ev.min1 (sl_first (Ev.var 3 rfl) (EvP.some (Ev.bin (Ev.lenC (Ev.var 3 rfl) M.len) Ev.int od_sub)) rfl) m_min rfl) Ev.int od_eq) (fun h1 => ?_) (fun h2 => ?_))
    · have h1' : onB i m = 0 := by have := of_decide_eq_true h1; omega
      refine Ws.cons (Wt.ret (Ev.tup (ds := [_, _]) (EvA.cons (Ev.var 2 rfl) (EvA.cons Ev.int EvA.nil))) ⟨?_, rfl⟩)
      show PyData.tuple [nD i, nD 0] = .tuple [nD (if onB i m = 0 then (i, 0) else (i ^^^ m2, 0)).1, nD (if onB i m = 0 then (i, 0) else (i ^^^ m2, 0)).2]
      rw [if_pos h1']
    · have h2' : ¬ onB i m = 0 := by have := of_decide_eq_false h2; omega
      refine Ws.nil ?_
      refine Ws.cons (Wt.skip (EvT.to (EvT.of (EvW.or (k := false) (j := false) (EvT.to (EvT.cmp (Ev.var 0 rfl) Ev.str od_eqS) (by decide)) (fun z => EvW.or1 (EvT.to (EvT.cmp (Ev.var 0 rfl) Ev.str od_eqS) (by decide))))) rfl) ?_)
      refine Ws.cons (Wt.ret (Ev.tup (ds := [_, _]) (EvA.cons (Ev.bin (Ev.var 2 rfl) (Ev.ix (Ev.var 1 rfl) (Ev.bin (Ev.lenC (Ev.var 1 rfl) M.len) Ev.int od_sub) (d := nD m2) rfl) od_xor) (EvA.cons Ev.int EvA.nil))) ⟨?_, rfl⟩)
      show PyData.tuple [.int (Builtin.bitXor (i : Int) (m2 : Int)), nD 0] = .tuple [nD (if onB i m = 0 then (i, 0) else (i ^^^ m2, 0)).1, nD (if onB i m = 0 then (i, 0) else (i ^^^ m2, 0)).2]
      rw [if_neg h2', bxor]
  · obtain ⟨m, m2, rfl⟩ := ms2 hms
    refine Ws.rho (ρ' := [_, _, _, _, _]) rfl ?_
    refine Ws.cons (Wt.skip (EvT.to (EvT.cmp (Ev.var 0 rfl) Ev.str od_eqS) (by decide)) ?_)
    refine Ws.cons (Wt.skip (EvT.to (EvT.cmp (Ev.var 0 rfl) Ev.str od_eqS) (by decide)) ?_)
    refine Ws.cons (Wt.setRd 3 (compL_run 4 (ys := [nD (onB i m), nD (onB i m2)]) (Ev.var 1 rfl) rfl (fun q y z hy hz => by
      match q, hy, hz with
      | 0, hy, hz => cases hy; cases hz; exact fun s H0 C cl fp => Ev.to (d1 := nD (onB i m)) (Ev.intB (Ev.cmp (Ev.bin (Ev.var 2 rfl) (Ev.var 4 rfl) od_and) Ev.int od_gt) M.int) (congrArg PyData.int (on_val i m))
      | 1, hy, hz => cases hy; cases hz; exact fun s H0 C cl fp => Ev.to (d1 := nD (onB i m2)) (Ev.intB (Ev.cmp (Ev.bin (Ev.var 2 rfl) (Ev.var 4 rfl) od_and) Ev.int od_gt) M.int) (congrArg PyData.int (on_val i m2))
      | n + 2, hy, hz => cases hy) (by simp)) (ps_compL 3 4 (blkOk_by (N := N__law_way) (sc := defScope s__law_way) (by decide +kernel)) rfl hN) ?_)
    refine Ws.rho (ρ' := [_, _, _, _, _]) rfl ?_
    refine Ws.cons (Wt.skip (EvT.to (EvT.cmp (Ev.var 0 rfl) (Ev.lst (ds := [_, _, _, _, _]) (EvA.cons Ev.str (EvA.cons Ev.str (EvA.cons Ev.str (EvA.cons Ev.str (EvA.cons Ev.str EvA.nil)))))) (od_in rfl rfl rfl)) (by decide)) ?_)
    refine Ws.cons (Wt.skip (EvT.to (EvT.cmp (Ev.var 0 rfl) Ev.str od_eqS) (by decide)) ?_)
    refine Ws.cons (Wt.skip (EvT.to (EvT.cmp (Ev.var 0 rfl) Ev.str od_eqS) (by decide)) ?_)
    refine Ws.cons (Wt.skip (EvT.to (EvT.cmp (Ev.var 0 rfl) Ev.str od_eqS) (by decide)) ?_)
    refine Ws.cons (Wt.ite (EvT.cmp (Ev.min1 (sl_first (Ev.var 3 rfl) (EvP.some (Ev.bin (Ev.lenC (Ev.var 3 rfl) M.len) Ev.int od_sub)) rfl) m_min rfl) Ev.int od_eq) (fun h1 => ?_) (fun h2 => ?_))
    · have h1' : onB i m = 0 := by have := of_decide_eq_true h1; omega
      refine Ws.cons (Wt.ret (Ev.tup (ds := [_, _]) (EvA.cons (Ev.var 2 rfl) (EvA.cons Ev.int EvA.nil))) ⟨?_, rfl⟩)
      show PyData.tuple [nD i, nD 0] = .tuple [nD (if onB i m = 0 then (i, 0) else (i, 4 * onB i m2)).1, nD (if onB i m = 0 then (i, 0) else (i, 4 * onB i m2)).2]
      rw [if_pos h1']
    · have h2' : ¬ onB i m = 0 := by have := of_decide_eq_false h2; omega
      refine Ws.nil ?_
      refine Ws.cons (Wt.iteT (EvT.to (EvT.of (EvW.or (k := true) (j := true) (EvT.to (EvT.cmp (Ev.var 0 rfl) Ev.str od_eqS) (by decide)) (fun z => Bool.noConfusion z))) rfl) ?_)
      refine Ws.cons (Wt.ret (Ev.tup (ds := [_, _]) (EvA.cons (Ev.var 2 rfl) (EvA.cons (Ev.bin Ev.int (Ev.ix (Ev.var 3 rfl) (Ev.bin (Ev.lenC (Ev.var 3 rfl) M.len) Ev.int od_sub) (d := nD (onB i m2)) rfl) (od_mul (.inl (by decide)))) EvA.nil))) ⟨?_, rfl⟩)
      show PyData.tuple [nD i, .int (4 * ((onB i m2 : Nat) : Int))] = .tuple [nD (if onB i m = 0 then (i, 0) else (i, 4 * onB i m2)).1, nD (if onB i m = 0 then (i, 0) else (i, 4 * onB i m2)).2]
      rw [if_neg h2']
      show PyData.tuple [nD i, .int (4 * ((onB i m2 : Nat) : Int))] = .tuple [nD i, .int ((4 * onB i m2 : Nat) : Int)]
      rw [Int.natCast_mul]
      rfl
  · obtain ⟨m, m2, rfl⟩ := ms2 hms
    refine Ws.rho (ρ' := [_, _, _, _, _]) rfl ?_
    refine Ws.cons (Wt.skip (EvT.to (EvT.cmp (Ev.var 0 rfl) Ev.str od_eqS) (by decide)) ?_)
    refine Ws.cons (Wt.skip (EvT.to (EvT.cmp (Ev.var 0 rfl) Ev.str od_eqS) (by decide)) ?_)
    refine Ws.cons (Wt.setRd 3 (compL_run 4 (ys := [nD (onB i m), nD (onB i m2)]) (Ev.var 1 rfl) rfl (fun q y z hy hz => by
      match q, hy, hz with
      | 0, hy, hz => cases hy; cases hz; exact fun s H0 C cl fp => Ev.to (d1 := nD (onB i m)) (Ev.intB (Ev.cmp (Ev.bin (Ev.var 2 rfl) (Ev.var 4 rfl) od_and) Ev.int od_gt) M.int) (congrArg PyData.int (on_val i m))
      | 1, hy, hz => cases hy; cases hz; exact fun s H0 C cl fp => Ev.to (d1 := nD (onB i m2)) (Ev.intB (Ev.cmp (Ev.bin (Ev.var 2 rfl) (Ev.var 4 rfl) od_and) Ev.int od_gt) M.int) (congrArg PyData.int (on_val i m2))
      | n + 2, hy, hz => cases hy) (by simp)) (ps_compL 3 4 (blkOk_by (N := N__law_way) (sc := defScope s__law_way) (by decide +kernel)) rfl hN) ?_)
    refine Ws.rho (ρ' := [_, _, _, _, _]) rfl ?_
    refine Ws.cons (Wt.skip (EvT.to (EvT.cmp (Ev.var 0 rfl) (Ev.lst (ds := [_, _, _, _, _]) (EvA.cons Ev.str (EvA.cons Ev.str (EvA.cons Ev.str (EvA.cons Ev.str (EvA.cons Ev.str EvA.nil)))))) (od_in rfl rfl rfl)) (by decide)) ?_)
    refine Ws.cons (Wt.skip (EvT.to (EvT.cmp (Ev.var 0 rfl) Ev.str od_eqS) (by decide)) ?_)
    refine Ws.cons (Wt.skip (EvT.to (EvT.cmp (Ev.var 0 rfl) Ev.str od_eqS) (by decide)) ?_)
    refine Ws.cons (Wt.iteT (EvT.to (EvT.cmp (Ev.var 0 rfl) Ev.str od_eqS) (by decide)) ?_)
    refine Ws.cons (Wt.ite (EvT.cmp (Ev.ix (Ev.var 3 rfl) Ev.int) (Ev.ix (Ev.var 3 rfl) Ev.int) od_eq) (fun h1 => ?_) (fun h2 => ?_))
    · have h1' : onB i m = onB i m2 := by have := of_decide_eq_true h1; omega
      refine Ws.cons (Wt.ret (Ev.tup (ds := [_, _]) (EvA.cons (Ev.var 2 rfl) (EvA.cons Ev.int EvA.nil))) ⟨?_, rfl⟩)
      show PyData.tuple [nD i, nD 0] = .tuple [nD (if onB i m = onB i m2 then (i, 0) else (i ^^^ m ^^^ m2, 0)).1, nD (if onB i m = onB i m2 then (i, 0) else (i ^^^ m ^^^ m2, 0)).2]
      rw [if_pos h1']
    · have h2' : ¬ onB i m = onB i m2 := by have := of_decide_eq_false h2; omega
      refine Ws.nil ?_
      refine Ws.cons (Wt.ret (Ev.tup (ds := [_, _]) (EvA.cons (Ev.bin (Ev.bin (Ev.var 2 rfl) (Ev.ix (Ev.var 1 rfl) Ev.int) od_xor) (Ev.ix (Ev.var 1 rfl) Ev.int) od_xor) (EvA.cons Ev.int EvA.nil))) ⟨?_, rfl⟩)
      show PyData.tuple [.int (Builtin.bitXor (Builtin.bitXor (i : Int) (m : Int)) (m2 : Int)), nD 0] = .tuple [nD (if onB i m = onB i m2 then (i, 0) else (i ^^^ m ^^^ m2, 0)).1, nD (if onB i m = onB i m2 then (i, 0) else (i ^^^ m ^^^ m2, 0)).2]
      rw [if_neg h2', bxor, bxor]
end
end Q

namespace Q
open PySem PySem.Spec PyProof.Rows L2 Evl Pm
def KN : D := .list [.str "w", .str "wd", .str "x", .str "y", .str "z", .str "h", .str "s", .str "sd", .str "t", .str "td", .str "cx", .str "cz", .str "swap"]
theorem kn_ok : ∀ k, k < 13 → ((seqD2 KN).any fun y => eqF y (.str (nm k))) = true
  | 0, _ => by decide
  | 1, _ => by decide
  | 2, _ => by decide
  | 3, _ => by decide
  | 4, _ => by decide
  | 5, _ => by decide
  | 6, _ => by decide
  | 7, _ => by decide
  | 8, _ => by decide
  | 9, _ => by decide
  | 10, _ => by decide
  | 11, _ => by decide
  | 12, _ => by decide
  | n + 13, h => absurd h (by omega)
theorem nm_h : ∀ k, k < 13 → decide (nm k = "h") = decide (k = 5)
  | 0, _ => by decide
  | 1, _ => by decide
  | 2, _ => by decide
  | 3, _ => by decide
  | 4, _ => by decide
  | 5, _ => by decide
  | 6, _ => by decide
  | 7, _ => by decide
  | 8, _ => by decide
  | 9, _ => by decide
  | 10, _ => by decide
  | 11, _ => by decide
  | 12, _ => by decide
  | n + 13, h => absurd h (by omega)
theorem cut_nat {l : List D} {k : Nat} (h : k ≤ l.length) : cutP l none (some (k : Int)) = l.take k := by
  unfold cutP
  rw [HT.sIx_none, HT.sIx_nat, List.drop_zero, Nat.min_eq_left h, Nat.sub_zero]
theorem dist_take : ∀ {l : List Nat} {k q : Nat}, distN l = true → l[k]? = some q → ((l.take k).any fun p => decide (p = q)) = false
  | [], _, _, _, h => by simp at h
  | _ :: _, 0, _, _, _ => rfl
  | x :: l, k + 1, q, hd, h => by
    unfold distN at hd
    obtain ⟨h1, h2⟩ := Bool.and_eq_true_iff.mp hd
    have h' : l[k]? = some q := by simpa using h
    have ih := dist_take h2 h'
    have hx : ¬ x = q := fun e => by
      have : (l.any fun p => decide (p = x)) = true := List.any_eq_true.mpr ⟨q, List.mem_of_getElem? h', decide_eq_true e.symm⟩
      rw [this] at h1
      exact Bool.noConfusion h1
    show (decide (x = q) || (l.take k).any _) = false
    rw [decide_eq_false hx, Bool.false_or]
    exact ih
theorem flat_nD (l : List Nat) : (l.map nD).all flatD = true := by
  rw [List.all_map]
  exact List.all_eq_true.mpr fun x _ => rfl
theorem any_nD (q : Nat) (l : List Nat) : ((l.map nD).any fun y => eqF y (nD q)) = l.any fun p => decide (p = q) := by
  rw [List.any_map]
  congr 1
  funext p
  show ((p : Int) == (q : Int)) = decide (p = q)
  by_cases h : p = q
  · rw [h, decide_eq_true rfl]
    exact beq_self_eq_true _
  · rw [decide_eq_false h]
    exact beq_eq_false_iff_ne.mpr (by omega)
def R__law_is_circuit : W → List Ag → W → D → Prop := fun w as w' r => w = [] ∧ w' = [] ∧ ∃ (gs : List G) (n : Nat), (gs.all (okG n) = true ∧ gs.length ≤ 600) ∧ as = [.dat (cD gs), .dat (nD n), .dat (.int 600), .dat KN] ∧ r = .bool true
theorem r__law_is_circuit {gs : List G} {n : Nat} (h : gs.all (okG n) = true ∧ gs.length ≤ 600) : R__law_is_circuit [] [.dat (cD gs), .dat (nD n), .dat (.int 600), .dat KN] [] (.bool true) := ⟨rfl, rfl, gs, n, h, rfl, rfl⟩
/-- the state behind some of the keys -/
theorem outN_snoc (k : Nat) (ms : List Nat) (st : St4) : ∀ (l : St4) (p : Nat × Q4) (o : St4), outN k ms st (l ++ [p]) o = stepN k ms (outN k ms st l o) p.1 ((getS st p.1).getD z4)
  | [], _, _ => rfl
  | x :: l, p, o => outN_snoc k ms st l p _
theorem keepN_snoc (out : St4) : ∀ (l : St4) (p : Nat × Q4) (o : St4), keepN out (l ++ [p]) o = if isZ ((getS out p.1).getD z4) = true then keepN out l o else putS (keepN out l o) p.1 ((getS out p.1).getD z4)
  | [], _, _ => rfl
  | x :: l, p, o => keepN_snoc out l p _
theorem step_len (k : Nat) (ms : List Nat) (o : St4) (i : Nat) (x : Q4) : (stepN k ms o i x).length ≤ o.length + 2 := by
  unfold stepN
  split
  · have h1 := gain_len o (i - onB i (ms.getD 0 0) * ms.getD 0 0) x
    have h2 := gain_len (gain o (i - onB i (ms.getD 0 0) * ms.getD 0 0) x) (i - onB i (ms.getD 0 0) * ms.getD 0 0 + ms.getD 0 0) (turnN (4 * onB i (ms.getD 0 0)) x)
    dsimp only
    omega
  · have h1 := put_len o (wayN k ms i).1 (turnN ((wayN k ms i).2 % 8) x)
    omega
theorem out_len (k : Nat) (ms : List Nat) (st : St4) : ∀ (l o : St4), (outN k ms st l o).length ≤ o.length + 2 * l.length
  | [], o => Nat.le_refl _
  | p :: l, o => by
    have h1 := step_len k ms o p.1 ((getS st p.1).getD z4)
    have h2 := out_len k ms st l (stepN k ms o p.1 ((getS st p.1).getD z4))
    show (outN k ms st l (stepN k ms o p.1 ((getS st p.1).getD z4))).length ≤ _
    rw [List.length_cons]
    omega
theorem keep_len (out : St4) : ∀ (l o : St4), (keepN out l o).length ≤ o.length + l.length
  | [], o => Nat.le_refl _
  | p :: l, o => by
    show (keepN out l (if isZ ((getS out p.1).getD z4) = true then o else putS o p.1 ((getS out p.1).getD z4))).length ≤ _
    rw [List.length_cons]
    split
    · have h2 := keep_len out l o
      omega
    · have h1 := put_len o p.1 ((getS out p.1).getD z4)
      have h2 := keep_len out l (putS o p.1 ((getS out p.1).getD z4))
      omega
theorem get_mem {st : St4} {i : Nat} {p : Nat × Q4} (h : st[i]? = some p) : getS st p.1 = some ((getS st p.1).getD z4) := by
  have hm := List.mem_of_getElem? h
  have : ∀ (l : St4), p ∈ l → ∃ x, getS l p.1 = some x := by
    intro l
    induction l with
    | nil => intro m; cases m
    | cons q r ih =>
      intro m
      by_cases hq : q.1 = p.1
      · exact ⟨q.2, if_pos hq⟩
      · rcases List.mem_cons.mp m with z | z
        · exact absurd (by rw [z]) hq
        · obtain ⟨x, hx⟩ := ih z
          exact ⟨x, (if_neg hq).trans hx⟩
  obtain ⟨x, hx⟩ := this st hm
  rw [hx]
  rfl
/-- a mask: a power of two -/
def isMask (m : Nat) : Prop := ∃ j : Nat, m = 2 ^ j
theorem on_sub {i m : Nat} (h : isMask m) : onB i m * m ≤ i := by
  obtain ⟨j, rfl⟩ := h
  unfold onB
  split
  · rename_i hh
    rw [Nat.one_mul]
    by_cases hl : i < 2 ^ j
    · have e0 : i &&& 2 ^ j = 0 := by
        apply Nat.eq_of_testBit_eq
        intro t
        rw [Nat.testBit_and, Nat.testBit_two_pow, Nat.zero_testBit]
        by_cases ht : j = t
        · subst ht
          rw [Nat.testBit_lt_two_pow hl]
          rfl
        · rw [decide_eq_false ht, Bool.and_false]
      omega
    · omega
  · omega
theorem eqv4 (x : Q4) : (!PyData.eqv x.T (.tuple [.int 0, .int 0, .int 0, .int 0])) = !isZ x := by
  have e : PyData.eqv x.T (.tuple [.int 0, .int 0, .int 0, .int 0]) = (x.a == 0 && (x.b == 0 && (x.c == 0 && (x.d == 0 && true)))) := by
    simp only [PyData.eqv, PyData.eqvAll]
  rw [e]
  unfold isZ
  have hb : ∀ a : Int, (a == 0) = decide (a = 0) := fun a => by
    rw [Bool.eq_iff_iff]
    simp
  rw [hb, hb, hb, hb, Bool.and_true]
def R__law_after : W → List Ag → W → Cell → Prop := fun w as w' r => ∃ (p : Addr) (st : St4) (k : Nat) (ms : List Nat), (st.length ≤ 100 ∧ k < 13 ∧ ms.length = arN k ∧ ∀ m ∈ ms, isMask m) ∧ w = [(p, Cell.M (mD st))] ∧ w' = [(p, Cell.M (mD st))] ∧ as = [.own p, .dat (.str (nm k)), .dat (.list (ms.map nD))] ∧ r = Cell.M (mD (afterN k ms st))
theorem r__law_after {p : Addr} {st : St4} {k : Nat} {ms : List Nat} (h : st.length ≤ 100 ∧ k < 13 ∧ ms.length = arN k ∧ ∀ m ∈ ms, isMask m) : R__law_after [(p, Cell.M (mD st))] [.own p, .dat (.str (nm k)), .dat (.list (ms.map nD))] [(p, Cell.M (mD st))] (Cell.M (mD (afterN k ms st))) := ⟨p, st, k, ms, h, rfl, rfl, rfl, rfl⟩
theorem get_mD {st : St4} {i : Nat} {k : Key} {d : D} (h : (mD st)[i]? = some (k, d)) : ∃ p, st[i]? = some p ∧ k = .inl (p.1 : Int) := by
  unfold mD at h
  rw [List.getElem?_map] at h
  cases e : st[i]? with
  | none => rw [e] at h; cases h
  | some p => rw [e] at h; cases h; exact ⟨p, rfl, rfl⟩
section
variable {P : Program} {wd : World} {K : PySem.W.Frag} {mg : Str → Option Value} {base : Heap}
theorem ok__law_is_circuit {f : Addr} {fd : FuncData} (F : Fun K "_law_is_circuit" "_law_is_circuit" s__law_is_circuit f fd) (M : Blt mg) (C_ar : Cal P wd K mg base 1 "_law_arity" 1 R__law_arity) : FnOk P wd K mg base CX0 2 f fd ["circuit", "n", "most", "known"] (spG K 4 R__law_is_circuit) := by
  refine fn_ok F sc__law_is_circuit fun cdv A outer s H E hr w as w' r hl dm h => ?_
  obtain ⟨rfl, rfl, gs, n, ⟨hall, hz⟩, rfl, rfl⟩ := h
  clear hl dm
  have hN := sc__law_is_circuit.nd
  have hD : lenD (cD gs) = some gs.length := by show some (gs.map gD).length = _; rw [List.length_map]
  refine Ws.rho (ρ' := [_, _, _, _, _, _, _]) rfl ?_
  refine Ws.cons (Wt.skip (EvT.to (EvT.of (EvW.or (j := false) (EvT.not (EvT.val (Ev.isi (k := true) (T := "tuple") (Ev.var 0 rfl) kit_tuple_tuple M.isinstance M.tuple bt_tuple))) fun _ => EvW.or1 (EvT.to (EvT.cmp (Ev.lenC (Ev.var 0 rfl) M.len hD) (Ev.var 2 rfl) od_gt) (decide_eq_false (by omega))))) rfl) ?_)
  refine Ws.cons (Wt.forT 4 (fun i ρ w => w = [] ∧ ∃ x y z, ρ = [.dat (cD gs), .dat (nD n), .dat (.int 600), .dat KN, x, y, z]) (Ev.var 0 rfl) ⟨rfl, _, _, _, rfl⟩ ?_ ?_ .never rfl hN)
  · rintro i y ρ w hi ⟨rfl, x0, x1, x2, rfl⟩
    rw [List.getElem?_map] at hi
    cases e : gs[i]? with
    | none => rw [e] at hi; cases hi
    | some g =>
      rw [e] at hi
      cases hi
      obtain ⟨k, l⟩ := g
      have hg := List.all_eq_true.mp hall _ (List.mem_of_getElem? e)
      unfold okG at hg
      simp only [Bool.and_eq_true, decide_eq_true_eq] at hg
      obtain ⟨hk, hl, hlt, hd⟩ := hg
      have hlD : lenD (.tuple (l.map nD)) = some l.length := by show some (l.map nD).length = _; rw [List.length_map]
      refine Ws.rho (ρ' := [_, _, _, _, .dat (.tuple [.str (nm k), .tuple (l.map nD)]), _, _]) rfl ?_
      refine Ws.cons (Wt.skip (EvT.to (EvT.of (EvW.or (j := false) (EvT.not (EvT.val (Ev.isi (k := true) (T := "tuple") (Ev.var 4 rfl) kit_tuple_tuple M.isinstance M.tuple bt_tuple))) fun _ => EvW.or (k := false) (j := false) (EvT.to (EvT.cmp (Ev.lenC (Ev.var 4 rfl) M.len) Ev.int od_ne) rfl) fun _ => EvW.or (k := false) (j := false) (EvT.not (EvT.val (Ev.isi (k := true) (d := .str (nm k)) (T := "str") (Ev.ix (Ev.var 4 rfl) Ev.int) kit_str_str M.isinstance M.str bt_str))) fun _ => EvW.or1 (EvT.to (EvT.cmp (Ev.ix (Ev.var 4 rfl) Ev.int) (Ev.var 3 rfl) (od_notIn rfl rfl rfl)) (by rw [kn_ok k hk]; rfl)))) rfl) ?_)
      refine Ws.cons (Wt.skip (EvT.to (EvT.of (EvW.or (j := false) (EvT.not (EvT.val (Ev.isi (k := true) (d := .tuple (l.map nD)) (T := "tuple") (Ev.ix (Ev.var 4 rfl) Ev.int) kit_tuple_tuple M.isinstance M.tuple bt_tuple))) fun _ => EvW.or1 (EvT.to (EvT.cmp (Ev.lenC (Ev.ix (Ev.var 4 rfl) Ev.int) M.len hlD) (Ev.callC C_ar hr (EvA.cons (Ev.ix (Ev.var 4 rfl) Ev.int) EvA.nil) (r__law_arity hk)) od_ne) (decide_eq_false (by rw [hl]; exact fun z => z rfl))))) rfl) ?_)
      refine Ws.cons (Wt.forR1 5 (n := (l.length : Int)) (fun i ρ w => w = [] ∧ ∃ y z, ρ = [.dat (cD gs), .dat (nD n), .dat (.int 600), .dat KN, .dat (.tuple [.str (nm k), .tuple (l.map nD)]), y, z]) (EvA.cons (Ev.lenC (Ev.ix (Ev.var 4 rfl) Ev.int) M.len hlD) EvA.nil) ⟨by omega, by
        have : arN k ≤ 2 := by unfold arN; split <;> omega
        omega⟩ ⟨rfl, _, _, rfl⟩ ?_ ?_ .never rfl hN M.range)
      · rintro q ρ w hq ⟨rfl, y1, y2, rfl⟩
        rw [Int.toNat_natCast] at hq
        have hx : itemD (.tuple (l.map nD)) (q : Int) = some (nD l[q]) := item_nat (by rw [List.getElem?_map, List.getElem?_eq_getElem hq]; rfl)
        have hqn : l[q] < n := of_decide_eq_true (List.all_eq_true.mp hlt _ (List.getElem_mem hq))
        have hcut : cutP (l.map nD) none (some (q : Int)) = (l.take q).map nD := by
          rw [cut_nat (by rw [List.length_map]; omega), List.map_take]
        refine Ws.rho (ρ' := [_, _, _, _, _, _, _]) rfl ?_
        refine Ws.cons (Wt.set 6 (Ev.ix (Ev.ix (Ev.var 4 rfl) Ev.int) (Ev.var 5 rfl) hx) ?_ hN)
        refine Ws.rho (ρ' := [_, _, _, _, _, _, _]) rfl ?_
        refine Ws.cons (Wt.skip (EvT.to (EvT.of (EvW.or (j := false) (EvT.not (EvT.val (Ev.isi (k := true) (T := "int") (Ev.var 6 rfl) kit_int_int M.isinstance M.int bt_int))) fun _ => EvW.or (k := false) (j := false) (EvT.val (Ev.isi (k := false) (T := "bool") (Ev.var 6 rfl) kit_int_bool M.isinstance M.bool bt_bool)) fun _ => EvW.or (k := false) (j := false) (EvT.to (EvT.not (EvT.chain Ev.int (ChT.link (Ev.var 6 rfl) od_le fun _ => ChT.last (Ev.var 1 rfl) od_lt))) (by rw [decide_eq_true (by omega), decide_eq_true (by omega)]; rfl)) fun _ => EvW.or1 (EvT.to (EvT.cmp (Ev.var 6 rfl) (Ev.slT (Ev.ix (Ev.var 4 rfl) Ev.int) EvP.none (EvP.some (Ev.var 5 rfl))) (od_in rfl rfl (by show (cutP (l.map nD) none (some (q : Int))).all flatD = true; rw [hcut]; exact flat_nD _))) (by
          show ((cutP (l.map nD) none (some (q : Int))).any fun y => eqF y (nD l[q])) = false
          rw [hcut, any_nD]
          exact dist_take hd (List.getElem?_eq_getElem hq))))) rfl) ?_)
        exact Ws.nil ⟨rfl, _, _, rfl⟩
      · rintro ρ w ⟨rfl, y1, y2, rfl⟩
        exact Ws.nil ⟨rfl, _, _, _, rfl⟩
  · rintro ρ w ⟨rfl, x0, x1, x2, rfl⟩
    refine Ws.rho (ρ' := [_, _, _, _, _, _, _]) rfl ?_
    exact Ws.cons (Wt.ret Ev.bl ⟨rfl, rfl⟩)
theorem ok__law_after {f : Addr} {fd : FuncData} (F : Fun K "_law_after" "_law_after" s__law_after f fd) (M : Blt mg) (C_gain : Cal P wd K mg base 2 "_law_gain" 3 R__law_gain) (C_way : Cal P wd K mg base 1 "_law_way" 3 R__law_way) (C_turn : Cal P wd K mg base 1 "_law_turned" 2 R__law_turned) : FnOk P wd K mg base CX0 3 f fd ["state", "name", "masks"] (spM K 3 R__law_after) := by
  refine fn_okM F sc__law_after fun cdv A outer s H E hr w as w' r hl dm h => ?_
  obtain ⟨p, st, k, ms, ⟨hz, hk, hms, hmask⟩, rfl, rfl, rfl, rfl⟩ := h
  clear hl dm
  have hN := sc__law_after.nd
  refine Ws.rho (ρ' := [_, _, _, _, _, _, _, _, _]) rfl ?_
  refine Ws.cons (Wt.newM 3 (fun po => ?_) hN)
  refine Ws.wld (w' := [(p, Cell.M (mD st)), (po, Cell.M (mD []))]) rfl ?_
  refine Ws.rho (ρ' := [_, _, _, _, _, _, _, _, _]) rfl ?_
  refine Ws.cons (Wt.forM 0 0 4 (kds := mD st) (fun od kvs i ρ w => w = [(p, Cell.Z od kvs (mD st)), (po, Cell.M (mD (outN k ms st (st.take i) [])))] ∧ ∃ x1 x2 x3 x4, ρ = [.own p, .dat (.str (nm k)), .dat (.list (ms.map nD)), .own po, x1, x2, x3, x4, .none]) rfl rfl (fun od kvs => ⟨rfl, _, _, _, _, rfl⟩) (fun od kvs i ρ w h => by rw [h.1]; rfl) ?_ ?_ .never rfl hN)
  · rintro od kvs i key d ρ w hkey ⟨rfl, x1, x2, x3, x4, rfl⟩
    obtain ⟨q, hq, rfl⟩ := get_mD hkey
    have hx := get_mem hq
    have ht : st.take (i + 1) = st.take i ++ [q] := by rw [List.take_add_one, hq]; rfl
    have hol := out_len k ms st (st.take i) []
    rw [List.length_nil, List.length_take] at hol
    generalize ho : outN k ms st (st.take i) [] = o at hol
    generalize hX : (getS st q.1).getD z4 = x at hx
    have hnext : outN k ms st (st.take (i + 1)) [] = stepN k ms o q.1 x := by rw [ht, outN_snoc, ho, hX]
    refine Ws.rho (ρ' := [_, _, _, _, .dat (nD q.1), _, _, _, _]) rfl ?_
    refine Ws.cons (Wt.set 5 (Ev.ixZ 0 0 (k := .inl (q.1 : Int)) (d := x.T) hr.units rfl rfl (Ev.var 4 rfl) (by rw [val_mD, hx]; rfl)) ?_ hN)
    refine Ws.rho (ρ' := [_, _, _, _, _, _, _, _, _]) rfl ?_
    by_cases h5 : k = 5
    · subst h5
      obtain ⟨m, rfl⟩ := ms1 hms
      have hm : isMask m := hmask m (List.mem_singleton.mpr rfl)
      have hsub := on_sub (i := q.1) hm
      have hon := on_le q.1 m
      refine Ws.cons (Wt.iteT (EvT.to (EvT.cmp (Ev.var 1 rfl) Ev.str od_eqS) (by decide)) ?_)
      refine Ws.cons (Wt.set 6 (Ev.to (d1 := nD (onB q.1 m)) (Ev.intB (Ev.cmp (Ev.bin (Ev.var 4 rfl) (Ev.ix (Ev.var 2 rfl) Ev.int) od_and) Ev.int od_gt) M.int) (congrArg PyData.int (on_val q.1 m))) ?_ hN)
      refine Ws.rho (ρ' := [_, _, _, _, _, _, _, _, _]) rfl ?_
      have e0 : PyData.int ((q.1 : Int) - ((onB q.1 m : Nat) : Int) * (m : Int)) = nD (q.1 - onB q.1 m * m) := by
        show _ = PyData.int ((q.1 - onB q.1 m * m : Nat) : Int)
        rw [Int.ofNat_sub hsub, Int.natCast_mul]
      have e1 : PyData.int ((q.1 : Int) - ((onB q.1 m : Nat) : Int) * (m : Int) + (m : Int)) = nD (q.1 - onB q.1 m * m + m) := by
        show _ = PyData.int ((q.1 - onB q.1 m * m + m : Nat) : Int)
        rw [Int.natCast_add, Int.ofNat_sub hsub, Int.natCast_mul]
      refine Ws.cons (Wt.expr (Ev.callCS 1 C_gain hr (EvA.own 3 rfl (EvA.cons (Ev.to (Ev.bin (Ev.var 4 rfl) (Ev.bin (Ev.var 6 rfl) (Ev.ix (Ev.var 2 rfl) Ev.int) (od_mul (.inl ⟨by omega, by omega⟩))) od_sub) e0) (EvA.cons (Ev.var 5 rfl) EvA.nil))) rfl (r__law_gain (by omega))) ?_)
      refine Ws.wld (w' := [(p, Cell.Z od kvs (mD st)), (po, Cell.M (mD (gain o (q.1 - onB q.1 m * m) x)))]) rfl ?_
      have hgl := gain_len o (q.1 - onB q.1 m * m) x
      have hj : (((4 : Int) * ((onB q.1 m : Nat) : Int)) % 8).toNat = 4 * onB q.1 m := by omega
      have hcall : R__law_turned [] [.dat x.T, .dat (.int ((4 : Int) * ((onB q.1 m : Nat) : Int)))] [] (turnN (4 * onB q.1 m) x).T := by
        have := r__law_turned (j := (4 : Int) * ((onB q.1 m : Nat) : Int)) (its4 x)
        rw [hj] at this
        exact this
      refine Ws.cons (Wt.expr (Ev.callCS 1 C_gain hr (EvA.own 3 rfl (EvA.cons (Ev.to (Ev.bin (Ev.bin (Ev.var 4 rfl) (Ev.bin (Ev.var 6 rfl) (Ev.ix (Ev.var 2 rfl) Ev.int) (od_mul (.inl ⟨by omega, by omega⟩))) od_sub) (Ev.ix (Ev.var 2 rfl) Ev.int) od_add) e1) (EvA.cons (Ev.callC C_turn hr (EvA.cons (Ev.var 5 rfl) (EvA.cons (Ev.bin Ev.int (Ev.var 6 rfl) (od_mul (.inl (by decide)))) EvA.nil)) hcall) EvA.nil))) rfl (r__law_gain (by omega))) ?_)
      refine Ws.nil (Ws.nil ⟨?_, .dat (nD q.1), .dat x.T, .dat (nD (onB q.1 m)), x4, rfl⟩)
      rw [hnext]
      rfl
    · refine Ws.cons (Wt.iteF (EvT.to (EvT.cmp (Ev.var 1 rfl) Ev.str od_eqS) ((nm_h k hk).trans (decide_eq_false h5))) ?_)
      refine Ws.cons (Wt.set 7 (Ev.callC C_way hr (EvA.cons (Ev.var 1 rfl) (EvA.cons (Ev.var 2 rfl) (EvA.cons (Ev.var 4 rfl) EvA.nil))) (r__law_way ⟨hk, h5, hms⟩)) ?_ hN)
      refine Ws.rho (ρ' := [_, _, _, _, _, _, _, _, _]) rfl ?_
      have hcall : R__law_turned [] [.dat x.T, .dat (nD (wayN k ms q.1).2)] [] (turnN ((wayN k ms q.1).2 % 8) x).T := by
        have := r__law_turned (j := ((wayN k ms q.1).2 : Int)) (its4 x)
        rw [show (((wayN k ms q.1).2 : Int) % 8).toNat = (wayN k ms q.1).2 % 8 by omega] at this
        exact this
      refine Ws.cons (Wt.setKey 1 3 (k := .inl ((wayN k ms q.1).1 : Int)) (kds := mD o) hr.units rfl (Ev.callC C_turn hr (EvA.cons (Ev.var 5 rfl) (EvA.cons (Ev.ix (Ev.var 7 rfl) Ev.int) EvA.nil)) hcall) (Ev.ix (Ev.var 7 rfl) Ev.int) rfl (by rw [mD_len]; omega) ?_)
      refine Ws.nil (Ws.nil ⟨?_, .dat (nD q.1), .dat x.T, x3, _, rfl⟩)
      rw [hnext, put_mD]
      show _ = [(p, _), (po, Cell.M (mD (stepN k ms o q.1 x)))]
      unfold stepN
      rw [if_neg h5]
      rfl
  · rintro od kvs ρ w ⟨rfl, x1, x2, x3, x4, rfl⟩
    rw [mD_len, List.take_length]
    refine Ws.wld (w' := [(p, Cell.M (mD st)), (po, Cell.M (mD (outN k ms st st [])))]) rfl ?_
    have hol := out_len k ms st st []
    rw [List.length_nil] at hol
    have hkeep : afterN k ms st = keepN (outN k ms st st []) (outN k ms st st []) [] := rfl
    rw [hkeep]
    generalize outN k ms st st [] = out at hol
    refine Ws.rho (ρ' := [_, _, _, _, _, _, _, _, _]) rfl ?_
    refine Ws.cons (Wt.newM 8 (fun pk => ?_) hN)
    refine Ws.wld (w' := [(p, Cell.M (mD st)), (po, Cell.M (mD out)), (pk, Cell.M (mD []))]) rfl ?_
    refine Ws.rho (ρ' := [_, _, _, _, _, _, _, _, _]) rfl ?_
    refine Ws.cons (Wt.forM 1 3 4 (kds := mD out) (fun od kvs i ρ w => w = [(p, Cell.M (mD st)), (po, Cell.Z od kvs (mD out)), (pk, Cell.M (mD (keepN out (out.take i) [])))] ∧ ∃ x1 x2 x3 x4, ρ = [.own p, .dat (.str (nm k)), .dat (.list (ms.map nD)), .own po, x1, x2, x3, x4, .own pk]) rfl rfl (fun od kvs => ⟨rfl, _, _, _, _, rfl⟩) (fun od kvs i ρ w h => by rw [h.1]; rfl) ?_ ?_ .never rfl hN)
    · rintro od kvs i key d ρ w hkey ⟨rfl, x1, x2, x3, x4, rfl⟩
      obtain ⟨q, hq, rfl⟩ := get_mD hkey
      have hx := get_mem hq
      have ht : out.take (i + 1) = out.take i ++ [q] := by rw [List.take_add_one, hq]; rfl
      have hkl := keep_len out (out.take i) []
      rw [List.length_nil, List.length_take] at hkl
      have hnext := keepN_snoc out (out.take i) q []
      rw [← ht] at hnext
      generalize keepN out (out.take i) [] = o at hkl hnext
      generalize hX : (getS out q.1).getD z4 = x at hx hnext
      refine Ws.rho (ρ' := [_, _, _, _, .dat (nD q.1), _, _, _, _]) rfl ?_
      refine Ws.cons (Wt.ite (EvT.to (EvT.cmp (Ev.ixZ 1 3 (k := .inl (q.1 : Int)) (d := x.T) hr.units rfl rfl (Ev.var 4 rfl) (by rw [val_mD, hx]; rfl)) (Ev.tup (ds := [_, _, _, _]) (EvA.cons Ev.int (EvA.cons Ev.int (EvA.cons Ev.int (EvA.cons Ev.int EvA.nil))))) (od_neD hr.units rfl rfl)) (eqv4 x)) (fun h1 => ?_) (fun h2 => ?_))
      · have h1' : ¬ isZ x = true := by rw [Bool.not_eq_true']  at h1; rw [h1]; exact Bool.false_ne_true
        refine Ws.cons (Wt.setKey 2 8 (k := .inl (q.1 : Int)) (kds := mD o) hr.units rfl (Ev.ixZ 1 3 (k := .inl (q.1 : Int)) (d := x.T) hr.units rfl rfl (Ev.var 4 rfl) (by rw [val_mD, hx]; rfl)) (Ev.var 4 rfl) rfl (by rw [mD_len]; omega) ?_)
        refine Ws.nil (Ws.nil ⟨?_, .dat (nD q.1), x2, x3, x4, rfl⟩)
        rw [hnext, if_neg h1', put_mD]
        rfl
      · have h2' : isZ x = true := by rw [Bool.not_eq_false'] at h2; exact h2
        refine Ws.nil (Ws.nil ⟨?_, .dat (nD q.1), x2, x3, x4, rfl⟩)
        rw [hnext, if_pos h2']
    · rintro od kvs ρ w ⟨rfl, x1, x2, x3, x4, rfl⟩
      rw [mD_len, List.take_length]
      refine Ws.wld (w' := [(p, Cell.M (mD st)), (po, Cell.M (mD out)), (pk, Cell.M (mD (keepN out out [])))]) rfl ?_
      refine Ws.rho (ρ' := [_, _, _, _, _, _, _, _, _]) rfl ?_
      exact Ws.cons (Wt.retOwn 8 rfl ⟨[(po, Cell.M (mD out)), (pk, Cell.M (mD (keepN out out [])))], rfl, by simp⟩)
end
end Q

namespace Q
open PySem PySem.Spec PyProof.Rows L2 Evl Pm
def seqE (S : Src) : Nat → Src
  | 0 => S
  | n + 1 => drawS (seqE S n) 8
def drawsE (S : Src) (n : Nat) : List Int := (List.range n).map fun i => draw (seqE S i) 8
abbrev EA := List Int × Src
def e0 (k : Int) (n : Nat) (S : Src) : EA := if k = 0 ∨ k = 3 then (drawsE S n, seqE S n) else (List.replicate n 0, S)
def e1 (k : Int) (n : Nat) (a : EA) : EA := if k = 1 then (List.replicate n (draw a.2 8), drawS a.2 8) else a
def e2 (k : Int) (n : Nat) (a : EA) : EA := if k = 1 ∨ k = 2 then (a.1.set (draw (drawS a.2 8) (n : Int)).toNat (draw a.2 8), drawS (drawS a.2 8) (n : Int)) else a
def e3 (k : Int) (n : Nat) (a : EA) : EA := if k = 3 then (a.1.set (n - 1) ((4 * draw a.2 2 - (a.1.take (n - 1)).sum) % 8), drawS a.2 2) else a
def endsM (S : Src) (n : Nat) : EA := e3 (draw S 4) n (e2 (draw S 4) n (e1 (draw S 4) n (e0 (draw S 4) n (drawS S 4))))
def okA (n : Nat) (a : EA) : Prop := a.1.length = n ∧ ∀ e ∈ a.1, 0 ≤ e ∧ e < 8
theorem ok_e0 (k : Int) (n : Nat) (S : Src) : okA n (e0 k n S) := by
  unfold e0
  split
  · refine ⟨by unfold drawsE; rw [List.length_map, List.length_range], fun e he => ?_⟩
    obtain ⟨i, _, rfl⟩ := List.mem_map.mp he
    exact draw_lt _ (by decide)
  · refine ⟨List.length_replicate .., fun e he => ?_⟩
    rw [List.eq_of_mem_replicate he]
    decide
theorem ok_e1 {k : Int} {n : Nat} {a : EA} (h : okA n a) : okA n (e1 k n a) := by
  unfold e1
  split
  · refine ⟨List.length_replicate .., fun e he => ?_⟩
    rw [List.eq_of_mem_replicate he]
    exact draw_lt _ (by decide)
  · exact h
theorem ok_set {n i : Nat} {l : List Int} {v : Int} (h : l.length = n ∧ ∀ e ∈ l, 0 ≤ e ∧ e < 8) (hv : 0 ≤ v ∧ v < 8) : (l.set i v).length = n ∧ ∀ e ∈ l.set i v, 0 ≤ e ∧ e < 8 := by
  refine ⟨by rw [List.length_set]; exact h.1, fun e he => ?_⟩
  rcases List.mem_or_eq_of_mem_set he with z | z
  · exact h.2 e z
  · rw [z]; exact hv
theorem ok_e2 {k : Int} {n : Nat} {a : EA} (h : okA n a) : okA n (e2 k n a) := by
  unfold e2
  split
  · exact ok_set h (draw_lt _ (by decide))
  · exact h
theorem ok_e3 {k : Int} {n : Nat} {a : EA} (h : okA n a) : okA n (e3 k n a) := by
  unfold e3
  split
  · exact ok_set h ⟨Int.emod_nonneg _ (by decide), Int.emod_lt_of_pos _ (by decide)⟩
  · exact h
theorem ok_ends (S : Src) (n : Nat) : okA n (endsM S n) := ok_e3 (ok_e2 (ok_e1 (ok_e0 _ _ _)))
def R__law_ends : W → List Ag → W → D → Prop := fun w as w' r => ∃ (p : Addr) (S : Src) (n : Nat), (0 < n ∧ n ≤ 8) ∧ w = [(p, Cell.L S.L)] ∧ w' = [(p, Cell.L (endsM S n).2.L)] ∧ as = [.own p, .dat (nD n)] ∧ r = eD (endsM S n).1
theorem r__law_ends {p : Addr} {S : Src} {n : Nat} (h : 0 < n ∧ n ≤ 8) : R__law_ends [(p, Cell.L S.L)] [.own p, .dat (nD n)] [(p, Cell.L (endsM S n).2.L)] (eD (endsM S n).1) := ⟨p, S, n, h, rfl, rfl, rfl, rfl⟩
theorem rep_int (n : Nat) (v : Int) : (List.replicate ((n : Int)).toNat [PyData.int v]).flatten = (List.replicate n v).map PyData.int := by
  rw [Int.toNat_natCast, rep_flat, List.map_replicate]
theorem ixN_of {n : Nat} {j : Int} (h : 0 ≤ j ∧ j < (n : Int)) : ixN n j = some j.toNat := by
  unfold ixN
  rw [if_pos h.1, if_pos h.2]
section
variable {P : Program} {wd : World} {K : PySem.W.Frag} {mg : Str → Option Value} {base : Heap}
theorem ok__law_ends {f : Addr} {fd : FuncData} (F : Fun K "_law_ends" "_law_ends" s__law_ends f fd) (M : Blt mg) (m_sum : mg "sum" = none) (C_draw : Cal P wd K mg base 1 "_law_draw" 2 R__law_draw) : FnOk P wd K mg base CX0 2 f fd ["source", "size"] (spG K 2 R__law_ends) := by
  refine fn_ok F sc__law_ends fun cdv A outer s H E hr w as w' r hl dm h => ?_
  obtain ⟨p, S, n, hn, rfl, rfl, rfl, rfl⟩ := h
  clear hl dm
  have hN := sc__law_ends.nd
  have hnb : 0 < (n : Int) ∧ (n : Int) < 1073741824 := by omega
  refine Ws.rho (ρ' := [_, _, _, _, _, _]) rfl ?_
  refine Ws.cons (Wt.set 2 (Ev.callCS 0 C_draw hr (EvA.own 0 rfl (EvA.cons Ev.int EvA.nil)) rfl (r__law_draw (S := S) (m := 4) (by decide))) ?_ hN)
  refine Ws.wld (w' := [(p, Cell.L (drawS S 4).L)]) rfl ?_
  refine Ws.rho (ρ' := [_, _, _, _, _, _]) rfl ?_
  unfold endsM
  generalize draw S 4 = k
  generalize drawS S 4 = S1
  refine Ws.cons (Wt.new 3 (EvN.repL (ds := [_]) (EvA.cons Ev.int EvA.nil) (Ev.var 1 rfl) ⟨by omega, by omega⟩ (by show 1 ≤ 100; decide)) (fun pe => ?_) hN)
  refine Ws.wld (w' := [(p, Cell.L S1.L), (pe, Cell.L ((List.replicate n 0).map PyData.int))]) (by rw [← rep_int]; rfl) ?_
  refine Ws.rho (ρ' := [_, _, _, _, _, _]) rfl ?_
  have J : ∀ a : EA, okA n a → True := fun _ _ => trivial
  have hb0 := ok_e0 k n S1
  refine Ws.cons (Wt.cut (fun ρ w => ∃ pe x4 x5, w = [(p, Cell.L (e0 k n S1).2.L), (pe, Cell.L ((e0 k n S1).1.map PyData.int))] ∧ ρ = [.own p, .dat (nD n), .dat (.int k), .own pe, x4, x5]) (Wt.ite (EvT.of (EvW.or (EvT.cmp (Ev.var 2 rfl) Ev.int od_eq) fun _ => EvW.or1 (EvT.cmp (Ev.var 2 rfl) Ev.int od_eq))) (fun h1 => ?_) (fun h2 => ?_)) ?_)
  · have h1' : k = 0 ∨ k = 3 := by simpa using h1
    refine Ws.drop (w' := [(p, Cell.L S1.L)]) (List.Sublist.cons₂ _ (List.Sublist.cons _ List.Sublist.slnil)) ?_
    refine Ws.rho (ρ' := [_, _, _, _, _, _]) rfl ?_
    refine Ws.cons (Wt.newRd 3 (compR_run 4 (n := (n : Int)) (ws := fun i => [(p, Cell.L (seqE S1 i).L)]) (ys := fun i => .int (draw (seqE S1 i) 8)) (EvA.cons (Ev.var 1 rfl) EvA.nil) (by omega) (by omega) rfl (fun _ => rfl) (fun i hi s H0 C cl fp => Ev.callCS 0 C_draw hr (EvA.own 0 rfl (EvA.cons Ev.int EvA.nil)) rfl (r__law_draw (S := seqE S1 i) (m := 8) (by decide)))) (ps_compR 3 4 (blkOk_by (N := N__law_ends) (sc := defScope s__law_ends) (by decide +kernel)) rfl hN M.range) (fun pe2 => ?_))
    refine Ws.nil ⟨pe2, .none, .none, ?_, rfl⟩
    unfold e0
    rw [if_pos h1']
    show [(p, Cell.L (seqE S1 ((n : Int)).toNat).L), (pe2, Cell.L ((List.range ((n : Int)).toNat).map fun i => PyData.int (draw (seqE S1 i) 8)))] = [(p, Cell.L (seqE S1 n).L), (pe2, Cell.L ((drawsE S1 n).map PyData.int))]
    rw [Int.toNat_natCast]
    unfold drawsE
    rw [List.map_map]
    rfl
  · have h2' : ¬ (k = 0 ∨ k = 3) := by
      intro z
      simp only [Bool.or_eq_false_iff, decide_eq_false_iff_not] at h2
      omega
    refine Ws.nil ⟨pe, .none, .none, ?_, rfl⟩
    unfold e0
    rw [if_neg h2']
  rintro ρ w ⟨pe1, x4, x5, rfl, rfl⟩
  clear J
  generalize e0 k n S1 = a0 at hb0
  have hb1 : okA n (e1 k n a0) := ok_e1 hb0
  refine Ws.rho (ρ' := [_, _, _, _, _, _]) rfl ?_
  refine Ws.cons (Wt.cut (fun ρ w => ∃ pe x4 x5, w = [(p, Cell.L (e1 k n a0).2.L), (pe, Cell.L ((e1 k n a0).1.map PyData.int))] ∧ ρ = [.own p, .dat (nD n), .dat (.int k), .own pe, x4, x5]) (Wt.ite (EvT.cmp (Ev.var 2 rfl) Ev.int od_eq) (fun h1 => ?_) (fun h2 => ?_)) ?_)
  · have h1' : k = 1 := of_decide_eq_true h1
    refine Ws.drop (w' := [(p, Cell.L a0.2.L)]) (List.Sublist.cons₂ _ (List.Sublist.cons _ List.Sublist.slnil)) ?_
    refine Ws.rho (ρ' := [_, _, _, _, _, _]) rfl ?_
    refine Ws.cons (Wt.set 5 (Ev.callCS 0 C_draw hr (EvA.own 0 rfl (EvA.cons Ev.int EvA.nil)) rfl (r__law_draw (S := a0.2) (m := 8) (by decide))) ?_ hN)
    refine Ws.wld (w' := [(p, Cell.L (drawS a0.2 8).L)]) rfl ?_
    refine Ws.rho (ρ' := [_, _, _, _, _, _]) rfl ?_
    refine Ws.cons (Wt.new 3 (EvN.repL (ds := [_]) (EvA.cons (Ev.var 5 rfl) EvA.nil) (Ev.var 1 rfl) ⟨by omega, by omega⟩ (by show 1 ≤ 100; decide)) (fun pe2 => ?_) hN)
    refine Ws.nil ⟨pe2, x4, .dat (.int (draw a0.2 8)), ?_, rfl⟩
    unfold e1
    rw [if_pos h1', ← rep_int]
    rfl
  · have h2' : ¬ k = 1 := of_decide_eq_false h2
    refine Ws.nil ⟨pe1, x4, x5, ?_, rfl⟩
    unfold e1
    rw [if_neg h2']
  rintro ρ w ⟨pe2, x4, x5, rfl, rfl⟩
  generalize e1 k n a0 = a1 at hb1
  have hb2 : okA n (e2 k n a1) := ok_e2 hb1
  refine Ws.rho (ρ' := [_, _, _, _, _, _]) rfl ?_
  refine Ws.cons (Wt.cut (fun ρ w => ∃ pe x4 x5, w = [(p, Cell.L (e2 k n a1).2.L), (pe, Cell.L ((e2 k n a1).1.map PyData.int))] ∧ ρ = [.own p, .dat (nD n), .dat (.int k), .own pe, x4, x5]) (Wt.ite (EvT.of (EvW.or (EvT.cmp (Ev.var 2 rfl) Ev.int od_eq) fun _ => EvW.or1 (EvT.cmp (Ev.var 2 rfl) Ev.int od_eq))) (fun h1 => ?_) (fun h2 => ?_)) ?_)
  · have h1' : k = 1 ∨ k = 2 := by simpa using h1
    have hd := draw_lt (drawS a1.2 8) hnb.1
    refine Ws.cons (Wt.setIx 1 3 (m := (draw (drawS a1.2 8) (n : Int)).toNat) rfl (Ev.callCS 0 C_draw hr (EvA.own 0 rfl (EvA.cons Ev.int EvA.nil)) rfl (r__law_draw (S := a1.2) (m := 8) (by decide))) (Ev.callCS 0 C_draw hr (EvA.own 0 rfl (EvA.cons (Ev.var 1 rfl) EvA.nil)) rfl (r__law_draw (S := drawS a1.2 8) (m := (n : Int)) hnb)) rfl (by rw [List.length_map, hb1.1]; exact ixN_of hd) ?_)
    refine Ws.nil ⟨pe2, x4, x5, ?_, rfl⟩
    unfold e2
    rw [if_pos h1', List.map_set]
    rfl
  · have h2' : ¬ (k = 1 ∨ k = 2) := by
      intro z
      simp only [Bool.or_eq_false_iff, decide_eq_false_iff_not] at h2
      omega
    refine Ws.nil ⟨pe2, x4, x5, ?_, rfl⟩
    unfold e2
    rw [if_neg h2']
  rintro ρ w ⟨pe3, x4, x5, rfl, rfl⟩
  generalize e2 k n a1 = a2 at hb2
  refine Ws.rho (ρ' := [_, _, _, _, _, _]) rfl ?_
  refine Ws.cons (Wt.cut (fun ρ w => ∃ pe x4 x5, w = [(p, Cell.L (e3 k n a2).2.L), (pe, Cell.L ((e3 k n a2).1.map PyData.int))] ∧ ρ = [.own p, .dat (nD n), .dat (.int k), .own pe, x4, x5]) (Wt.ite (EvT.cmp (Ev.var 2 rfl) Ev.int od_eq) (fun h1 => ?_) (fun h2 => ?_)) ?_)
  · have h1' : k = 3 := of_decide_eq_true h1
    have hd := draw_lt a2.2 (m := 2) (by decide)
    have e9 : ((n : Int) - 1) = ((n - 1 : Nat) : Int) := by omega
    have hcut : cutP (a2.1.map PyData.int) none (some ((n : Int) - 1)) = (a2.1.take (n - 1)).map PyData.int := by
      rw [e9, cut_nat (by rw [List.length_map, hb2.1]; omega), List.map_take]
    refine Ws.cons (Wt.setIx 1 3 (m := n - 1) rfl (Ev.bin (Ev.intC (Ev.bin (Ev.bin Ev.int (Ev.callCS 0 C_draw hr (EvA.own 0 rfl (EvA.cons Ev.int EvA.nil)) rfl (r__law_draw (S := a2.2) (m := 2) (by decide))) (od_mul (.inl (by decide)))) (Ev.sumL (EvN.ev (EvN.to (EvN.slO 1 3 rfl rfl EvP.none (EvP.some (Ev.bin (Ev.var 1 rfl) Ev.int od_sub))) hcut)) m_sum rfl) od_sub) M.int) Ev.int (od_mod (by decide))) (Ev.bin (Ev.var 1 rfl) Ev.int od_sub) rfl (by rw [List.length_map, hb2.1, e9]; rw [ixN_of ⟨by omega, by omega⟩, Int.toNat_natCast]) ?_)
    refine Ws.nil ⟨pe3, x4, x5, ?_, rfl⟩
    unfold e3
    rw [if_pos h1', List.map_set]
    rfl
  · have h2' : ¬ k = 3 := of_decide_eq_false h2
    refine Ws.nil ⟨pe3, x4, x5, ?_, rfl⟩
    unfold e3
    rw [if_neg h2']
  rintro ρ w ⟨pe4, x4, x5, rfl, rfl⟩
  refine Ws.rho (ρ' := [_, _, _, _, _, _]) rfl ?_
  refine Ws.freeze (i := 3) 1 rfl rfl ?_
  refine Ws.wld (w' := [(p, Cell.L (e3 k n a2).2.L)]) rfl ?_
  refine Ws.rho (ρ' := [_, _, _, _, _, _]) rfl ?_
  exact Ws.cons (Wt.ret (Ev.tupleL (Ev.var 3 rfl) M.tuple) ⟨rfl, rfl⟩)
end
end Q

namespace Q
open PySem PySem.Spec PyProof.Rows L2 Evl Pm
theorem ps_compT {X : Cx} {x : Str} {pos : Pos} (i j : Nat) {y : Str} {py : Pos} {elt it : Expr} {scope : Scope} {px spos : Pos} (ok : BlkOk X.N X.env.scope scope [(x, j)]) (hc : X.calm = true) (hN : X.N.Nodup) (hsw : swapsWith (.ListComp elt [⟨.Name x px, it, [], 0⟩] scope pos) (some (.Name y py)) spos.line X.env = pure true := by exact sw_true rfl rfl rfl (by decide +kernel))
    (hy : X.N[i]? = some y := by rfl) (hyl : X.env.scope.names.lookup y = some .local := by rfl) (hi : X.N[j]? = some x := by rfl) (hx : Loc (relabel scope X.env) x := by first | exact Or.inl rfl | exact Or.inr rfl)
    (hf : (scope.names.lookup x == some .cell) = true ∨ (relabel scope X.env).names.lookup x = some .local := by first | exact .inr rfl | exact .inl rfl)
    (hfs : ∀ x, foldedSetIterable it X.env x = pure x := by intro _; rfl) :
    PS X (.Assign [.Name y py] (.ListComp elt [⟨.Name x px, it, [], 0⟩] scope pos) spos) (tAsg (tLc (iTup X.K (wE X it)) (gName j) tYes (tBlk X scope elt) [j]) (gName i)) :=
  ps_setLc (own := [(x, j)]) hc hN hy hyl hsw (pi_tup pe_w) ok (fun s H C cl fp => pg_name hN hi hx hf) (fun s H C cl fp => pts_nil) (fun s H C cl fp => ⟨fun pins s' σ H Q I h => h s _ C cl fp pins s' I⟩) hfs
theorem Ws.rhoX {X : Cx} {sts : List Stmt} {E : DE} {ρ : List Pm.Slot} {w : W} (ρ' : List Pm.Slot) (e : ρ = ρ') (h : Ws X sts E ρ' w) : Ws X sts E ρ w := e ▸ h
/-- the scope of the outer comprehension -/
def scG : Scope := { kind := .function, names := [(".0", .local), ("gate", .local), ("extra", .cell), ("n", .cell)], isGenerator := false, isCoroutine := false }
/-- a gate with its masks -/
def gmD (N : Nat) (g : G) : D := .tuple [.str (nm g.1), .list ((g.2.map (maskN N)).map nD)]
theorem range_filter {α : Type} (p : α → Bool) (d : α) : ∀ l : List α, ((List.range l.length).filter fun i => p (l.getD i d)).length = (l.filter p).length := by
  intro l
  have e : (List.range l.length).map (fun i => l.getD i d) = l := by
    apply List.ext_getElem?
    intro i
    rw [List.getElem?_map]
    by_cases h : i < l.length
    · rw [List.getElem?_range h, List.getElem?_eq_getElem h]
      show some (l.getD i d) = _
      rw [List.getD_eq_getElem?_getD, List.getElem?_eq_getElem h]
      rfl
    · rw [List.getElem?_eq_none (by rw [List.length_range]; omega), List.getElem?_eq_none (by omega)]
      rfl
  have e2 := congrArg (fun l' => (l'.filter p).length) e
  skip
  rw [List.filter_map, List.length_map] at e2
  exact e2
theorem okG_parts {n : Nat} {g : G} (h : okG n g = true) : g.1 < 13 ∧ g.2.length = arN g.1 ∧ ∀ q ∈ g.2, q < n := by
  unfold okG at h
  simp only [Bool.and_eq_true, decide_eq_true_eq] at h
  exact ⟨h.1, h.2.1, fun q hq => of_decide_eq_true (List.all_eq_true.mp h.2.2.1 q hq)⟩
theorem okG_nm {n : Nat} {gs : List G} (h : gs.all (okG n) = true) : ∀ g ∈ gs, g.1 < 13 ∧ g.2.length = arN g.1 ∧ ∀ q ∈ g.2, q < n := fun g hg => okG_parts (List.all_eq_true.mp h g hg)
theorem is_masks {n : Nat} {l : List Nat} : ∀ m ∈ l.map (maskN n), isMask m := fun m hm => by
  obtain ⟨q, _, rfl⟩ := List.mem_map.mp hm
  exact ⟨_, rfl⟩
theorem ar_le (k : Nat) : arN k ≤ 2 := by unfold arN; split <;> omega
def tD (es : List Int) : D := .tuple [cD (endsG es).1, nD (endsG es).2]
def R__law_makes : W → List Ag → W → D → Prop := fun w as w' r => w = [] ∧ w' = [] ∧ ∃ (es : List Int) (n : Nat), (okE es ∧ Plain n es ∧ n ≤ 3) ∧ as = [.dat (eD es), .dat (nD n)] ∧ r = tD es
theorem r__law_makes {es : List Int} {n : Nat} (h : okE es ∧ Plain n es ∧ n ≤ 3) : R__law_makes [] [.dat (eD es), .dat (nD n)] [] (tD es) := ⟨rfl, rfl, es, n, h, rfl, rfl⟩
theorem ex_le {es : List Int} : extraN es ≤ 1 := by
  unfold extraN
  split
  · omega
  · split
    · split <;> omega
    · omega
section
variable {P : Program} {wd : World} {K : PySem.W.Frag} {mg : Str → Option Value} {base : Heap}
theorem ok__law_makes {f : Addr} {fd : FuncData} (F : Fun K "_law_makes" "_law_makes" s__law_makes f fd) (M : Blt mg) (C_ends : Cal P wd K mg base 5 "ends_circuit" 1 R_ends_circuit) (C_extra : Cal P wd K mg base 1 "_law_extra" 1 R__law_extra) (C_same0 : Cal P wd K mg base 1 "_law_same" 2 (R__law_same 0)) (C_ic : Cal P wd K mg base 2 "_law_is_circuit" 4 R__law_is_circuit) (C_mask : Cal P wd K mg base 1 "_law_mask" 2 R__law_mask) (C_after : CalM P wd K mg base 3 "_law_after" 3 R__law_after) (C_turn : Cal P wd K mg base 1 "_law_turned" 2 R__law_turned) (C_form : Cal P wd K mg base 1 "_law_form" 5 R__law_form) : FnOk P wd K mg base CX0 6 f fd ["ends", "n"] (spG K 2 R__law_makes) := by
  refine fn_ok F sc__law_makes fun cdv A outer s H E hr w as w' r hl dm h => ?_
  obtain ⟨rfl, rfl, es, n, ⟨hE, hP, hn⟩, rfl, rfl⟩ := h
  clear hl dm
  have hN := sc__law_makes.nd
  obtain ⟨hx, hlen, hB, c, hc, hsim⟩ := hP
  have htd : tD es = .tuple [cD (endsG es).1, nD (extraN es)] := by unfold tD; rw [hx]
  have hends := r_ends_circuit hE
  rw [show (PyData.tuple [cD (endsG es).1, nD (endsG es).2]) = tD es from rfl] at hends
  rw [htd] at hends ⊢
  have hes8 : es.length ≤ 8 := by rcases hE.1 with z | z | z <;> omega
  have hex : extraN es ≤ 1 := ex_le
  have hextra := r__law_extra (es := es)
  generalize extraN es = ex at *
  generalize (endsG es).1 = gs at *
  have hgs := okG_nm hB
  have hDes : lenD (eD es) = some es.length := by show some (es.map PyData.int).length = _; rw [List.length_map]
  refine Ws.rho (ρ' := [_, _, _, _, _, _, _, _, _, _, _, _, _, _]) rfl ?_
  refine Ws.cons (Wt.set 2 (Ev.callC C_ends hr (EvA.cons (Ev.var 0 rfl) EvA.nil) hends) ?_ hN)
  refine Ws.rhoX [_, _, _, _, _, _, _, _, _, _, _, _, _, _] rfl ?_
  refine Ws.cons (Wt.set 3 (Ev.to (d1 := KN) (Ev.lst (ds := [_, _, _, _, _, _, _, _, _, _, _, _, _]) (EvA.cons Ev.str (EvA.cons Ev.str (EvA.cons Ev.str (EvA.cons Ev.str (EvA.cons Ev.str (EvA.cons Ev.str (EvA.cons Ev.str (EvA.cons Ev.str (EvA.cons Ev.str (EvA.cons Ev.str (EvA.cons Ev.str (EvA.cons Ev.str (EvA.cons Ev.str EvA.nil)))))))))))))) rfl) ?_ hN)
  refine Ws.rho (ρ' := [_, _, _, _, _, _, _, _, _, _, _, _, _, _]) rfl ?_
  refine Ws.cons (Wt.set 4 (Ev.callC C_extra hr (EvA.cons (Ev.var 0 rfl) EvA.nil) hextra) ?_ hN)
  refine Ws.rho (ρ' := [_, _, _, _, _, _, _, _, _, _, _, _, _, _]) rfl ?_
  refine Ws.cons (Wt.skip (EvT.to (EvT.of (EvW.or (j := false) (EvT.not (EvT.val (Ev.isi (k := true) (T := "tuple") (Ev.var 2 rfl) kit_tuple_tuple M.isinstance M.tuple bt_tuple))) fun _ => EvW.or (k := false) (j := false) (EvT.to (EvT.cmp (Ev.lenC (Ev.var 2 rfl) M.len) Ev.int od_ne) rfl) fun _ => EvW.or1 (EvT.to (EvT.not (EvT.val (Ev.callC C_same0 hr (EvA.cons (Ev.ix (Ev.var 2 rfl) Ev.int) (EvA.cons (Ev.var 4 rfl) EvA.nil)) (r__law_same (n := 0) (d := nD ex) trivial)))) rfl))) rfl) ?_)
  refine Ws.cons (Wt.skip (EvT.to (EvT.not (EvT.val (Ev.callC C_ic hr (EvA.cons (Ev.ix (Ev.var 2 rfl) Ev.int) (EvA.cons (Ev.to (d1 := nD (n + ex)) (Ev.bin (Ev.var 1 rfl) (Ev.var 4 rfl) od_add) (congrArg PyData.int (Int.natCast_add n ex).symm)) (EvA.cons Ev.int (EvA.cons (Ev.var 3 rfl) EvA.nil)))) (r__law_is_circuit ⟨hB, hlen⟩)))) rfl) ?_)
  refine Ws.cons (Wt.setRd 5 (compT_run 7 (ds := gs.map gD) (ys := gs.map (gmD (n + ex))) (Ev.ix (Ev.var 2 rfl) Ev.int) (by rw [List.length_map, List.length_map]) (fun i y z hy hz => by
    rw [List.getElem?_map] at hy hz
    cases e : gs[i]? with
    | none => rw [e] at hy; cases hy
    | some g =>
      rw [e] at hy hz
      cases hy
      cases hz
      obtain ⟨h1, h2, h3⟩ := hgs g (List.mem_of_getElem? e)
      have har := ar_le g.1
      intro s H0 C cl fp
      refine Ev.tup (ds := [_, _]) (EvA.cons (Ev.ix (Ev.var 7 rfl) Ev.int) (EvA.cons (EvN.ev (RdN.evn (compT_run 6 (ds := g.2.map nD) (ys := (g.2.map (maskN (n + ex))).map nD) (Ev.ix (Ev.var 7 rfl) Ev.int) (by rw [List.length_map, List.length_map, List.length_map]) (fun i2 y2 z2 hy2 hz2 => by
        rw [List.getElem?_map] at hy2
        rw [List.getElem?_map, List.getElem?_map] at hz2
        cases e2 : g.2[i2]? with
        | none => rw [e2] at hy2; cases hy2
        | some q =>
          rw [e2] at hy2 hz2
          cases hy2
          cases hz2
          exact fun s2 H2 C2 cl2 fp2 => Ev.callC C_mask hr (EvA.cons (Ev.to (d1 := nD (n + ex)) (Ev.bin (Ev.var 1 rfl) (Ev.var 4 rfl) od_add) (congrArg PyData.int (Int.natCast_add n ex).symm)) (EvA.cons (Ev.var 6 rfl) EvA.nil)) (r__law_mask ⟨h3 q (List.mem_of_getElem? e2), by omega⟩)) (by rw [List.length_map]; omega)) (pe_compT 6 (blkOk_by (N := N__law_makes) (sc := scG) (by decide +kernel)) rfl hN))) EvA.nil))) (by rw [List.length_map]; omega)) (ps_compT 5 7 (blkOk_by (N := N__law_makes) (sc := defScope s__law_makes) (by decide +kernel)) rfl hN) ?_)
  refine Ws.rho (ρ' := [.dat (eD es), .dat (nD n), .dat (.tuple [cD gs, nD ex]), .dat KN, .dat (nD ex), .dat (.list (gs.map (gmD (n + ex)))), _, _, _, _, _, _, _, _]) rfl ?_
  have hdep : lenD (PyData.list (((List.range (gs.map (gmD (n + ex))).length).filter fun i => decide ((gs.getD i (0, [])).1 = 5)).map fun i => gmD (n + ex) (gs.getD i (0, [])))) = some (Q.hN gs) := by
    show some (List.length _) = _
    rw [List.length_map, List.length_map]
    exact congrArg some (range_filter (fun g : G => decide (g.1 = 5)) (0, []) gs)
  have hgD : ∀ {i : Nat} {y : D}, (gs.map (gmD (n + ex)))[i]? = some y → i < gs.length ∧ y = gmD (n + ex) (gs.getD i (0, [])) := fun {i y} h => by
    rw [List.getElem?_map] at h
    cases e : gs[i]? with
    | none => rw [e] at h; cases h
    | some g =>
      rw [e] at h
      cases h
      refine ⟨(List.getElem?_eq_some_iff.mp e).1, ?_⟩
      rw [List.getD_eq_getElem?_getD, e]
      rfl
  have hgk : ∀ {i : Nat}, i < gs.length → (gs.getD i (0, [])).1 < 13 ∧ (gs.getD i (0, [])).2.length = arN (gs.getD i (0, [])).1 := fun {i} hi => by
    have e : gs.getD i (0, []) = gs[i] := by rw [List.getD_eq_getElem?_getD, List.getElem?_eq_getElem hi]; rfl
    rw [e]
    have := hgs _ (List.getElem_mem hi)
    exact ⟨this.1, this.2.1⟩
  refine Ws.cons (Wt.set 8 (Ev.lenC (EvN.ev (RdN.evn (compLF_run 7 (ds := gs.map (gmD (n + ex))) (f := fun i => decide ((gs.getD i (0, [])).1 = 5)) (g := fun i => gmD (n + ex) (gs.getD i (0, []))) (Ev.var 5 rfl) (fun i y hy s H0 C cl fp => by
      obtain ⟨hi, rfl⟩ := hgD hy
      exact EvT.to (EvT.cmp (Ev.ix (Ev.var 7 rfl) Ev.int) Ev.str od_eqS) (nm_h _ (hgk hi).1)) (fun i y hy _ s H0 C cl fp => by
      obtain ⟨hi, rfl⟩ := hgD hy
      exact Ev.var 7 rfl) (by rw [List.length_map]; omega)) (pe_compLF 7 (blkOk_by (N := N__law_makes) (sc := defScope s__law_makes) (by decide +kernel)) rfl hN))) M.len hdep) ?_ hN)
  refine Ws.rho (ρ' := [.dat (eD es), .dat (nD n), .dat (.tuple [cD gs, nD ex]), .dat KN, .dat (nD ex), .dat (.list (gs.map (gmD (n + ex)))), _, _, .dat (nD (Q.hN gs)), _, _, _, _, _]) rfl ?_
  clear hdep
  refine Ws.cons (Wt.forR1 9 (n := (es.length : Int)) (fun i ρ w => w = [] ∧ ∃ x6 x7 x9 x10 x11 x12 x13, ρ = [.dat (eD es), .dat (nD n), .dat (.tuple [cD gs, nD ex]), .dat KN, .dat (nD ex), .dat (.list (gs.map (gmD (n + ex)))), x6, x7, .dat (nD (Q.hN gs)), x9, x10, x11, x12, x13]) (EvA.cons (Ev.lenC (Ev.var 0 rfl) M.len hDes) EvA.nil) ⟨by omega, by omega⟩ ⟨rfl, _, _, _, _, _, _, _, rfl⟩ ?_ ?_ .never rfl hN M.range)
  · rintro j ρ w hj ⟨rfl, x6, x7, x9, x10, x11, x12, x13, rfl⟩
    rw [Int.toNat_natCast] at hj
    have hfin := hsim j hj
    have hix : itemD (eD es) (j : Int) = some (.int es[j]) := item_nat (by rw [List.getElem?_map, List.getElem?_eq_getElem hj]; rfl)
    have hgetD : es.getD j 0 = es[j] := by rw [List.getD_eq_getElem?_getD, List.getElem?_eq_getElem hj]; rfl
    dsimp only at hfin
    rw [hgetD] at hfin
    generalize hst : j * (1 + ex) = start at hfin
    refine Ws.rho (ρ' := [_, _, _, _, _, _, _, _, _, .dat (nD j), _, _, _, _]) rfl ?_
    refine Ws.cons (Wt.set 10 (Ev.to (d1 := nD start) (Ev.bin (Ev.var 9 rfl) (Ev.bin Ev.int (Ev.var 4 rfl) od_add) (od_mul (.inl ⟨by omega, by omega⟩))) (by
      rw [← hst]
      show PyData.int ((j : Int) * (1 + (ex : Int))) = .int ((j * (1 + ex) : Nat) : Int)
      rw [Int.natCast_mul, Int.natCast_add]
      rfl)) ?_ hN)
    refine Ws.rho (ρ' := [_, _, _, _, _, _, _, _, _, _, .dat (nD start), _, _, _]) rfl ?_
    refine Ws.cons (Wt.newC 11 (EvC.disp1 (k := .inl (start : Int)) (Ev.var 10 rfl) (Ev.tup (ds := [_, _, _, _]) (EvA.cons Ev.int (EvA.cons Ev.int (EvA.cons Ev.int (EvA.cons Ev.int EvA.nil)))))) (fun a => ?_) hN)
    refine Ws.wld (w' := [(a, Cell.M (mD [(start, one4)]))]) rfl ?_
    refine Ws.rho (ρ' := [_, _, _, _, _, _, _, _, _, _, _, .own a, _, _]) rfl ?_
    refine Ws.cons (Wt.forL 7 (fun i ρ w => ∃ a st x7, w = [(a, Cell.M (mD st))] ∧ simN (n + ex) (gs.drop i) st = some [(start, sc c (m8 es[j]))] ∧ ρ = [.dat (eD es), .dat (nD n), .dat (.tuple [cD gs, nD ex]), .dat KN, .dat (nD ex), .dat (.list (gs.map (gmD (n + ex)))), x6, x7, .dat (nD (Q.hN gs)), .dat (nD j), .dat (nD start), .own a, x12, x13]) (Ev.var 5 rfl) ⟨a, _, _, rfl, hfin, rfl⟩ ?_ ?_ .never rfl hN)
    · rintro i y ρ w hy ⟨a, st, x7, rfl, hsm, rfl⟩
      obtain ⟨hi, rfl⟩ := hgD hy
      have hk := hgk hi
      have eg : gs.getD i (0, []) = gs[i] := by rw [List.getD_eq_getElem?_getD, List.getElem?_eq_getElem hi]; rfl
      rw [List.drop_eq_getElem_cons hi, ← eg] at hsm
      generalize gs.getD i (0, []) = g at hsm hk
      have hstep : st.length ≤ 100 ∧ simN (n + ex) (gs.drop (i + 1)) (afterN g.1 (g.2.map (maskN (n + ex))) st) = some [(start, sc c (m8 es[j]))] := by
        have h0 : (if st.length ≤ 100 then simN (n + ex) (gs.drop (i + 1)) (afterN g.1 (g.2.map (maskN (n + ex))) st) else none) = some [(start, sc c (m8 es[j]))] := hsm
        by_cases hle : st.length ≤ 100
        · rw [if_pos hle] at h0
          exact ⟨hle, h0⟩
        · rw [if_neg hle] at h0
          cases h0
      refine Ws.rho (ρ' := [_, _, _, _, _, _, _, .dat (gmD (n + ex) g), _, _, _, .own a, _, _]) rfl ?_
      refine Ws.cons (Wt.newC 11 (EvC.callC 0 C_after hr (EvA.own 11 rfl (EvA.cons (Ev.ix (Ev.var 7 rfl) Ev.int) (EvA.cons (Ev.ix (Ev.var 7 rfl) Ev.int) EvA.nil))) rfl (r__law_after (k := g.1) (ms := g.2.map (maskN (n + ex))) ⟨hstep.1, hk.1, by rw [List.length_map]; exact hk.2, is_masks⟩)) (fun b => ?_) hN)
      refine Ws.drop (w' := [(b, Cell.M (mD (afterN g.1 (g.2.map (maskN (n + ex))) st)))]) (List.Sublist.cons _ (List.Sublist.refl _)) ?_
      exact Ws.nil ⟨b, _, .dat (gmD (n + ex) g), rfl, hstep.2, rfl⟩
    · rintro ρ w ⟨a, st, x7, rfl, hsm, rfl⟩
      rw [List.length_map, List.drop_length] at hsm
      have est : st = [(start, sc c (m8 es[j]))] := Option.some.inj hsm
      subst est
      have hval : valD (mD [(start, sc c (m8 es[j]))]) (.inl (start : Int)) = some (sc c (m8 es[j])).T := by
        rw [val_mD]
        show Option.map Q4.T (if start = start then _ else _) = _
        rw [if_pos rfl]
        rfl
      refine Ws.rho (ρ' := [_, _, _, _, _, _, _, _, _, _, _, _, _, _]) rfl ?_
      refine Ws.cons (Wt.skip (EvT.to (EvT.of (EvW.or (k := false) (j := false) (EvT.to (EvT.cmp (Ev.lenM 0 11 rfl rfl M.len) Ev.int od_ne) rfl) fun _ => EvW.or1 (EvT.to (EvT.notInM 0 11 (k := .inl (start : Int)) hr.units rfl (Ev.var 10 rfl) rfl) (by rw [hval]; rfl)))) rfl) ?_)
      refine Ws.cons (Wt.set 12 (Ev.ixM 0 11 (k := .inl (start : Int)) hr.units rfl rfl (Ev.var 10 rfl) hval) ?_ hN)
      refine Ws.rho (ρ' := [_, _, _, _, _, _, _, _, _, _, _, _, .dat (sc c (m8 es[j])).T, _]) rfl ?_
      refine Ws.cons (Wt.set 13 (Ev.callC C_turn hr (EvA.cons (Ev.tup (ds := [_, _, _, _]) (EvA.cons Ev.int (EvA.cons Ev.int (EvA.cons Ev.int (EvA.cons Ev.int EvA.nil))))) (EvA.cons (Ev.ix (Ev.var 0 rfl) (Ev.var 9 rfl) hix) EvA.nil)) (r__law_turned (its4 one4))) ?_ hN)
      refine Ws.rho (ρ' := [_, _, _, _, _, _, _, _, _, _, _, _, _, .dat (turnN (es[j] % 8).toNat one4).T]) rfl ?_
      have hd600 : Q.hN gs ≤ 600 := Nat.le_trans (List.length_filter_le _ _) hlen
      have hform : redQ ((Q.hN gs : Nat) : Int).toNat (sc c (m8 es[j])) = ⟨(turnN (es[j] % 8).toNat one4).a, (turnN (es[j] % 8).toNat one4).b, (turnN (es[j] % 8).toNat one4).c, (turnN (es[j] % 8).toNat one4).d, 0⟩ := by
        rw [Int.toNat_natCast, hc]
        unfold sc
        rw [red_sc, show m8 es[j] % 8 = (es[j] % 8).toNat by unfold m8; omega]
      have hcall := r__law_form (a := (sc c (m8 es[j])).a) (b := (sc c (m8 es[j])).b) (c := (sc c (m8 es[j])).c) (d := (sc c (m8 es[j])).d) (k := ((Q.hN gs : Nat) : Int)) ⟨by omega, by omega⟩
      rw [show (⟨(sc c (m8 es[j])).a, (sc c (m8 es[j])).b, (sc c (m8 es[j])).c, (sc c (m8 es[j])).d⟩ : Q4) = sc c (m8 es[j]) from rfl, hform] at hcall
      generalize turnN (es[j] % 8).toNat one4 = t at hcall
      generalize sc c (m8 es[j]) = u at hcall
      refine Ws.cons (Wt.skip (EvT.to (EvT.cmp (Ev.callC C_form hr (EvA.cons (Ev.ix (Ev.var 12 rfl) Ev.int) (EvA.cons (Ev.ix (Ev.var 12 rfl) Ev.int) (EvA.cons (Ev.ix (Ev.var 12 rfl) Ev.int) (EvA.cons (Ev.ix (Ev.var 12 rfl) Ev.int) (EvA.cons (Ev.var 8 rfl) EvA.nil))))) hcall) (Ev.tup (ds := [_, _, _, _, _]) (EvA.cons (Ev.ix (Ev.var 13 rfl) Ev.int) (EvA.cons (Ev.ix (Ev.var 13 rfl) Ev.int) (EvA.cons (Ev.ix (Ev.var 13 rfl) Ev.int) (EvA.cons (Ev.ix (Ev.var 13 rfl) Ev.int) (EvA.cons Ev.int EvA.nil)))))) (od_neD hr.units rfl rfl)) (by
        show (!PyData.eqv (.tuple [.int t.a, .int t.b, .int t.c, .int t.d, .int 0]) (.tuple [.int t.a, .int t.b, .int t.c, .int t.d, .int 0])) = false
        simp [PyData.eqv, PyData.eqvAll])) ?_)
      refine Ws.drop (w' := []) (List.nil_sublist _) ?_
      exact Ws.nil ⟨rfl, x6, x7, .dat (nD j), .dat (nD start), .own a, .dat u.T, .dat t.T, rfl⟩
  · rintro ρ w ⟨rfl, x6, x7, x9, x10, x11, x12, x13, rfl⟩
    refine Ws.rho (ρ' := [_, _, _, _, _, _, _, _, _, _, _, _, _, _]) rfl ?_
    exact Ws.cons (Wt.ret (Ev.var 2 rfl) ⟨rfl, rfl⟩)
end
end Q

namespace Q
open PySem PySem.Spec PyProof.Rows L2 Evl Pm
def R_law : W → List Ag → W → D → Prop := fun w as w' r => w = [] ∧ w' = [] ∧ ∃ ns : List Int, ns.length ≤ 63 ∧ as = [.dat (.list (ns.map PyData.int))] ∧ r = .bool true
theorem r_law {ns : List Int} (h : ns.length ≤ 63) : R_law [] [.dat (.list (ns.map PyData.int))] [] (.bool true) := ⟨rfl, rfl, ns, h, rfl, rfl⟩
def pD (es : List Int) : D := .tuple [eD es, tD es]
theorem all8 {l : List Int} {n : Nat} (h : okA n (l, (⟨0, 0, 0⟩ : Src))) : ∀ e ∈ l, 0 ≤ e ∧ e < 8 := h.2
theorem plain_of {es : List Int} {n : Nat} (hn : n = 1 ∨ n = 2 ∨ n = 3) (hl : es.length = 2 ^ n) (hb : ∀ e ∈ es, 0 ≤ e ∧ e < 8) : okE es ∧ Plain n es ∧ n ≤ 3 := by
  rcases hn with rfl | rfl | rfl
  · obtain ⟨a, b, rfl⟩ := len2 hl
    exact ⟨⟨.inl rfl, hb⟩, plain2 (hb a (by simp)) (hb b (by simp)), by decide⟩
  · obtain ⟨a, b, c, d, rfl⟩ := len4 hl
    exact ⟨⟨.inr (.inl rfl), hb⟩, plain4 (hb a (by simp)) (hb b (by simp)) (hb c (by simp)) (hb d (by simp)), by decide⟩
  · obtain ⟨a, b, c, d, e, f, g, i, rfl⟩ := len88 hl
    exact ⟨⟨.inr (.inr rfl), hb⟩, plain8 (hb a (by simp)) (hb b (by simp)) (hb c (by simp)) (hb d (by simp)) (hb e (by simp)) (hb f (by simp)) (hb g (by simp)) (hb i (by simp)), by decide⟩
theorem okd_nD (n q : Nat) : Okd n (nD q) := by cases n <;> trivial
theorem okd_gD {n : Nat} {g : G} {N : Nat} (h : okG N g = true) : Okd (n + 2) (gD g) := by
  have h2 := okG_parts h
  have ha := ar_le g.1
  refine ⟨by show 2 ≤ 1000; decide, fun x hx => ?_⟩
  rcases List.mem_cons.mp hx with rfl | hx
  · trivial
  · rcases List.mem_cons.mp hx with rfl | hx
    · refine ⟨by rw [List.length_map]; omega, fun y hy => ?_⟩
      obtain ⟨q, _, rfl⟩ := List.mem_map.mp hy
      exact okd_nD _ _
    · cases hx
theorem okd_tD {es : List Int} {n : Nat} (h : Plain n es) : Okd 4 (tD es) := by
  obtain ⟨hx, hlen, hB, _⟩ := h
  refine ⟨by show 2 ≤ 1000; decide, fun x hx => ?_⟩
  rcases List.mem_cons.mp hx with rfl | hx
  · refine ⟨by rw [List.length_map]; omega, fun y hy => ?_⟩
    obtain ⟨g, hg, rfl⟩ := List.mem_map.mp hy
    exact okd_gD (n := 0) (List.all_eq_true.mp hB g hg)
  · rcases List.mem_cons.mp hx with rfl | hx
    · exact okd_nD _ _
    · cases hx
section
variable {P : Program} {wd : World} {K : PySem.W.Frag} {mg : Str → Option Value} {base : Heap}
theorem ok_law {f : Addr} {fd : FuncData} (F : Fun K "law" "law" s_law f fd) (M : Blt mg) (C_source : CalN P wd K mg base 1 "_law_source" 1 R__law_source) (C_draw : Cal P wd K mg base 1 "_law_draw" 2 R__law_draw) (C_mask : Cal P wd K mg base 1 "_law_mask" 2 R__law_mask) (C_ends : Cal P wd K mg base 2 "_law_ends" 2 R__law_ends) (C_makes : Cal P wd K mg base 6 "_law_makes" 2 R__law_makes) (C_circ : Cal P wd K mg base 5 "ends_circuit" 1 R_ends_circuit) (C_same4 : Cal P wd K mg base 5 "_law_same" 2 (R__law_same 4)) : FnOk P wd K mg base CX0 7 f fd ["script"] (spG K 1 R_law) := by
  refine fn_okT F sc_law fun cdv A outer s H E hr w as w' r hl dm h => ?_
  obtain ⟨rfl, rfl, ns, hns, rfl, rfl⟩ := h
  clear hl dm
  have hN := sc_law.nd
  refine Ws.rho (ρ' := [_, _, _, _, _, _, _]) rfl ?_
  refine Ws.cons (Wt.new 1 (EvN.callC C_source hr (EvA.cons (Ev.var 0 rfl) EvA.nil) (r__law_source (ns := ns))) (fun p => ?_) hN)
  refine Ws.wld (w' := [(p, Cell.L (srcOf ns).L)]) rfl ?_
  refine Ws.rho (ρ' := [_, _, _, _, _, _, _]) rfl ?_
  generalize srcOf ns = S0
  refine Ws.cons (Wt.new 2 (EvN.lst (ds := []) EvA.nil) (fun pk => ?_) hN)
  refine Ws.wld (w' := [(p, Cell.L S0.L), (pk, Cell.L (([] : List (List Int)).map pD))]) rfl ?_
  refine Ws.rho (ρ' := [_, _, _, _, _, _, _]) rfl ?_
  refine Ws.cons (Wt.forR1 3 (n := 2) (fun i ρ w => ∃ (S : Src) (l : List (List Int)) (x3 x4 x5 x6 : Pm.Slot), w = [(p, Cell.L S.L), (pk, Cell.L (l.map pD))] ∧ l.length = i ∧ (∀ es ∈ l, okE es ∧ ∃ n, Plain n es) ∧ ρ = [.dat (.list (ns.map PyData.int)), .own p, .own pk, x3, x4, x5, x6]) (EvA.cons Ev.int EvA.nil) (by decide) ⟨S0, [], _, _, _, _, rfl, rfl, (fun es h => by cases h), rfl⟩ ?_ ?_ .never rfl hN M.range)
  · rintro i ρ w hi ⟨S, l, x3, x4, x5, x6, rfl, hlen, hok, rfl⟩
    have hi : i < 2 := hi
    have hd := draw_lt S (m := 3) (by decide)
    have hn3 : ((1 + draw S 3).toNat = 1 ∨ (1 + draw S 3).toNat = 2 ∨ (1 + draw S 3).toNat = 3) ∧ (1 + draw S 3) = (((1 + draw S 3).toNat : Nat) : Int) := by omega
    refine Ws.rho (ρ' := [_, _, _, .dat (.int (i : Int)), _, _, _]) rfl ?_
    refine Ws.cons (Wt.set 4 (Ev.to (d1 := nD (1 + draw S 3).toNat) (Ev.bin Ev.int (Ev.callCS 0 C_draw hr (EvA.own 1 rfl (EvA.cons Ev.int EvA.nil)) rfl (r__law_draw (S := S) (m := 3) (by decide))) od_add) (congrArg PyData.int hn3.2)) ?_ hN)
    obtain ⟨hn, _⟩ := hn3
    generalize (1 + draw S 3).toNat = n at hn
    generalize drawS S 3 = S1
    refine Ws.wld (w' := [(p, Cell.L S1.L), (pk, Cell.L (l.map pD))]) rfl ?_
    refine Ws.rho (ρ' := [_, _, _, _, .dat (nD n), _, _]) rfl ?_
    have hmask : maskN (n + 1) 0 = 2 ^ n := by unfold maskN; rw [show n + 1 - 1 - 0 = n by omega]
    have h2n : 0 < 2 ^ n ∧ 2 ^ n ≤ 8 := by rcases hn with rfl | rfl | rfl <;> decide
    have hmc := r__law_mask (n := n + 1) (p := 0) ⟨by omega, by omega⟩
    rw [hmask] at hmc
    refine Ws.cons (Wt.set 5 (Ev.callCS 0 C_ends hr (EvA.own 1 rfl (EvA.cons (Ev.callC C_mask hr (EvA.cons (Ev.to (d1 := nD (n + 1)) (Ev.bin (Ev.var 4 rfl) Ev.int od_add) rfl) (EvA.cons Ev.int EvA.nil)) hmc) EvA.nil)) rfl (r__law_ends (S := S1) (n := 2 ^ n) h2n)) ?_ hN)
    have hends := ok_ends S1 (2 ^ n)
    unfold okA at hends
    generalize endsM S1 (2 ^ n) = a at hends
    refine Ws.wld (w' := [(p, Cell.L a.2.L), (pk, Cell.L (l.map pD))]) rfl ?_
    obtain ⟨es, S2⟩ := a
    have hpl := plain_of hn hends.1 hends.2
    refine Ws.rho (ρ' := [_, _, _, _, _, .dat (eD es), _]) rfl ?_
    refine Ws.cons (Wt.set 6 (Ev.callC C_makes hr (EvA.cons (Ev.var 5 rfl) (EvA.cons (Ev.var 4 rfl) EvA.nil)) (r__law_makes hpl)) ?_ hN)
    refine Ws.rho (ρ' := [_, _, _, _, _, _, .dat (tD es)]) rfl ?_
    refine Ws.cons (Wt.skip (EvT.cmp (Ev.var 6 rfl) Ev.non od_isN) ?_)
    refine Ws.cons (Wt.append 1 2 rfl (Ev.tup (ds := [_, _]) (EvA.cons (Ev.var 5 rfl) (EvA.cons (Ev.var 6 rfl) EvA.nil))) rfl ?_ (by rw [List.length_map]; omega))
    refine Ws.nil ⟨S2, l ++ [es], .dat (.int (i : Int)), .dat (nD n), .dat (eD es), .dat (tD es), ?_, ?_, ?_, rfl⟩
    · rw [List.map_append]
      rfl
    · rw [List.length_append, hlen]
      rfl
    · intro e he
      rcases List.mem_append.mp he with z | z
      · exact hok e z
      · rw [List.mem_singleton.mp z]
        exact ⟨hpl.1, n, hpl.2.1⟩
  · rintro ρ w ⟨S, l, x3, x4, x5, x6, rfl, hlen, hok, rfl⟩
    have hlen : l.length = 2 := hlen
    match l, hlen with
    | [es, es2], _ =>
      obtain ⟨ho, n, hp⟩ := hok es (List.mem_cons_self ..)
      refine Ws.rho (ρ' := [_, _, _, _, _, _, _]) rfl ?_
      exact Ws.cons (Wt.ret (Ev.callC C_same4 hr (EvA.cons (Ev.callC C_circ hr (EvA.cons (Ev.ix (Ev.ixO 1 2 (d := pD es) rfl rfl Ev.int rfl) Ev.int) EvA.nil) (r_ends_circuit ho)) (EvA.cons (Ev.ix (Ev.ixO 1 2 (d := pD es) rfl rfl Ev.int rfl) Ev.int) EvA.nil)) (r__law_same (n := 4) (d := tD es) (okd_tD hp))) ⟨rfl, _, rfl⟩)
end
end Q

namespace Q
open PySem PySem.Spec PyProof.Rows L2 Evl Pm
def spLaw (K : PySem.W.Frag) : Sp := fun vs H Q _ => ∃ (a : Addr) (ns : List Int), vs = [.ref a] ∧ SqL K H a (ns.map V.int) ∧ ns.length ≤ 63 ∧ ∀ H', Q (.bl true) H'
/-! ### what the top has left -/
theorem sp_law {P : Program} {wd : World} {K : PySem.W.Frag} {mg : Str → Option Value} {base : Heap} {f : Addr} {fd : FuncData} {k : Nat} (F : FnOk P wd K mg base CX0 k f fd ["script"] (spG K 1 R_law)) : FnOk P wd K mg base CX0 k f fd ["script"] (spLaw K) :=
  F.imp fun vs H Q E ⟨a, ns, e, hS, hl, q⟩ => ⟨⟨H, H, Ex.refl H⟩, [], _, [], _, rfl, rfl, own_nil, rfl, by
    rw [e]
    exact .cons (show AgOk K H (.ref a) (.dat (.list (ns.map PyData.int))) from .lst hS (ints_dp ns)) .nil, r_law hl, fun v C l o r => by
    cases r
    exact q C.h⟩
theorem all_mk {l : PySem.W.OpenLaw} {w : World} {K : PySem.W.Frag} {h : Heap} {mg : Str → Option Value} {fa f0 f1 f2 f3 f4 f5 f6 f7 f8 f9 f10 f11 f12 f13 f14 f15 f16 f17 f18 f19 f20 f21 f22 f23 f24 f25 f26 f27 f28 f29 f30 g0 q0 : Addr} (X : K.In h) (G : h.Ns mainGlobals mg) (hfa : mg "law" = some (.ref fa))
    {od0 an0 od1 an1 od2 an2 od3 an3 od4 an4 od5 an5 od6 an6 od7 an7 od8 an8 od9 an9 od10 an10 od11 an11 od12 an12 od13 an13 od14 an14 od15 an15 od16 an16 od17 an17 od18 an18 od19 an19 od20 an20 od21 an21 od22 an22 od23 an23 od24 an24 od25 an25 od26 an26 od27 an27 od28 an28 od29 an29 od30 an30 : Option Addr} {sl0 sl1 sl2 sl3 sl4 sl5 sl6 sl7 sl8 sl9 sl10 sl11 sl12 sl13 sl14 sl15 sl16 sl17 sl18 sl19 sl20 sl21 sl22 sl23 sl24 sl25 sl26 sl27 sl28 sl29 sl30 : Array (Option Value)} {oc0 kV0 dc0 pm0 cd0 ct0 oc1 kV1 dc1 pm1 cd1 ct1 oc2 kV2 dc2 pm2 cd2 ct2 oc3 kV3 dc3 pm3 cd3 ct3 oc4 kV4 dc4 pm4 cd4 ct4 oc5 kV5 dc5 pm5 cd5 ct5 oc6 kV6 dc6 pm6 cd6 ct6 oc7 kV7 dc7 pm7 cd7 ct7 oc8 kV8 dc8 pm8 cd8 ct8 oc9 kV9 dc9 pm9 cd9 ct9 oc10 kV10 dc10 pm10 cd10 ct10 oc11 kV11 dc11 pm11 cd11 ct11 oc12 kV12 dc12 pm12 cd12 ct12 oc13 kV13 dc13 pm13 cd13 ct13 oc14 kV14 dc14 pm14 cd14 ct14 oc15 kV15 dc15 pm15 cd15 ct15 oc16 kV16 dc16 pm16 cd16 ct16 oc17 kV17 dc17 pm17 cd17 ct17 oc18 kV18 dc18 pm18 cd18 ct18 oc19 kV19 dc19 pm19 cd19 ct19 oc20 kV20 dc20 pm20 cd20 ct20 oc21 kV21 dc21 pm21 cd21 ct21 oc22 kV22 dc22 pm22 cd22 ct22 oc23 kV23 dc23 pm23 cd23 ct23 oc24 kV24 dc24 pm24 cd24 ct24 oc25 kV25 dc25 pm25 cd25 ct25 oc26 kV26 dc26 pm26 cd26 ct26 oc27 kV27 dc27 pm27 cd27 ct27 oc28 kV28 dc28 pm28 cd28 ct28 oc29 kV29 dc29 pm29 cd29 ct29 oc30 kV30 dc30 pm30 cd30 ct30 : Value}
    {ug0 : Option Addr} {ng0 : Nat} {sg0 : Array (Option Value)} {h0_0 h0_1 h0_2 h0_3 h0_4 h0_5 h0_6 h0_7 : Addr}
    {uh0_0 : Option Addr} {nh0_0 : Nat} {sh0_0 : Array (Option Value)}
    {uh0_1 : Option Addr} {nh0_1 : Nat} {sh0_1 : Array (Option Value)} {t0_1_0 : Tok}
    {uh0_2 : Option Addr} {nh0_2 : Nat} {sh0_2 : Array (Option Value)} {t0_2_0 : Tok}
    {uh0_3 : Option Addr} {nh0_3 : Nat} {sh0_3 : Array (Option Value)} {t0_3_0 t0_3_1 : Tok}
    {uh0_4 : Option Addr} {nh0_4 : Nat} {sh0_4 : Array (Option Value)} {t0_4_0 : Tok}
    {uh0_5 : Option Addr} {nh0_5 : Nat} {sh0_5 : Array (Option Value)} {t0_5_0 t0_5_1 : Tok}
    {uh0_6 : Option Addr} {nh0_6 : Nat} {sh0_6 : Array (Option Value)} {t0_6_0 : Tok}
    {uh0_7 : Option Addr} {nh0_7 : Nat} {sh0_7 : Array (Option Value)} {t0_7_0 : Tok}
    {nq0 : Nat} {x0_0 y0_0 x0_1 y0_1 x0_2 y0_2 x0_3 y0_3 x0_4 y0_4 x0_5 y0_5 : Tok}
    (a0 : PySem.W.nsIn K mainGlobals "inverse_gate" = some (some (.ref f0))) (l0 : K.lookup f0 = some ⟨oc0, od0, .func (PySem.W.fnOf "inverse_gate" "inverse_gate" (defArgs s_inverse_gate) (defBody s_inverse_gate) (defScope s_inverse_gate) .none kV0 dc0 pm0 an0 cd0 ct0), sl0⟩) (c0 : PySem.W.codeIn K cd0 "inverse_gate" = true) (k0 : PySem.W.keepIn K (.ref f0) = true)
    (a1 : PySem.W.nsIn K mainGlobals "inverse_circuit" = some (some (.ref f1))) (l1 : K.lookup f1 = some ⟨oc1, od1, .func (PySem.W.fnOf "inverse_circuit" "inverse_circuit" (defArgs s_inverse_circuit) (defBody s_inverse_circuit) (defScope s_inverse_circuit) .none kV1 dc1 pm1 an1 cd1 ct1), sl1⟩) (c1 : PySem.W.codeIn K cd1 "inverse_circuit" = true) (k1 : PySem.W.keepIn K (.ref f1) = true)
    (a2 : PySem.W.nsIn K mainGlobals "phase_gates" = some (some (.ref f2))) (l2 : K.lookup f2 = some ⟨oc2, od2, .func (PySem.W.fnOf "phase_gates" "phase_gates" (defArgs s_phase_gates) (defBody s_phase_gates) (defScope s_phase_gates) .none kV2 dc2 pm2 an2 cd2 ct2), sl2⟩) (c2 : PySem.W.codeIn K cd2 "phase_gates" = true) (k2 : PySem.W.keepIn K (.ref f2) = true)
    (a3 : PySem.W.nsIn K mainGlobals "omega_gates" = some (some (.ref f3))) (l3 : K.lookup f3 = some ⟨oc3, od3, .func (PySem.W.fnOf "omega_gates" "omega_gates" (defArgs s_omega_gates) (defBody s_omega_gates) (defScope s_omega_gates) .none kV3 dc3 pm3 an3 cd3 ct3), sl3⟩) (c3 : PySem.W.codeIn K cd3 "omega_gates" = true) (k3 : PySem.W.keepIn K (.ref f3) = true)
    (a4 : PySem.W.nsIn K mainGlobals "narrow_ccz" = some (some (.ref f4))) (l4 : K.lookup f4 = some ⟨oc4, od4, .func (PySem.W.fnOf "narrow_ccz" "narrow_ccz" (defArgs s_narrow_ccz) (defBody s_narrow_ccz) (defScope s_narrow_ccz) .none kV4 dc4 pm4 an4 cd4 ct4), sl4⟩) (c4 : PySem.W.codeIn K cd4 "narrow_ccz" = true) (k4 : PySem.W.keepIn K (.ref f4) = true)
    (a5 : PySem.W.nsIn K mainGlobals "narrow_ccx" = some (some (.ref f5))) (l5 : K.lookup f5 = some ⟨oc5, od5, .func (PySem.W.fnOf "narrow_ccx" "narrow_ccx" (defArgs s_narrow_ccx) (defBody s_narrow_ccx) (defScope s_narrow_ccx) .none kV5 dc5 pm5 an5 cd5 ct5), sl5⟩) (c5 : PySem.W.codeIn K cd5 "narrow_ccx" = true) (k5 : PySem.W.keepIn K (.ref f5) = true)
    (a6 : PySem.W.nsIn K mainGlobals "_index_bits" = some (some (.ref f6))) (l6 : K.lookup f6 = some ⟨oc6, od6, .func (PySem.W.fnOf "_index_bits" "_index_bits" (defArgs s__index_bits) (defBody s__index_bits) (defScope s__index_bits) .none kV6 dc6 pm6 an6 cd6 ct6), sl6⟩) (c6 : PySem.W.codeIn K cd6 "_index_bits" = true) (k6 : PySem.W.keepIn K (.ref f6) = true)
    (a7 : PySem.W.nsIn K mainGlobals "brought_together" = some (some (.ref f7))) (l7 : K.lookup f7 = some ⟨oc7, od7, .func (PySem.W.fnOf "brought_together" "brought_together" (defArgs s_brought_together) (defBody s_brought_together) (defScope s_brought_together) .none kV7 dc7 pm7 an7 cd7 ct7), sl7⟩) (c7 : PySem.W.codeIn K cd7 "brought_together" = true) (k7 : PySem.W.keepIn K (.ref f7) = true)
    (a8 : PySem.W.nsIn K mainGlobals "ends_circuit" = some (some (.ref f8))) (l8 : K.lookup f8 = some ⟨oc8, od8, .func (PySem.W.fnOf "ends_circuit" "ends_circuit" (defArgs s_ends_circuit) (defBody s_ends_circuit) (defScope s_ends_circuit) .none kV8 dc8 pm8 an8 cd8 ct8), sl8⟩) (c8 : PySem.W.codeIn K cd8 "ends_circuit" = true) (k8 : PySem.W.keepIn K (.ref f8) = true)
    (a9 : PySem.W.nsIn K mainGlobals "_two_qubit_ends" = some (some (.ref f9))) (l9 : K.lookup f9 = some ⟨oc9, od9, .func (PySem.W.fnOf "_two_qubit_ends" "_two_qubit_ends" (defArgs s__two_qubit_ends) (defBody s__two_qubit_ends) (defScope s__two_qubit_ends) .none kV9 dc9 pm9 an9 cd9 ct9), sl9⟩) (c9 : PySem.W.codeIn K cd9 "_two_qubit_ends" = true) (k9 : PySem.W.keepIn K (.ref f9) = true)
    (a10 : PySem.W.nsIn K mainGlobals "_three_qubit_ends" = some (some (.ref f10))) (l10 : K.lookup f10 = some ⟨oc10, od10, .func (PySem.W.fnOf "_three_qubit_ends" "_three_qubit_ends" (defArgs s__three_qubit_ends) (defBody s__three_qubit_ends) (defScope s__three_qubit_ends) .none kV10 dc10 pm10 an10 cd10 ct10), sl10⟩) (c10 : PySem.W.codeIn K cd10 "_three_qubit_ends" = true) (k10 : PySem.W.keepIn K (.ref f10) = true)
    (a11 : PySem.W.nsIn K mainGlobals "_opposite_phases" = some (some (.ref f11))) (l11 : K.lookup f11 = some ⟨oc11, od11, .func (PySem.W.fnOf "_opposite_phases" "_opposite_phases" (defArgs s__opposite_phases) (defBody s__opposite_phases) (defScope s__opposite_phases) .none kV11 dc11 pm11 an11 cd11 ct11), sl11⟩) (c11 : PySem.W.codeIn K cd11 "_opposite_phases" = true) (k11 : PySem.W.keepIn K (.ref f11) = true)
    (a12 : PySem.W.nsIn K mainGlobals "_paired_signs" = some (some (.ref f12))) (l12 : K.lookup f12 = some ⟨oc12, od12, .func (PySem.W.fnOf "_paired_signs" "_paired_signs" (defArgs s__paired_signs) (defBody s__paired_signs) (defScope s__paired_signs) .none kV12 dc12 pm12 an12 cd12 ct12), sl12⟩) (c12 : PySem.W.codeIn K cd12 "_paired_signs" = true) (k12 : PySem.W.keepIn K (.ref f12) = true)
    (a13 : PySem.W.nsIn K mainGlobals "_mark_both" = some (some (.ref f13))) (l13 : K.lookup f13 = some ⟨oc13, od13, .func (PySem.W.fnOf "_mark_both" "_mark_both" (defArgs s__mark_both) (defBody s__mark_both) (defScope s__mark_both) .none kV13 dc13 pm13 an13 cd13 ct13), sl13⟩) (c13 : PySem.W.codeIn K cd13 "_mark_both" = true) (k13 : PySem.W.keepIn K (.ref f13) = true)
    (a14 : PySem.W.nsIn K mainGlobals "_mark_all" = some (some (.ref f14))) (l14 : K.lookup f14 = some ⟨oc14, od14, .func (PySem.W.fnOf "_mark_all" "_mark_all" (defArgs s__mark_all) (defBody s__mark_all) (defScope s__mark_all) .none kV14 dc14 pm14 an14 cd14 ct14), sl14⟩) (c14 : PySem.W.codeIn K cd14 "_mark_all" = true) (k14 : PySem.W.keepIn K (.ref f14) = true)
    (a15 : PySem.W.nsIn K mainGlobals "_law_source" = some (some (.ref f15))) (l15 : K.lookup f15 = some ⟨oc15, od15, .func (PySem.W.fnOf "_law_source" "_law_source" (defArgs s__law_source) (defBody s__law_source) (defScope s__law_source) .none kV15 dc15 pm15 an15 cd15 ct15), sl15⟩) (c15 : PySem.W.codeIn K cd15 "_law_source" = true) (k15 : PySem.W.keepIn K (.ref f15) = true)
    (a16 : PySem.W.nsIn K mainGlobals "_law_draw" = some (some (.ref f16))) (l16 : K.lookup f16 = some ⟨oc16, od16, .func (PySem.W.fnOf "_law_draw" "_law_draw" (defArgs s__law_draw) (defBody s__law_draw) (defScope s__law_draw) .none kV16 dc16 pm16 an16 cd16 ct16), sl16⟩) (c16 : PySem.W.codeIn K cd16 "_law_draw" = true) (k16 : PySem.W.keepIn K (.ref f16) = true)
    (a17 : PySem.W.nsIn K mainGlobals "_law_same" = some (some (.ref f17))) (l17 : K.lookup f17 = some ⟨oc17, od17, .func (PySem.W.fnOf "_law_same" "_law_same" (defArgs s__law_same) (defBody s__law_same) (defScope s__law_same) .none kV17 dc17 pm17 an17 cd17 ct17), sl17⟩) (c17 : PySem.W.codeIn K cd17 "_law_same" = true) (k17 : PySem.W.keepIn K (.ref f17) = true)
    (a18 : PySem.W.nsIn K mainGlobals "_law_form" = some (some (.ref f18))) (l18 : K.lookup f18 = some ⟨oc18, od18, .func (PySem.W.fnOf "_law_form" "_law_form" (defArgs s__law_form) (defBody s__law_form) (defScope s__law_form) .none kV18 dc18 pm18 an18 cd18 ct18), sl18⟩) (c18 : PySem.W.codeIn K cd18 "_law_form" = true) (k18 : PySem.W.keepIn K (.ref f18) = true)
    (a19 : PySem.W.nsIn K mainGlobals "_law_add" = some (some (.ref f19))) (l19 : K.lookup f19 = some ⟨oc19, od19, .func (PySem.W.fnOf "_law_add" "_law_add" (defArgs s__law_add) (defBody s__law_add) (defScope s__law_add) .none kV19 dc19 pm19 an19 cd19 ct19), sl19⟩) (c19 : PySem.W.codeIn K cd19 "_law_add" = true) (k19 : PySem.W.keepIn K (.ref f19) = true)
    (a20 : PySem.W.nsIn K mainGlobals "_law_turned" = some (some (.ref f20))) (l20 : K.lookup f20 = some ⟨oc20, od20, .func (PySem.W.fnOf "_law_turned" "_law_turned" (defArgs s__law_turned) (defBody s__law_turned) (defScope s__law_turned) .none kV20 dc20 pm20 an20 cd20 ct20), sl20⟩) (c20 : PySem.W.codeIn K cd20 "_law_turned" = true) (k20 : PySem.W.keepIn K (.ref f20) = true)
    (a21 : PySem.W.nsIn K mainGlobals "_law_arity" = some (some (.ref f21))) (l21 : K.lookup f21 = some ⟨oc21, od21, .func (PySem.W.fnOf "_law_arity" "_law_arity" (defArgs s__law_arity) (defBody s__law_arity) (defScope s__law_arity) .none kV21 dc21 pm21 an21 cd21 ct21), sl21⟩) (c21 : PySem.W.codeIn K cd21 "_law_arity" = true) (k21 : PySem.W.keepIn K (.ref f21) = true)
    (a22 : PySem.W.nsIn K mainGlobals "_law_mask" = some (some (.ref f22))) (l22 : K.lookup f22 = some ⟨oc22, od22, .func (PySem.W.fnOf "_law_mask" "_law_mask" (defArgs s__law_mask) (defBody s__law_mask) (defScope s__law_mask) .none kV22 dc22 pm22 an22 cd22 ct22), sl22⟩) (c22 : PySem.W.codeIn K cd22 "_law_mask" = true) (k22 : PySem.W.keepIn K (.ref f22) = true)
    (a23 : PySem.W.nsIn K mainGlobals "_law_way" = some (some (.ref f23))) (l23 : K.lookup f23 = some ⟨oc23, od23, .func (PySem.W.fnOf "_law_way" "_law_way" (defArgs s__law_way) (defBody s__law_way) (defScope s__law_way) .none kV23 dc23 pm23 an23 cd23 ct23), sl23⟩) (c23 : PySem.W.codeIn K cd23 "_law_way" = true) (k23 : PySem.W.keepIn K (.ref f23) = true)
    (a24 : PySem.W.nsIn K mainGlobals "_law_is_circuit" = some (some (.ref f24))) (l24 : K.lookup f24 = some ⟨oc24, od24, .func (PySem.W.fnOf "_law_is_circuit" "_law_is_circuit" (defArgs s__law_is_circuit) (defBody s__law_is_circuit) (defScope s__law_is_circuit) .none kV24 dc24 pm24 an24 cd24 ct24), sl24⟩) (c24 : PySem.W.codeIn K cd24 "_law_is_circuit" = true) (k24 : PySem.W.keepIn K (.ref f24) = true)
    (a25 : PySem.W.nsIn K mainGlobals "_law_gain" = some (some (.ref f25))) (l25 : K.lookup f25 = some ⟨oc25, od25, .func (PySem.W.fnOf "_law_gain" "_law_gain" (defArgs s__law_gain) (defBody s__law_gain) (defScope s__law_gain) .none kV25 dc25 pm25 an25 cd25 ct25), sl25⟩) (c25 : PySem.W.codeIn K cd25 "_law_gain" = true) (k25 : PySem.W.keepIn K (.ref f25) = true)
    (a26 : PySem.W.nsIn K mainGlobals "_law_after" = some (some (.ref f26))) (l26 : K.lookup f26 = some ⟨oc26, od26, .func (PySem.W.fnOf "_law_after" "_law_after" (defArgs s__law_after) (defBody s__law_after) (defScope s__law_after) .none kV26 dc26 pm26 an26 cd26 ct26), sl26⟩) (c26 : PySem.W.codeIn K cd26 "_law_after" = true) (k26 : PySem.W.keepIn K (.ref f26) = true)
    (a27 : PySem.W.nsIn K mainGlobals "_law_ends" = some (some (.ref f27))) (l27 : K.lookup f27 = some ⟨oc27, od27, .func (PySem.W.fnOf "_law_ends" "_law_ends" (defArgs s__law_ends) (defBody s__law_ends) (defScope s__law_ends) .none kV27 dc27 pm27 an27 cd27 ct27), sl27⟩) (c27 : PySem.W.codeIn K cd27 "_law_ends" = true) (k27 : PySem.W.keepIn K (.ref f27) = true)
    (a28 : PySem.W.nsIn K mainGlobals "_law_extra" = some (some (.ref f28))) (l28 : K.lookup f28 = some ⟨oc28, od28, .func (PySem.W.fnOf "_law_extra" "_law_extra" (defArgs s__law_extra) (defBody s__law_extra) (defScope s__law_extra) .none kV28 dc28 pm28 an28 cd28 ct28), sl28⟩) (c28 : PySem.W.codeIn K cd28 "_law_extra" = true) (k28 : PySem.W.keepIn K (.ref f28) = true)
    (a29 : PySem.W.nsIn K mainGlobals "_law_makes" = some (some (.ref f29))) (l29 : K.lookup f29 = some ⟨oc29, od29, .func (PySem.W.fnOf "_law_makes" "_law_makes" (defArgs s__law_makes) (defBody s__law_makes) (defScope s__law_makes) .none kV29 dc29 pm29 an29 cd29 ct29), sl29⟩) (c29 : PySem.W.codeIn K cd29 "_law_makes" = true) (k29 : PySem.W.keepIn K (.ref f29) = true)
    (a30 : PySem.W.nsIn K mainGlobals "law" = some (some (.ref f30))) (l30 : K.lookup f30 = some ⟨oc30, od30, .func (PySem.W.fnOf "law" "law" (defArgs s_law) (defBody s_law) (defScope s_law) .none kV30 dc30 pm30 an30 cd30 ct30), sl30⟩) (c30 : PySem.W.codeIn K cd30 "law" = true) (k30 : PySem.W.keepIn K (.ref f30) = true)
    (z0 : PySem.W.nsIn K mainGlobals "isinstance" = some none)
    (z1 : PySem.W.nsIn K mainGlobals "int" = some none)
    (z2 : PySem.W.nsIn K mainGlobals "bool" = some none)
    (z3 : PySem.W.nsIn K mainGlobals "str" = some none)
    (z4 : PySem.W.nsIn K mainGlobals "tuple" = some none)
    (z5 : PySem.W.nsIn K mainGlobals "list" = some none)
    (z6 : PySem.W.nsIn K mainGlobals "len" = some none)
    (z7 : PySem.W.nsIn K mainGlobals "range" = some none)
    (z8 : PySem.W.nsIn K mainGlobals "abs" = some none)
    (z9 : PySem.W.nsIn K mainGlobals "sum" = some none)
    (z10 : PySem.W.nsIn K mainGlobals "min" = some none)
    (z11 : PySem.W.nsIn K mainGlobals "reversed" = some none)
    (ga0 : PySem.W.nsIn K mainGlobals "_PHASE_WORDS" = some (some (.ref g0))) (gl0 : K.lookup g0 = some ⟨.type "tuple", ug0, .seq #[.ref h0_0, .ref h0_1, .ref h0_2, .ref h0_3, .ref h0_4, .ref h0_5, .ref h0_6, .ref h0_7] ng0, sg0⟩)
    (hl0_0 : K.lookup h0_0 = some ⟨.type "tuple", uh0_0, .seq #[] nh0_0, sh0_0⟩)
    (hl0_1 : K.lookup h0_1 = some ⟨.type "tuple", uh0_1, .seq #[.str "t" t0_1_0] nh0_1, sh0_1⟩)
    (hl0_2 : K.lookup h0_2 = some ⟨.type "tuple", uh0_2, .seq #[.str "s" t0_2_0] nh0_2, sh0_2⟩)
    (hl0_3 : K.lookup h0_3 = some ⟨.type "tuple", uh0_3, .seq #[.str "s" t0_3_0, .str "t" t0_3_1] nh0_3, sh0_3⟩)
    (hl0_4 : K.lookup h0_4 = some ⟨.type "tuple", uh0_4, .seq #[.str "z" t0_4_0] nh0_4, sh0_4⟩)
    (hl0_5 : K.lookup h0_5 = some ⟨.type "tuple", uh0_5, .seq #[.str "z" t0_5_0, .str "t" t0_5_1] nh0_5, sh0_5⟩)
    (hl0_6 : K.lookup h0_6 = some ⟨.type "tuple", uh0_6, .seq #[.str "sd" t0_6_0] nh0_6, sh0_6⟩)
    (hl0_7 : K.lookup h0_7 = some ⟨.type "tuple", uh0_7, .seq #[.str "td" t0_7_0] nh0_7, sh0_7⟩)
    (da0 : PySem.W.nsIn K mainGlobals "_INVERSES" = some (some (.ref q0))) (dl0 : K.lookup q0 = some ⟨.type "dict", none, .dict ([⟨PyData.keyHash w.params "w", .str "w" x0_0, .str "wd" y0_0⟩, ⟨PyData.keyHash w.params "wd", .str "wd" x0_1, .str "w" y0_1⟩, ⟨PyData.keyHash w.params "s", .str "s" x0_2, .str "sd" y0_2⟩, ⟨PyData.keyHash w.params "sd", .str "sd" x0_3, .str "s" y0_3⟩, ⟨PyData.keyHash w.params "t", .str "t" x0_4, .str "td" y0_4⟩, ⟨PyData.keyHash w.params "td", .str "td" x0_5, .str "t" y0_5⟩] : List DictEntry).toArray nq0, #[]⟩) (dz0 : (q0 == sysModules) = false)
    : ∃ fd : FuncData, (∀ (s : Shared) (v : Value), BindsTo s fd ⟨[v], []⟩ [("script", v)]) ∧ ∀ base : Heap, K.In base → base.Ns mainGlobals mg → FnOk l.prog w K mg base CX0 7 fa fd ["script"] (spLaw K) := by
  have e := hfa.symm.trans (PySem.W.mg_of X G a30)
  cases e
  have F_inverse_gate := fun_mk (st := s_inverse_gate) l0 c0 k0
  have b_inverse_gate := F_inverse_gate.binds (ps := ["name"]) fun _ _ _ _ _ _ us hl => match us, hl with | [_], _ => rfl
  have n_inverse_gate := PySem.W.mg_of X G a0
  have F_inverse_circuit := fun_mk (st := s_inverse_circuit) l1 c1 k1
  have b_inverse_circuit := F_inverse_circuit.binds (ps := ["circuit"]) fun _ _ _ _ _ _ us hl => match us, hl with | [_], _ => rfl
  have n_inverse_circuit := PySem.W.mg_of X G a1
  have F_phase_gates := fun_mk (st := s_phase_gates) l2 c2 k2
  have b_phase_gates := F_phase_gates.binds (ps := ["power", "place"]) fun _ _ _ _ _ _ us hl => match us, hl with | [_, _], _ => rfl
  have n_phase_gates := PySem.W.mg_of X G a2
  have F_omega_gates := fun_mk (st := s_omega_gates) l3 c3 k3
  have b_omega_gates := F_omega_gates.binds (ps := ["power"]) fun _ _ _ _ _ _ us hl => match us, hl with | [_], _ => rfl
  have n_omega_gates := PySem.W.mg_of X G a3
  have F_narrow_ccz := fun_mk (st := s_narrow_ccz) l4 c4 k4
  have b_narrow_ccz := F_narrow_ccz.binds (ps := ["a", "b", "c"]) fun _ _ _ _ _ _ us hl => match us, hl with | [_, _, _], _ => rfl
  have n_narrow_ccz := PySem.W.mg_of X G a4
  have F_narrow_ccx := fun_mk (st := s_narrow_ccx) l5 c5 k5
  have b_narrow_ccx := F_narrow_ccx.binds (ps := ["a", "b", "c"]) fun _ _ _ _ _ _ us hl => match us, hl with | [_, _, _], _ => rfl
  have n_narrow_ccx := PySem.W.mg_of X G a5
  have F__index_bits := fun_mk (st := s__index_bits) l6 c6 k6
  have b__index_bits := F__index_bits.binds (ps := ["index", "n"]) fun _ _ _ _ _ _ us hl => match us, hl with | [_, _], _ => rfl
  have n__index_bits := PySem.W.mg_of X G a6
  have F_brought_together := fun_mk (st := s_brought_together) l7 c7 k7
  have b_brought_together := F_brought_together.binds (ps := ["low", "high", "n"]) fun _ _ _ _ _ _ us hl => match us, hl with | [_, _, _], _ => rfl
  have n_brought_together := PySem.W.mg_of X G a7
  have F_ends_circuit := fun_mk (st := s_ends_circuit) l8 c8 k8
  have b_ends_circuit := F_ends_circuit.binds (ps := ["ends"]) fun _ _ _ _ _ _ us hl => match us, hl with | [_], _ => rfl
  have n_ends_circuit := PySem.W.mg_of X G a8
  have F__two_qubit_ends := fun_mk (st := s__two_qubit_ends) l9 c9 k9
  have b__two_qubit_ends := F__two_qubit_ends.binds (ps := ["ends"]) fun _ _ _ _ _ _ us hl => match us, hl with | [_], _ => rfl
  have n__two_qubit_ends := PySem.W.mg_of X G a9
  have F__three_qubit_ends := fun_mk (st := s__three_qubit_ends) l10 c10 k10
  have b__three_qubit_ends := F__three_qubit_ends.binds (ps := ["ends"]) fun _ _ _ _ _ _ us hl => match us, hl with | [_], _ => rfl
  have n__three_qubit_ends := PySem.W.mg_of X G a10
  have F__opposite_phases := fun_mk (st := s__opposite_phases) l11 c11 k11
  have b__opposite_phases := F__opposite_phases.binds (ps := ["index", "power"]) fun _ _ _ _ _ _ us hl => match us, hl with | [_, _], _ => rfl
  have n__opposite_phases := PySem.W.mg_of X G a11
  have F__paired_signs := fun_mk (st := s__paired_signs) l12 c12 k12
  have b__paired_signs := F__paired_signs.binds (ps := ["extra"]) fun _ _ _ _ _ _ us hl => match us, hl with | [_], _ => rfl
  have n__paired_signs := PySem.W.mg_of X G a12
  have F__mark_both := fun_mk (st := s__mark_both) l13 c13 k13
  have b__mark_both := F__mark_both.binds (ps := ["extra"]) fun _ _ _ _ _ _ us hl => match us, hl with | [_], _ => rfl
  have n__mark_both := PySem.W.mg_of X G a13
  have F__mark_all := fun_mk (st := s__mark_all) l14 c14 k14
  have b__mark_all := F__mark_all.binds (ps := ["extra"]) fun _ _ _ _ _ _ us hl => match us, hl with | [_], _ => rfl
  have n__mark_all := PySem.W.mg_of X G a14
  have F__law_source := fun_mk (st := s__law_source) l15 c15 k15
  have b__law_source := F__law_source.binds (ps := ["script"]) fun _ _ _ _ _ _ us hl => match us, hl with | [_], _ => rfl
  have n__law_source := PySem.W.mg_of X G a15
  have F__law_draw := fun_mk (st := s__law_draw) l16 c16 k16
  have b__law_draw := F__law_draw.binds (ps := ["source", "many"]) fun _ _ _ _ _ _ us hl => match us, hl with | [_, _], _ => rfl
  have n__law_draw := PySem.W.mg_of X G a16
  have F__law_same := fun_mk (st := s__law_same) l17 c17 k17
  have b__law_same := F__law_same.binds (ps := ["told", "due"]) fun _ _ _ _ _ _ us hl => match us, hl with | [_, _], _ => rfl
  have n__law_same := PySem.W.mg_of X G a17
  have F__law_form := fun_mk (st := s__law_form) l18 c18 k18
  have b__law_form := F__law_form.binds (ps := ["a", "b", "c", "d", "k"]) fun _ _ _ _ _ _ us hl => match us, hl with | [_, _, _, _, _], _ => rfl
  have n__law_form := PySem.W.mg_of X G a18
  have F__law_add := fun_mk (st := s__law_add) l19 c19 k19
  have b__law_add := F__law_add.binds (ps := ["x", "y"]) fun _ _ _ _ _ _ us hl => match us, hl with | [_, _], _ => rfl
  have n__law_add := PySem.W.mg_of X G a19
  have F__law_turned := fun_mk (st := s__law_turned) l20 c20 k20
  have b__law_turned := F__law_turned.binds (ps := ["x", "j"]) fun _ _ _ _ _ _ us hl => match us, hl with | [_, _], _ => rfl
  have n__law_turned := PySem.W.mg_of X G a20
  have F__law_arity := fun_mk (st := s__law_arity) l21 c21 k21
  have b__law_arity := F__law_arity.binds (ps := ["name"]) fun _ _ _ _ _ _ us hl => match us, hl with | [_], _ => rfl
  have n__law_arity := PySem.W.mg_of X G a21
  have F__law_mask := fun_mk (st := s__law_mask) l22 c22 k22
  have b__law_mask := F__law_mask.binds (ps := ["n", "place"]) fun _ _ _ _ _ _ us hl => match us, hl with | [_, _], _ => rfl
  have n__law_mask := PySem.W.mg_of X G a22
  have F__law_way := fun_mk (st := s__law_way) l23 c23 k23
  have b__law_way := F__law_way.binds (ps := ["name", "masks", "i"]) fun _ _ _ _ _ _ us hl => match us, hl with | [_, _, _], _ => rfl
  have n__law_way := PySem.W.mg_of X G a23
  have F__law_is_circuit := fun_mk (st := s__law_is_circuit) l24 c24 k24
  have b__law_is_circuit := F__law_is_circuit.binds (ps := ["circuit", "n", "most", "known"]) fun _ _ _ _ _ _ us hl => match us, hl with | [_, _, _, _], _ => rfl
  have n__law_is_circuit := PySem.W.mg_of X G a24
  have F__law_gain := fun_mk (st := s__law_gain) l25 c25 k25
  have b__law_gain := F__law_gain.binds (ps := ["state", "index", "x"]) fun _ _ _ _ _ _ us hl => match us, hl with | [_, _, _], _ => rfl
  have n__law_gain := PySem.W.mg_of X G a25
  have F__law_after := fun_mk (st := s__law_after) l26 c26 k26
  have b__law_after := F__law_after.binds (ps := ["state", "name", "masks"]) fun _ _ _ _ _ _ us hl => match us, hl with | [_, _, _], _ => rfl
  have n__law_after := PySem.W.mg_of X G a26
  have F__law_ends := fun_mk (st := s__law_ends) l27 c27 k27
  have b__law_ends := F__law_ends.binds (ps := ["source", "size"]) fun _ _ _ _ _ _ us hl => match us, hl with | [_, _], _ => rfl
  have n__law_ends := PySem.W.mg_of X G a27
  have F__law_extra := fun_mk (st := s__law_extra) l28 c28 k28
  have b__law_extra := F__law_extra.binds (ps := ["ends"]) fun _ _ _ _ _ _ us hl => match us, hl with | [_], _ => rfl
  have n__law_extra := PySem.W.mg_of X G a28
  have F__law_makes := fun_mk (st := s__law_makes) l29 c29 k29
  have b__law_makes := F__law_makes.binds (ps := ["ends", "n"]) fun _ _ _ _ _ _ us hl => match us, hl with | [_, _], _ => rfl
  have n__law_makes := PySem.W.mg_of X G a29
  have F_law := fun_mk (st := s_law) l30 c30 k30
  have b_law := F_law.binds (ps := ["script"]) fun _ _ _ _ _ _ us hl => match us, hl with | [_], _ => rfl
  have n_law := PySem.W.mg_of X G a30
  have m_isinstance := PySem.W.mg_none_of X G z0
  have m_int := PySem.W.mg_none_of X G z1
  have m_bool := PySem.W.mg_none_of X G z2
  have m_str := PySem.W.mg_none_of X G z3
  have m_tuple := PySem.W.mg_none_of X G z4
  have m_list := PySem.W.mg_none_of X G z5
  have m_len := PySem.W.mg_none_of X G z6
  have m_range := PySem.W.mg_none_of X G z7
  have m_abs := PySem.W.mg_none_of X G z8
  have m_sum := PySem.W.mg_none_of X G z9
  have m_min := PySem.W.mg_none_of X G z10
  have m_reversed := PySem.W.mg_none_of X G z11
  have G__PHASE_WORDS : Glob K mg "_PHASE_WORDS" (.tuple [.tuple [], .tuple [.str "t"], .tuple [.str "s"], .tuple [.str "s", .str "t"], .tuple [.str "z"], .tuple [.str "z", .str "t"], .tuple [.str "sd"], .tuple [.str "td"]]) := ⟨_, .ref g0, PySem.W.mg_of X G ga0, rfl, fun f => .tup (xs := [.ref h0_0, .ref h0_1, .ref h0_2, .ref h0_3, .ref h0_4, .ref h0_5, .ref h0_6, .ref h0_7]) (.inr ⟨_, _, _, gl0, rfl, rfl, (by show 8 ≤ sizeLine; decide), .cons rfl (.cons rfl (.cons rfl (.cons rfl (.cons rfl (.cons rfl (.cons rfl (.cons rfl (.nil))))))))⟩) (.cons (.tup (xs := []) (.inr ⟨_, _, _, hl0_0, rfl, rfl, (by show 0 ≤ sizeLine; decide), .nil⟩) (.nil)) (.cons (.tup (xs := [.str "t"]) (.inr ⟨_, _, _, hl0_1, rfl, rfl, (by show 1 ≤ sizeLine; decide), .cons ⟨_, rfl⟩ (.nil)⟩) (.cons (.str _) (.nil))) (.cons (.tup (xs := [.str "s"]) (.inr ⟨_, _, _, hl0_2, rfl, rfl, (by show 1 ≤ sizeLine; decide), .cons ⟨_, rfl⟩ (.nil)⟩) (.cons (.str _) (.nil))) (.cons (.tup (xs := [.str "s", .str "t"]) (.inr ⟨_, _, _, hl0_3, rfl, rfl, (by show 2 ≤ sizeLine; decide), .cons ⟨_, rfl⟩ (.cons ⟨_, rfl⟩ (.nil))⟩) (.cons (.str _) (.cons (.str _) (.nil)))) (.cons (.tup (xs := [.str "z"]) (.inr ⟨_, _, _, hl0_4, rfl, rfl, (by show 1 ≤ sizeLine; decide), .cons ⟨_, rfl⟩ (.nil)⟩) (.cons (.str _) (.nil))) (.cons (.tup (xs := [.str "z", .str "t"]) (.inr ⟨_, _, _, hl0_5, rfl, rfl, (by show 2 ≤ sizeLine; decide), .cons ⟨_, rfl⟩ (.cons ⟨_, rfl⟩ (.nil))⟩) (.cons (.str _) (.cons (.str _) (.nil)))) (.cons (.tup (xs := [.str "sd"]) (.inr ⟨_, _, _, hl0_6, rfl, rfl, (by show 1 ≤ sizeLine; decide), .cons ⟨_, rfl⟩ (.nil)⟩) (.cons (.str _) (.nil))) (.cons (.tup (xs := [.str "td"]) (.inr ⟨_, _, _, hl0_7, rfl, rfl, (by show 1 ≤ sizeLine; decide), .cons ⟨_, rfl⟩ (.nil)⟩) (.cons (.str _) (.nil))) (.nil)))))))))⟩
  have D__INVERSES : GlobM l.prog w K mg "_INVERSES" [("w", "wd"), ("wd", "w"), ("s", "sd"), ("sd", "s"), ("t", "td"), ("td", "t")] := GlobM.mk' (PySem.W.mg_of X G da0) dl0 (.cons (.cons (.cons (.cons (.cons (.cons .nil)))))) (by decide) dz0
  refine ⟨PySem.W.fnOf "law" "law" (defArgs s_law) (defBody s_law) (defScope s_law) .none kV30 dc30 pm30 an30 cd30 ct30, fun s v => .of_eq rfl, fun base _ _ => ?_⟩
  have M : Blt mg := ⟨m_isinstance, m_int, m_bool, m_str, m_tuple, m_list, m_len, m_range⟩
  have C_inverse_gate : Cal l.prog w K mg base 1 "inverse_gate" 1 R_inverse_gate := ⟨⟨_, _, _, ok_inverse_gate F_inverse_gate D__INVERSES, n_inverse_gate, F_inverse_gate.kp, b_inverse_gate⟩⟩
  have C_inverse_circuit : Cal l.prog w K mg base 2 "inverse_circuit" 1 R_inverse_circuit := ⟨⟨_, _, _, ok_inverse_circuit F_inverse_circuit M m_reversed C_inverse_gate, n_inverse_circuit, F_inverse_circuit.kp, b_inverse_circuit⟩⟩
  have C_phase_gates : Cal l.prog w K mg base 1 "phase_gates" 2 R_phase_gates := ⟨⟨_, _, _, ok_phase_gates F_phase_gates M G__PHASE_WORDS, n_phase_gates, F_phase_gates.kp, b_phase_gates⟩⟩
  have C_omega_gates : Cal l.prog w K mg base 1 "omega_gates" 1 R_omega_gates := ⟨⟨_, _, _, ok_omega_gates F_omega_gates , n_omega_gates, F_omega_gates.kp, b_omega_gates⟩⟩
  have C_narrow_ccz : Cal l.prog w K mg base 1 "narrow_ccz" 3 R_narrow_ccz := ⟨⟨_, _, _, ok_narrow_ccz F_narrow_ccz , n_narrow_ccz, F_narrow_ccz.kp, b_narrow_ccz⟩⟩
  have C_narrow_ccx : Cal l.prog w K mg base 2 "narrow_ccx" 3 R_narrow_ccx := ⟨⟨_, _, _, ok_narrow_ccx F_narrow_ccx C_narrow_ccz, n_narrow_ccx, F_narrow_ccx.kp, b_narrow_ccx⟩⟩
  have C__index_bits : Cal l.prog w K mg base 1 "_index_bits" 2 R__index_bits := ⟨⟨_, _, _, ok__index_bits F__index_bits M, n__index_bits, F__index_bits.kp, b__index_bits⟩⟩
  have C_brought_together : Cal l.prog w K mg base 2 "brought_together" 3 R_brought_together := ⟨⟨_, _, _, ok_brought_together F_brought_together M C__index_bits, n_brought_together, F_brought_together.kp, b_brought_together⟩⟩
  have C__opposite_phases : Cal l.prog w K mg base 3 "_opposite_phases" 2 R__opposite_phases := ⟨⟨_, _, _, ok__opposite_phases F__opposite_phases M C_brought_together C_narrow_ccx C_phase_gates C_inverse_circuit, n__opposite_phases, F__opposite_phases.kp, b__opposite_phases⟩⟩
  have C__paired_signs : Cal l.prog w K mg base 1 "_paired_signs" 1 (R_extra pairG) := ⟨⟨_, _, _, ok__paired_signs F__paired_signs , n__paired_signs, F__paired_signs.kp, b__paired_signs⟩⟩
  have C__mark_both : Cal l.prog w K mg base 2 "_mark_both" 1 (R_extra markB) := ⟨⟨_, _, _, ok__mark_both F__mark_both C__paired_signs, n__mark_both, F__mark_both.kp, b__mark_both⟩⟩
  have C__mark_all : Cal l.prog w K mg base 2 "_mark_all" 1 (R_extra markA) := ⟨⟨_, _, _, ok__mark_all F__mark_all C__paired_signs, n__mark_all, F__mark_all.kp, b__mark_all⟩⟩
  have C__two_qubit_ends : Cal l.prog w K mg base 3 "_two_qubit_ends" 1 (R_ends 4) := ⟨⟨_, _, _, ok__two_qubit_ends F__two_qubit_ends M C_omega_gates C_phase_gates C_inverse_circuit C__mark_both, n__two_qubit_ends, F__two_qubit_ends.kp, b__two_qubit_ends⟩⟩
  have C__three_qubit_ends : Cal l.prog w K mg base 4 "_three_qubit_ends" 1 (R_ends 8) := ⟨⟨_, _, _, ok__three_qubit_ends F__three_qubit_ends M m_sum C__opposite_phases C_narrow_ccz C_phase_gates C_inverse_circuit C__mark_all, n__three_qubit_ends, F__three_qubit_ends.kp, b__three_qubit_ends⟩⟩
  have C_ends_circuit : Cal l.prog w K mg base 5 "ends_circuit" 1 R_ends_circuit := ⟨⟨_, _, _, ok_ends_circuit F_ends_circuit M C_omega_gates C_phase_gates C__two_qubit_ends C__three_qubit_ends, n_ends_circuit, F_ends_circuit.kp, b_ends_circuit⟩⟩
  have C__law_source : CalN l.prog w K mg base 1 "_law_source" 1 R__law_source := ⟨⟨_, _, _, ok__law_source F__law_source m_int m_len m_abs, n__law_source, F__law_source.kp, b__law_source⟩⟩
  have C__law_draw : Cal l.prog w K mg base 1 "_law_draw" 2 R__law_draw := ⟨⟨_, _, _, ok__law_draw F__law_draw m_int, n__law_draw, F__law_draw.kp, b__law_draw⟩⟩
  have C_same0 : Cal l.prog w K mg base 1 "_law_same" 2 (R__law_same 0) := ⟨⟨_, _, _, ok__law_same F__law_same M 0 (fun m e => by cases e), n__law_same, F__law_same.kp, b__law_same⟩⟩
  have C_same1 : Cal l.prog w K mg base 2 "_law_same" 2 (R__law_same 1) := ⟨⟨_, _, _, ok__law_same F__law_same M 1 (fun m e => by cases e; exact C_same0), n__law_same, F__law_same.kp, b__law_same⟩⟩
  have C_same2 : Cal l.prog w K mg base 3 "_law_same" 2 (R__law_same 2) := ⟨⟨_, _, _, ok__law_same F__law_same M 2 (fun m e => by cases e; exact C_same1), n__law_same, F__law_same.kp, b__law_same⟩⟩
  have C_same3 : Cal l.prog w K mg base 4 "_law_same" 2 (R__law_same 3) := ⟨⟨_, _, _, ok__law_same F__law_same M 3 (fun m e => by cases e; exact C_same2), n__law_same, F__law_same.kp, b__law_same⟩⟩
  have C_same4 : Cal l.prog w K mg base 5 "_law_same" 2 (R__law_same 4) := ⟨⟨_, _, _, ok__law_same F__law_same M 4 (fun m e => by cases e; exact C_same3), n__law_same, F__law_same.kp, b__law_same⟩⟩
  have C__law_form : Cal l.prog w K mg base 1 "_law_form" 5 R__law_form := ⟨⟨_, _, _, ok__law_form F__law_form M, n__law_form, F__law_form.kp, b__law_form⟩⟩
  have C__law_add : Cal l.prog w K mg base 1 "_law_add" 2 R__law_add := ⟨⟨_, _, _, ok__law_add F__law_add , n__law_add, F__law_add.kp, b__law_add⟩⟩
  have C__law_turned : Cal l.prog w K mg base 1 "_law_turned" 2 R__law_turned := ⟨⟨_, _, _, ok__law_turned F__law_turned M, n__law_turned, F__law_turned.kp, b__law_turned⟩⟩
  have C__law_arity : Cal l.prog w K mg base 1 "_law_arity" 1 R__law_arity := ⟨⟨_, _, _, ok__law_arity F__law_arity , n__law_arity, F__law_arity.kp, b__law_arity⟩⟩
  have C__law_mask : Cal l.prog w K mg base 1 "_law_mask" 2 R__law_mask := ⟨⟨_, _, _, ok__law_mask F__law_mask M, n__law_mask, F__law_mask.kp, b__law_mask⟩⟩
  have C__law_way : Cal l.prog w K mg base 1 "_law_way" 3 R__law_way := ⟨⟨_, _, _, ok__law_way F__law_way M m_min, n__law_way, F__law_way.kp, b__law_way⟩⟩
  have C__law_is_circuit : Cal l.prog w K mg base 2 "_law_is_circuit" 4 R__law_is_circuit := ⟨⟨_, _, _, ok__law_is_circuit F__law_is_circuit M C__law_arity, n__law_is_circuit, F__law_is_circuit.kp, b__law_is_circuit⟩⟩
  have C__law_gain : Cal l.prog w K mg base 2 "_law_gain" 3 R__law_gain := ⟨⟨_, _, _, ok__law_gain F__law_gain C__law_add, n__law_gain, F__law_gain.kp, b__law_gain⟩⟩
  have C__law_after : CalM l.prog w K mg base 3 "_law_after" 3 R__law_after := ⟨⟨_, _, _, ok__law_after F__law_after M C__law_gain C__law_way C__law_turned, n__law_after, F__law_after.kp, b__law_after⟩⟩
  have C__law_ends : Cal l.prog w K mg base 2 "_law_ends" 2 R__law_ends := ⟨⟨_, _, _, ok__law_ends F__law_ends M m_sum C__law_draw, n__law_ends, F__law_ends.kp, b__law_ends⟩⟩
  have C__law_extra : Cal l.prog w K mg base 1 "_law_extra" 1 R__law_extra := ⟨⟨_, _, _, ok__law_extra F__law_extra M m_sum, n__law_extra, F__law_extra.kp, b__law_extra⟩⟩
  have C__law_makes : Cal l.prog w K mg base 6 "_law_makes" 2 R__law_makes := ⟨⟨_, _, _, ok__law_makes F__law_makes M C_ends_circuit C__law_extra C_same0 C__law_is_circuit C__law_mask C__law_after C__law_turned C__law_form, n__law_makes, F__law_makes.kp, b__law_makes⟩⟩
  have FL := ok_law (P := l.prog) (wd := w) (base := base) F_law M C__law_source C__law_draw C__law_mask C__law_ends C__law_makes C_ends_circuit C_same4
  exact sp_law FL
theorem walk {l : PySem.W.OpenLaw} {q : Program} {loose : List Str} {XP : (Str → Option Value) → Heap → Prop} {YP : World → Heap → Prop} {d : DefRec} {K : Params → PySem.W.Frag} (hn : l.most = some 63) (hdf : d.params.defaults = [])
    (hY : ∀ (w : World) (h : Heap), YP w h → (K w.params).In h)
    (F : ∀ (w : World) (mg : Str → Option Value) (fa : Addr) (h : Heap), (K w.params).In h → h.Ns mainGlobals mg → mg d.name = some (.ref fa) →
      ∃ fd : FuncData, (∀ (s : Shared) (u : Value), BindsTo s fd ⟨[u], []⟩ [("script", u)]) ∧ ∀ base : Heap, (K w.params).In base → base.Ns mainGlobals mg → FnOk l.prog w (K w.params) mg base CX0 7 fa fd ["script"] (spLaw (K w.params))) :
    PySem.W.WalkO q loose XP YP l.row.toRowW d [] (fun f vs => PySem.call f vs) :=
  L2.walk_of (n := 63) (k := 7) (x := "script") (CX := fun _ => CX0) (sp := fun w => spLaw (K w.params)) hn (by decide) hdf ⟨rfl, by decide, by decide⟩ hY F (fun _ _ a ns hl _ hS => ⟨a, ns, rfl, hS, hl, fun _ => rfl⟩) fun _ _ _ _ _ z => z
end Q
open PySem PySem.W PyProof.Rows
set_option maxRecDepth 100000 in
set_option maxHeartbeats 0 in
theorem PySem.Challenge.cw_phasemill_k55_ends_circuit_holds : PySem.Challenge.rw_phasemill_k55_ends_circuit.Holds := by
  w_on; o_law; k_head; (case hw => w_witness2)
  k_fill
  refine Q.walk (l := PySem.Challenge.rw_phasemill_k55_ends_circuit) rfl rfl (fun w h Y => PySem.W.kIn_of Y) ?F
  case F =>
    intro w mg fa h KX G hmg
    refine' Q.all_mk KX G hmg ?a0 ?l0 ?c0 ?k0 ?a1 ?l1 ?c1 ?k1 ?a2 ?l2 ?c2 ?k2 ?a3 ?l3 ?c3 ?k3 ?a4 ?l4 ?c4 ?k4 ?a5 ?l5 ?c5 ?k5 ?a6 ?l6 ?c6 ?k6 ?a7 ?l7 ?c7 ?k7 ?a8 ?l8 ?c8 ?k8 ?a9 ?l9 ?c9 ?k9 ?a10 ?l10 ?c10 ?k10 ?a11 ?l11 ?c11 ?k11 ?a12 ?l12 ?c12 ?k12 ?a13 ?l13 ?c13 ?k13 ?a14 ?l14 ?c14 ?k14 ?a15 ?l15 ?c15 ?k15 ?a16 ?l16 ?c16 ?k16 ?a17 ?l17 ?c17 ?k17 ?a18 ?l18 ?c18 ?k18 ?a19 ?l19 ?c19 ?k19 ?a20 ?l20 ?c20 ?k20 ?a21 ?l21 ?c21 ?k21 ?a22 ?l22 ?c22 ?k22 ?a23 ?l23 ?c23 ?k23 ?a24 ?l24 ?c24 ?k24 ?a25 ?l25 ?c25 ?k25 ?a26 ?l26 ?c26 ?k26 ?a27 ?l27 ?c27 ?k27 ?a28 ?l28 ?c28 ?k28 ?a29 ?l29 ?c29 ?k29 ?a30 ?l30 ?c30 ?k30 ?z0 ?z1 ?z2 ?z3 ?z4 ?z5 ?z6 ?z7 ?z8 ?z9 ?z10 ?z11 ?ga0 ?gl0 ?hl0_0 ?hl0_1 ?hl0_2 ?hl0_3 ?hl0_4 ?hl0_5 ?hl0_6 ?hl0_7 ?da0 ?dl0 ?dz0
    (case a0 => k_is)
    (case l0 => k_is)
    (case c0 => k_is)
    (case k0 => k_is)
    (case a1 => k_is)
    (case l1 => k_is)
    (case c1 => k_is)
    (case k1 => k_is)
    (case a2 => k_is)
    (case l2 => k_is)
    (case c2 => k_is)
    (case k2 => k_is)
    (case a3 => k_is)
    (case l3 => k_is)
    (case c3 => k_is)
    (case k3 => k_is)
    (case a4 => k_is)
    (case l4 => k_is)
    (case c4 => k_is)
    (case k4 => k_is)
    (case a5 => k_is)
    (case l5 => k_is)
    (case c5 => k_is)
    (case k5 => k_is)
    (case a6 => k_is)
    (case l6 => k_is)
    (case c6 => k_is)
    (case k6 => k_is)
    (case a7 => k_is)
    (case l7 => k_is)
    (case c7 => k_is)
    (case k7 => k_is)
    (case a8 => k_is)
    (case l8 => k_is)
    (case c8 => k_is)
    (case k8 => k_is)
    (case a9 => k_is)
    (case l9 => k_is)
    (case c9 => k_is)
    (case k9 => k_is)
    (case a10 => k_is)
    (case l10 => k_is)
    (case c10 => k_is)
    (case k10 => k_is)
    (case a11 => k_is)
    (case l11 => k_is)
    (case c11 => k_is)
    (case k11 => k_is)
    (case a12 => k_is)
    (case l12 => k_is)
    (case c12 => k_is)
    (case k12 => k_is)
    (case a13 => k_is)
    (case l13 => k_is)
    (case c13 => k_is)
    (case k13 => k_is)
    (case a14 => k_is)
    (case l14 => k_is)
    (case c14 => k_is)
    (case k14 => k_is)
    (case a15 => k_is)
    (case l15 => k_is)
    (case c15 => k_is)
    (case k15 => k_is)
    (case a16 => k_is)
    (case l16 => k_is)
    (case c16 => k_is)
    (case k16 => k_is)
    (case a17 => k_is)
    (case l17 => k_is)
    (case c17 => k_is)
    (case k17 => k_is)
    (case a18 => k_is)
    (case l18 => k_is)
    (case c18 => k_is)
    (case k18 => k_is)
    (case a19 => k_is)
    (case l19 => k_is)
    (case c19 => k_is)
    (case k19 => k_is)
    (case a20 => k_is)
    (case l20 => k_is)
    (case c20 => k_is)
    (case k20 => k_is)
    (case a21 => k_is)
    (case l21 => k_is)
    (case c21 => k_is)
    (case k21 => k_is)
    (case a22 => k_is)
    (case l22 => k_is)
    (case c22 => k_is)
    (case k22 => k_is)
    (case a23 => k_is)
    (case l23 => k_is)
    (case c23 => k_is)
    (case k23 => k_is)
    (case a24 => k_is)
    (case l24 => k_is)
    (case c24 => k_is)
    (case k24 => k_is)
    (case a25 => k_is)
    (case l25 => k_is)
    (case c25 => k_is)
    (case k25 => k_is)
    (case a26 => k_is)
    (case l26 => k_is)
    (case c26 => k_is)
    (case k26 => k_is)
    (case a27 => k_is)
    (case l27 => k_is)
    (case c27 => k_is)
    (case k27 => k_is)
    (case a28 => k_is)
    (case l28 => k_is)
    (case c28 => k_is)
    (case k28 => k_is)
    (case a29 => k_is)
    (case l29 => k_is)
    (case c29 => k_is)
    (case k29 => k_is)
    (case a30 => k_is)
    (case l30 => k_is)
    (case c30 => k_is)
    (case k30 => k_is)
    (case z0 => k_is)
    (case z1 => k_is)
    (case z2 => k_is)
    (case z3 => k_is)
    (case z4 => k_is)
    (case z5 => k_is)
    (case z6 => k_is)
    (case z7 => k_is)
    (case z8 => k_is)
    (case z9 => k_is)
    (case z10 => k_is)
    (case z11 => k_is)
    (case ga0 => k_is)
    (case gl0 => k_is)
    (case hl0_0 => k_is)
    (case hl0_1 => k_is)
    (case hl0_2 => k_is)
    (case hl0_3 => k_is)
    (case hl0_4 => k_is)
    (case hl0_5 => k_is)
    (case hl0_6 => k_is)
    (case hl0_7 => k_is)
    (case da0 => k_is)
    (case dl0 => k_is)
    (case dz0 => first | k_is | decide | rfl)

