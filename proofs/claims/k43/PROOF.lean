import PyProof.Rows.All
import Wide.All
import OpenK.AllK
import Wide.FinOn
import HandS.ForMost
import HandS.ForExc
import HandS.TupAny
import HandS.TupMul
import HandS.Wide
import HandS.Style
import HandS.IsInst
import HandS.Deep
import HandS.WideBits
import HandS.Strs
import HandS.Zip
import HandS.Flow
import KE.KExcInit
import HandS.ExcInit
import KE.KIsAll
import HandS.ExcValue
import HandS.ExcIs
import KE.KExcIs
import HandS.ExcField
import KE.KStateDown
import HandS.Head0
import HandS.Head1
import HandS.Head2
import HandS.HeadHook2
import HandS.HeadHook4
import HandS.HeadEnd
import HandS.EndBits
import PySem.Challenge.RW_crosslocks_k43_refusals_however_handed_i
set_option Elab.async false
set_option linter.all false
set_option maxRecDepth 100000
set_option maxHeartbeats 4000000
/-! Dn, part 1: worlds, trees and cells; what a piece of code denotes. -/
namespace Dn
open PySem PySem.Spec PyProof.Rows L2

abbrev D := PyData
abbrev Sg := L2.St

/-! ### trees stand where the tracked heap grows -/
theorem seqT_same {K : PySem.W.Frag} {H H' : Hp} {a : Addr} {xs : List V} (e : Same H H') (h : SqT K H a xs) : SqT K H' a xs := by
  rcases h with (h | ⟨o, h⟩) | h
  · exact .inl (.inl (e _ _ h))
  · exact .inl (.inr ⟨o, e _ _ h⟩)
  · exact .inr h
/-! a tree stands at a value: a list as a tracked one -/
mutual
inductive Tr (K : PySem.W.Frag) (H : Hp) : V → D → Prop
  | non : Tr K H .non .none
  | bl (b : Bool) : Tr K H (.bl b) (.bool b)
  | int (i : Int) : Tr K H (.int i) (.int i)
  | str (x : Str) : Tr K H (.str x) (.str x)
  | lst {a : Addr} {xs : List V} {ds : List D} : H a = some (.lst xs) → TrAll K H xs ds → Tr K H (.ref a) (.list ds)
  | tup {a : Addr} {xs : List V} {ds : List D} : SqT K H a xs → TrAll K H xs ds → Tr K H (.ref a) (.tuple ds)
inductive TrAll (K : PySem.W.Frag) (H : Hp) : List V → List D → Prop
  | nil : TrAll K H [] []
  | cons {v : V} {vs : List V} {d : D} {ds : List D} : Tr K H v d → TrAll K H vs ds → TrAll K H (v :: vs) (d :: ds)
end
mutual
theorem tr_same {K : PySem.W.Frag} {H H' : Hp} (e : Same H H') : ∀ {v : V} {d : D}, Tr K H v d → Tr K H' v d
  | _, _, .non => .non
  | _, _, .bl b => .bl b
  | _, _, .int i => .int i
  | _, _, .str x => .str x
  | _, _, .lst h k => .lst (e _ _ h) (trAll_same e k)
  | _, _, .tup h k => .tup (seqT_same e h) (trAll_same e k)
theorem trAll_same {K : PySem.W.Frag} {H H' : Hp} (e : Same H H') : ∀ {vs : List V} {ds : List D}, TrAll K H vs ds → TrAll K H' vs ds
  | _, _, .nil => .nil
  | _, _, .cons h k => .cons (tr_same e h) (trAll_same e k)
end
mutual
theorem Tr.dp {K : PySem.W.Frag} {H : Hp} : ∀ {v : V} {d : D}, Tr K H v d → Dp K H v d
  | _, _, .non => .non
  | _, _, .bl b => .bl b
  | _, _, .int i => .int i
  | _, _, .str x => .str x
  | _, _, .lst h k => .lst (SqL.of h) (TrAll.dp k)
  | _, _, .tup h k => .tup h (TrAll.dp k)
theorem TrAll.dp {K : PySem.W.Frag} {H : Hp} : ∀ {vs : List V} {ds : List D}, TrAll K H vs ds → DpAll K H vs ds
  | _, _, .nil => .nil
  | _, _, .cons h k => .cons (Tr.dp h) (TrAll.dp k)
end
theorem TrAll.length {K : PySem.W.Frag} {H : Hp} : ∀ {vs : List V} {ds : List D}, TrAll K H vs ds → vs.length = ds.length
  | _, _, .nil => rfl
  | _, _, .cons _ k => congrArg (· + 1) (TrAll.length k)
theorem TrAll.append {K : PySem.W.Frag} {H : Hp} : ∀ {vs ws : List V} {ds es : List D}, TrAll K H vs ds → TrAll K H ws es → TrAll K H (vs ++ ws) (ds ++ es)
  | _, _, _, _, .nil, s => s
  | _, _, _, _, .cons r t, s => .cons r (TrAll.append t s)

/-! ### values: trees, or cells -/
inductive Wv where
  | t (d : D)
  | c (k : Nat)
inductive Cell where
  | lst (ws : List Wv)
  | frz (d : D)
  | obj (C : Str) (fs : List (Str × Wv))
  | scr (ns : List Int)
  | exn (C : Str) (fs : List (Str × D))
/-- the script's items -/
def scrW (ns : List Int) : List Wv := ns.map fun i => .t (.int i)
def Cell.live : Cell → Bool
  | .frz _ => false
  | .scr _ => false
  | .exn _ _ => false
  | _ => true
abbrev Store := List Cell
inductive Out (α : Type) where
  | ok (a : α) (S : Store)
  | exc (C : Str) (fs : List (Str × D)) (S : Store)
  | stuck
def Out.bind {α β : Type} (o : Out α) (g : α → Store → Out β) : Out β := match o with
  | .ok a S => g a S
  | .exc C fs S => .exc C fs S
  | .stuck => .stuck
abbrev Dl := List (Option Wv)
abbrev FE := Dl → Store → Out Wv

/-- an exception that was caught, kept as a value: its class, its dict -/
def exk (a : Addr) (cls : Value) (d : Option Addr) : HO := .ext fun h => ∃ (oe : Obj) (vs : Array Value), h.get? a = some oe ∧ Zc cls d oe ∧ oe.data = .fields vs
/-! ### worlds -/
/-- what stands for ever, where the cells lie, how many there are -/
structure Wd where
  H0 : Hp
  φ : Nat → Addr
  n : Nat
structure Wd.le (w w' : Wd) : Prop where
  same : Same w.H0 w'.H0
  n : w.n ≤ w'.n
  φ : ∀ k, k < w.n → w'.φ k = w.φ k
theorem Wd.le.refl (w : Wd) : w.le w := ⟨Same.refl _, Nat.le_refl _, fun _ _ => rfl⟩
theorem Wd.le.trans {a b c : Wd} (x : a.le b) (y : b.le c) : a.le c :=
  ⟨x.same.trans y.same, Nat.le_trans x.n y.n, fun k h => (y.φ k (Nat.lt_of_lt_of_le h x.n)).trans (x.φ k h)⟩
section
variable (K : PySem.W.Frag) (cl : Str → Addr)
def WR (w : Wd) : V → Wv → Prop
  | v, .t d => Tr K w.H0 v d
  | v, .c k => k < w.n ∧ v = .ref (w.φ k)
abbrev WRs (w : Wd) : List V → List Wv → Prop := Paired (WR K w)
abbrev FRs (w : Wd) : List (Str × V) → List (Str × Wv) → Prop := Paired fun p q => p.1 = q.1 ∧ WR K w p.2 q.2
/-- a caught exception's dict: none, or its fields -/
def XdAt (H : Hp) (d : Option Addr) (fs : List (Str × D)) : Prop := match fs with
  | [] => d = none
  | _ :: _ => ∃ dx vs, d = some dx ∧ H dx = some (.xd vs) ∧ Paired (fun p q => p.1 = q.1 ∧ Tr K H p.2 q.2) vs fs
def ExnAt (H : Hp) (a : Addr) (C : Str) (fs : List (Str × D)) : Prop := ∃ d, H a = some (exk a (.ref (cl C)) d) ∧ XdAt K H d fs
def CellOk (w : Wd) (H : Hp) (a : Addr) : Cell → Prop
  | .lst ws => w.H0 a = none ∧ ∃ vs, H a = some (.lst vs) ∧ WRs K w vs ws
  | .frz d => Tr K w.H0 (.ref a) d
  | .scr ns => ∃ vs, SqL K w.H0 a vs ∧ WRs K w vs (scrW ns)
  | .exn C fs => ExnAt K cl w.H0 a C fs
  | .obj C fs => w.H0 a = none ∧ ∃ dx vs, H a = some (.ins (cl C) dx vs) ∧ FRs K w vs fs
structure Sat (w : Wd) (S : Store) (H : Hp) : Prop where
  same : Same w.H0 H
  n : w.n = S.length
  cell : ∀ k c, S[k]? = some c → CellOk K cl w H (w.φ k) c
  inj : ∀ i j c d, S[i]? = some c → S[j]? = some d → c.live = true → d.live = true → w.φ i = w.φ j → i = j
def OWR (w : Wd) : Option V → Option Wv → Prop
  | some v, some r => WR K w v r
  | _, none => True
  | none, some _ => False
abbrev Slots (w : Wd) : Sg → Dl → Prop := Paired (OWR K w)
def ExcAt (w : Wd) (d : Option Addr) (fs : List (Str × D)) (_ : Hp) : Prop := XdAt K w.H0 d fs
/-- what comes of an expression: a value, or an error -/
def OkE (w : Wd) (o : Out Wv) (Q : VK) (E : XK) : Prop := match o with
  | .ok r S => ∀ w' H v, w.le w' → Sat K cl w' S H → WR K w' v r → Q v H
  | .exc C fs S => ∀ w' H d, w.le w' → Sat K cl w' S H → ExcAt K w' d fs H → E (.ref (cl C)) d H
  | .stuck => False
/-- the same of any kind of outcome, R telling what the value is -/
def OkG {α : Type} (w : Wd) (o : Out α) (Q : Wd → α → Store → Hp → Prop) (E : XK) : Prop := match o with
  | .ok r S => ∀ w' H, w.le w' → Sat K cl w' S H → Q w' r S H
  | .exc C fs S => ∀ w' H d, w.le w' → Sat K cl w' S H → ExcAt K w' d fs H → E (.ref (cl C)) d H
  | .stuck => False
def tDen (W : WX) (f : FE) : TE := fun σ H Q => ∃ w S δ, Sat K cl w S H ∧ Slots K w σ δ ∧ OkE K cl w (f δ S) Q fun c d H' => W c d σ H'
end
section
variable {K : PySem.W.Frag} {cl : Str → Addr} {w w' : Wd} {S S' : Store} {H H' : Hp}
theorem xdAt_same {H H' : Hp} {d : Option Addr} {fs : List (Str × D)} (e : Same H H') (h : XdAt K H d fs) : XdAt K H' d fs := by
  cases fs with
  | nil => exact h
  | cons p r =>
    obtain ⟨dx, vs, a, b, c⟩ := h
    exact ⟨dx, vs, a, e _ _ b, Paired.mapP c fun _ _ z => ⟨z.1, tr_same e z.2⟩⟩
theorem exnAt_same {H H' : Hp} {a : Addr} {C : Str} {fs : List (Str × D)} (e : Same H H') (h : ExnAt K cl H a C fs) : ExnAt K cl H' a C fs :=
  let ⟨d, h1, h2⟩ := h; ⟨d, e _ _ h1, xdAt_same e h2⟩
theorem WR.le (h : w.le w') : ∀ {v : V} {r : Wv}, WR K w v r → WR K w' v r
  | _, .t _, x => tr_same h.same x
  | _, .c k, x => ⟨Nat.lt_of_lt_of_le x.1 h.n, by rw [h.φ k x.1]; exact x.2⟩
theorem WRs.le (h : w.le w') {vs : List V} {rs : List Wv} (x : WRs K w vs rs) : WRs K w' vs rs := Paired.mapP x fun _ _ z => z.le h
theorem FRs.le (h : w.le w') {vs : List (Str × V)} {rs : List (Str × Wv)} (x : FRs K w vs rs) : FRs K w' vs rs := Paired.mapP x fun _ _ z => ⟨z.1, z.2.le h⟩
theorem OWR.le (h : w.le w') : ∀ {v : Option V} {r : Option Wv}, OWR K w v r → OWR K w' v r
  | some _, some _, x => WR.le h x
  | some _, none, _ => trivial
  | none, none, _ => trivial
  | none, some _, x => x.elim
theorem Slots.le (h : w.le w') {σ : Sg} {δ : Dl} (x : Slots K w σ δ) : Slots K w' σ δ := Paired.mapP x fun _ _ z => z.le h
theorem OkE.le {o : Out Wv} {Q : VK} {E : XK} (h : w.le w') (x : OkE K cl w o Q E) : OkE K cl w' o Q E := by
  cases o with
  | ok r S => exact fun w2 H v l => x w2 H v (h.trans l)
  | exc C fs S => exact fun w2 H d l => x w2 H d (h.trans l)
  | stuck => exact x
theorem OkE.mono {o : Out Wv} {Q Q' : VK} {E E' : XK} (x : OkE K cl w o Q E) (hQ : ∀ v H, Q v H → Q' v H) (hE : ∀ c d H, E c d H → E' c d H) : OkE K cl w o Q' E' := by
  cases o with
  | ok r S => exact fun w2 H v l s r => hQ _ _ (x w2 H v l s r)
  | exc C fs S => exact fun w2 H d l s r => hE _ _ _ (x w2 H d l s r)
  | stuck => exact x
theorem OkG.le {α : Type} {o : Out α} {Q : Wd → α → Store → Hp → Prop} {E : XK} (h : w.le w') (x : OkG K cl w o Q E) : OkG K cl w' o Q E := by
  cases o with
  | ok r S => exact fun w2 H l => x w2 H (h.trans l)
  | exc C fs S => exact fun w2 H d l => x w2 H d (h.trans l)
  | stuck => exact x
theorem OkG.mono {α : Type} {o : Out α} {Q Q' : Wd → α → Store → Hp → Prop} {E E' : XK} (x : OkG K cl w o Q E) (hQ : ∀ w r S H, Sat K cl w S H → Q w r S H → Q' w r S H) (hE : ∀ c d H, E c d H → E' c d H) : OkG K cl w o Q' E' := by
  cases o with
  | ok r S => exact fun w2 H l s => hQ _ _ _ _ s (x w2 H l s)
  | exc C fs S => exact fun w2 H d l s r => hE _ _ _ (x w2 H d l s r)
  | stuck => exact x
/-- one thing after another -/
theorem OkE.bind {o : Out Wv} {g : Wv → Store → Out Wv} {Q : VK} {E : XK} (x : OkE K cl w (o.bind g) Q E) :
    OkE K cl w o (fun v H1 => ∃ w1 r S1, w.le w1 ∧ Sat K cl w1 S1 H1 ∧ WR K w1 v r ∧ OkE K cl w1 (g r S1) Q E) E := by
  cases o with
  | ok r S => exact fun w1 H1 v l s rr => ⟨w1, r, S, l, s, rr, OkE.le l x⟩
  | exc C fs S => exact x
  | stuck => exact x
theorem OkG.bindE {α : Type} {o : Out α} {g : α → Store → Out Wv} {Q : VK} {E : XK} (x : OkE K cl w (o.bind g) Q E) :
    OkG K cl w o (fun w1 r S1 H1 => OkE K cl w1 (g r S1) Q E) E := by
  cases o with
  | ok r S => exact fun w1 H1 l s => OkE.le l x
  | exc C fs S => exact x
  | stuck => exact x
theorem OkE.bindG {α : Type} {o : Out Wv} {g : Wv → Store → Out α} {Q : Wd → α → Store → Hp → Prop} {E : XK} (x : OkG K cl w (o.bind g) Q E) :
    OkE K cl w o (fun v H1 => ∃ w1 r S1, w.le w1 ∧ Sat K cl w1 S1 H1 ∧ WR K w1 v r ∧ OkG K cl w1 (g r S1) Q E) E := by
  cases o with
  | ok r S => exact fun w1 H1 v l s rr => ⟨w1, r, S, l, s, rr, OkG.le l x⟩
  | exc C fs S => exact x
  | stuck => exact x
theorem OkG.bindG {α β : Type} {o : Out α} {g : α → Store → Out β} {Q : Wd → β → Store → Hp → Prop} {E : XK} (x : OkG K cl w (o.bind g) Q E) :
    OkG K cl w o (fun w1 r S1 H1 => OkG K cl w1 (g r S1) Q E) E := by
  cases o with
  | ok r S => exact fun w1 H1 l s => OkG.le l x
  | exc C fs S => exact x
  | stuck => exact x
theorem Slots.get {σ : Sg} {δ : Dl} {i : Nat} {r : Wv} (x : Slots K w σ δ) (e : δ[i]? = some (some r)) : ∃ v, σ[i]? = some (some v) ∧ WR K w v r := by
  induction x generalizing i with
  | nil => simp at e
  | @cons a b l1 l2 h _ ih =>
    cases i with
    | zero =>
      simp at e
      subst e
      cases a with
      | none => exact h.elim
      | some v => exact ⟨v, rfl, h⟩
    | succ i =>
      obtain ⟨v, h1, h2⟩ := ih (i := i) (by simpa using e)
      exact ⟨v, by simpa using h1, h2⟩
theorem Slots.set {σ : Sg} {δ : Dl} {v : V} {r : Wv} (x : Slots K w σ δ) (h : WR K w v r) : ∀ i, Slots K w (σ.set i (some v)) (δ.set i (some r)) := by
  induction x with
  | nil => intro i; exact .nil
  | @cons a b l1 l2 h1 k ih =>
    intro i
    cases i with
    | zero => exact .cons h k
    | succ i => exact .cons h1 (ih i)
theorem Slots.unset {σ : Sg} {δ : Dl} (x : Slots K w σ δ) : ∀ i, Slots K w (σ.set i none) (δ.set i none) := by
  induction x with
  | nil => intro i; exact .nil
  | @cons a b l1 l2 h1 k ih =>
    intro i
    cases i with
    | zero => exact .cons trivial k
    | succ i => exact .cons h1 (ih i)
end
section
variable {X : Cx} {cl : Str → Addr} {W : WX}
/-- an expression denotes a function -/
def DenE (X : Cx) (cl : Str → Addr) (W : WX) (e : Expr) (f : FE) : Prop := PE X e (tDen X.K cl W f)
theorem PE.imp {X : Cx} {e : Expr} {t u : TE} (h : PE X e t) (k : ∀ σ H Q, u σ H Q → t σ H Q) : PE X e u := ⟨fun pins s σ H Q I q => h.run pins s σ H Q I (k σ H Q q)⟩
def cVar (i : Nat) : FE := fun δ S => match δ[i]? with
  | some (some r) => .ok r S
  | _ => .stuck
def cD (d : D) : FE := fun _ S => .ok (.t d) S
theorem den_var (i : Nat) {x : Str} {pos : Pos} (hN : X.N[i]? = some x := by rfl) (hv : Vis X.env.scope x := by first | exact Or.inl rfl | exact Or.inr (Or.inl rfl) | exact Or.inr (Or.inr rfl)) (hd : (x == ("__debug__" : Str)) = false := by decide)
    (hcd : (x == ("__classdict__" : Str)) = false := by decide) : DenE X cl W (.Name x pos) (cVar i) := by
  refine PE.imp (pe_var hN hv hd hcd) fun σ H Q ⟨w, S, δ, sat, sl, q⟩ => ?_
  unfold cVar at q
  split at q
  · rename_i r e
    obtain ⟨v, h1, h2⟩ := sl.get e
    exact ⟨v, h1, q w H v (Wd.le.refl w) sat h2⟩
  · exact q.elim
theorem den_k {e : Expr} {v : V} {d : D} (h : PE X e (tC v)) (hd : ∀ H, Tr X.K H v d) : DenE X cl W e (cD d) :=
  PE.imp h fun σ H Q ⟨w, S, δ, sat, sl, q⟩ => q w H v (Wd.le.refl w) sat (hd _)
theorem den_int {i j pos} : DenE X cl W (.Constant (.int i) j pos) (cD (.int i)) := den_k pe_int fun _ => .int i
theorem den_bl {i j pos} : DenE X cl W (.Constant (.bool i) j pos) (cD (.bool i)) := den_k pe_bl fun _ => .bl i
theorem den_str {i j pos} : DenE X cl W (.Constant (.str i) j pos) (cD (.str i)) := den_k pe_str fun _ => .str i
theorem den_non {j pos} : DenE X cl W (.Constant .none j pos) (cD .none) := den_k pe_non fun _ => .non

/-! ### two operands -/
def c2 (g : Wv → Wv → Store → Out Wv) (fa fb : FE) : FE := fun δ S => (fa δ S).bind fun x S1 => (fb δ S1).bind fun y S2 => g x y S2
/-- a rule of the layer, by values, told by a function of trees and cells -/
def Op2 (K : PySem.W.Frag) (cl : Str → Addr) (g : Wv → Wv → Store → Out Wv) (r : R2) : Prop :=
  ∀ (w : Wd) (S : Store) (H : Hp) (x y : V) (p q : Wv) (Q : VK) (E : XK), Sat K cl w S H → WR K w x p → WR K w y q → OkE K cl w (g p q S) Q E → r x y H Q
theorem tden2 {K : PySem.W.Frag} {g : Wv → Wv → Store → Out Wv} {r : R2} {fa fb : FE} (hg : Op2 K cl g r) {σ : Sg} {H : Hp} {Q : VK} (h : tDen K cl W (c2 g fa fb) σ H Q) :
    tOp r (tDen K cl W fa) (tDen K cl W fb) σ H Q := by
  obtain ⟨w, S, δ, sat, sl, q⟩ := h
  refine ⟨w, S, δ, sat, sl, OkE.mono (OkE.bind q) (fun x H1 ⟨w1, p, S1, l1, sat1, r1, q1⟩ => ?_) fun _ _ _ z => z⟩
  refine ⟨w1, S1, δ, sat1, sl.le l1, OkE.mono (OkE.bind q1) (fun y H2 ⟨w2, p2, S2, l2, sat2, r2, q2⟩ => ?_) fun _ _ _ z => z⟩
  exact hg w2 S2 H2 x y p p2 Q _ sat2 (r1.le l2) r2 q2
theorem den_op2 {op : Operator} {r : R2} {g : Wv → Wv → Store → Out Wv} {fa fb : FE} {a b : Expr} {pos : Pos} (ho : OpR X (binaryOp op) r) (hg : Op2 X.K cl g r) (ha : DenE X cl W a fa) (hb : DenE X cl W b fb) :
    DenE X cl W (.BinOp a op b pos) (c2 g fa fb) := PE.imp (pe_op ho ha hb) fun _ _ _ h => tden2 hg h
theorem den_cmp2 {op : CmpOp} {r : R2} {g : Wv → Wv → Store → Out Wv} {fa fb : FE} {a b : Expr} {pos : Pos} (ho : OpR X (compareOp op) r) (hg : Op2 X.K cl g r) (ha : DenE X cl W a fa) (hb : DenE X cl W b fb) (hm : behindInMarks op b = false) :
    DenE X cl W (.Compare a [op] [b] pos) (c2 g fa fb) := PE.imp (pe_cmpR ho ha hb hm) fun _ _ _ h => tden2 hg h
def c1 (g : Wv → Store → Out Wv) (fa : FE) : FE := fun δ S => (fa δ S).bind fun x S1 => g x S1
def Op1 (K : PySem.W.Frag) (cl : Str → Addr) (g : Wv → Store → Out Wv) (r : V → Hp → VK → Prop) : Prop :=
  ∀ (w : Wd) (S : Store) (H : Hp) (x : V) (p : Wv) (Q : VK) (E : XK), Sat K cl w S H → WR K w x p → OkE K cl w (g p S) Q E → r x H Q
theorem tden1 {K : PySem.W.Frag} {g : Wv → Store → Out Wv} {r : V → Hp → VK → Prop} {fa : FE} (hg : Op1 K cl g r) {σ : Sg} {H : Hp} {Q : VK} (h : tDen K cl W (c1 g fa) σ H Q) : tUn r (tDen K cl W fa) σ H Q := by
  obtain ⟨w, S, δ, sat, sl, q⟩ := h
  refine ⟨w, S, δ, sat, sl, OkE.mono (OkE.bind q) (fun x H1 ⟨w1, p, S1, l1, sat1, r1, q1⟩ => ?_) fun _ _ _ z => z⟩
  exact hg w1 S1 H1 x p Q _ sat1 r1 q1
theorem den_un1 {op : UnaryOp} {r : V → Hp → VK → Prop} {g : Wv → Store → Out Wv} {fa : FE} {a : Expr} {pos : Pos} (ho : UnR X (unaryOp op) r) (hg : Op1 X.K cl g r) (ha : DenE X cl W a fa) : DenE X cl W (.UnaryOp op a pos) (c1 g fa) :=
  PE.imp (pe_un ho ha) fun _ _ _ h => tden1 hg h
end
end Dn

/-! Dn, part 2: tests, arguments, statements, defs. -/
namespace Dn
open PySem PySem.Spec PyProof.Rows L2

inductive OutS where
  | nx (δ : Dl) (S : Store)
  | rt (r : Wv) (S : Store)
  | bk (δ : Dl) (S : Store)
  | ct (δ : Dl) (S : Store)
  | exc (C : Str) (fs : List (Str × D)) (δ : Dl) (S : Store)
  | stuck
abbrev FS := Dl → Store → OutS
abbrev FT := Dl → Store → Out Bool
abbrev FA := Dl → Store → Out (List Wv)
section
variable (K : PySem.W.Frag) (cl : Str → Addr)
def OkS (w : Wd) (o : OutS) (E : Ends) (W : WX) : Prop := match o with
  | .nx δ S => ∀ w' H σ, w.le w' → Sat K cl w' S H → Slots K w' σ δ → E.nx σ H
  | .rt r S => ∀ w' H v, w.le w' → Sat K cl w' S H → WR K w' v r → E.rt v H
  | .bk δ S => ∀ w' H σ, w.le w' → Sat K cl w' S H → Slots K w' σ δ → E.bk σ H
  | .ct δ S => ∀ w' H σ, w.le w' → Sat K cl w' S H → Slots K w' σ δ → E.ct σ H
  | .exc C fs δ S => ∀ w' H σ d, w.le w' → Sat K cl w' S H → Slots K w' σ δ → ExcAt K w' d fs H → W (.ref (cl C)) d σ H
  | .stuck => False
def tDenS (W : WX) (f : FS) : TS := fun E σ H => ∃ w S δ, Sat K cl w S H ∧ Slots K w σ δ ∧ OkS K cl w (f δ S) E W
def tDenT (W : WX) (f : FT) : TT := fun σ H Q => ∃ w S δ, Sat K cl w S H ∧ Slots K w σ δ ∧ OkG K cl w (f δ S) (fun _ b _ H' => Q b H') fun c d H' => W c d σ H'
def OkA (w : Wd) (o : Out (List Wv)) (Q : List V → Hp → Prop) (E : XK) : Prop := match o with
  | .ok rs S => ∀ w' H vs, w.le w' → Sat K cl w' S H → WRs K w' vs rs → Q vs H
  | .exc C fs S => ∀ w' H d, w.le w' → Sat K cl w' S H → ExcAt K w' d fs H → E (.ref (cl C)) d H
  | .stuck => False
def tDenA (W : WX) (f : FA) : TA := fun σ H Q => ∃ w S δ, Sat K cl w S H ∧ Slots K w σ δ ∧ OkA K cl w (f δ S) Q fun c d H' => W c d σ H'
end
section
variable {K : PySem.W.Frag} {cl : Str → Addr} {w w' : Wd} {S S' : Store} {H H' : Hp}
theorem OkS.le {o : OutS} {E : Ends} {W : WX} (h : w.le w') (x : OkS K cl w o E W) : OkS K cl w' o E W := by
  cases o with
  | nx δ S => exact fun w2 H v l => x w2 H v (h.trans l)
  | rt r S => exact fun w2 H v l => x w2 H v (h.trans l)
  | bk δ S => exact fun w2 H v l => x w2 H v (h.trans l)
  | ct δ S => exact fun w2 H v l => x w2 H v (h.trans l)
  | exc C fs δ S => exact fun w2 H σ d l => x w2 H σ d (h.trans l)
  | stuck => exact x
theorem OkA.le {o : Out (List Wv)} {Q : List V → Hp → Prop} {E : XK} (h : w.le w') (x : OkA K cl w o Q E) : OkA K cl w' o Q E := by
  cases o with
  | ok r S => exact fun w2 H v l => x w2 H v (h.trans l)
  | exc C fs S => exact fun w2 H d l => x w2 H d (h.trans l)
  | stuck => exact x
theorem OkA.mono {o : Out (List Wv)} {Q Q' : List V → Hp → Prop} {E E' : XK} (x : OkA K cl w o Q E) (hQ : ∀ v H, Q v H → Q' v H) (hE : ∀ c d H, E c d H → E' c d H) : OkA K cl w o Q' E' := by
  cases o with
  | ok r S => exact fun w2 H v l s r => hQ _ _ (x w2 H v l s r)
  | exc C fs S => exact fun w2 H d l s r => hE _ _ _ (x w2 H d l s r)
  | stuck => exact x
theorem OkA.bindE {o : Out (List Wv)} {g : List Wv → Store → Out Wv} {Q : VK} {E : XK} (x : OkE K cl w (o.bind g) Q E) :
    OkA K cl w o (fun vs H1 => ∃ w1 rs S1, w.le w1 ∧ Sat K cl w1 S1 H1 ∧ WRs K w1 vs rs ∧ OkE K cl w1 (g rs S1) Q E) E := by
  cases o with
  | ok r S => exact fun w1 H1 v l s rr => ⟨w1, r, S, l, s, rr, OkE.le l x⟩
  | exc C fs S => exact x
  | stuck => exact x
theorem OkA.bindA {o : Out (List Wv)} {g : List Wv → Store → Out (List Wv)} {Q : List V → Hp → Prop} {E : XK} (x : OkA K cl w (o.bind g) Q E) :
    OkA K cl w o (fun vs H1 => ∃ w1 rs S1, w.le w1 ∧ Sat K cl w1 S1 H1 ∧ WRs K w1 vs rs ∧ OkA K cl w1 (g rs S1) Q E) E := by
  cases o with
  | ok r S => exact fun w1 H1 v l s rr => ⟨w1, r, S, l, s, rr, OkA.le l x⟩
  | exc C fs S => exact x
  | stuck => exact x
theorem OkE.bindA {o : Out Wv} {g : Wv → Store → Out (List Wv)} {Q : List V → Hp → Prop} {E : XK} (x : OkA K cl w (o.bind g) Q E) :
    OkE K cl w o (fun v H1 => ∃ w1 r S1, w.le w1 ∧ Sat K cl w1 S1 H1 ∧ WR K w1 v r ∧ OkA K cl w1 (g r S1) Q E) E := by
  cases o with
  | ok r S => exact fun w1 H1 v l s rr => ⟨w1, r, S, l, s, rr, OkA.le l x⟩
  | exc C fs S => exact x
  | stuck => exact x
end
section
variable {X : Cx} {cl : Str → Addr} {W : WX}
def DenT (X : Cx) (cl : Str → Addr) (W : WX) (e : Expr) (f : FT) : Prop := PT X e (tDenT X.K cl W f)
def DenW (X : Cx) (cl : Str → Addr) (W : WX) (e : Expr) (f : FT) : Prop := PW X e (tDenT X.K cl W f)
def DenA (X : Cx) (cl : Str → Addr) (W : WX) (es : List Expr) (f : FA) : Prop := PA X es (tDenA X.K cl W f)
def DenS (X : Cx) (cl : Str → Addr) (W : WX) (st : Stmt) (f : FS) : Prop := PS X st (tDenS X.K cl W f)
def DenSs (X : Cx) (cl : Str → Addr) (W : WX) (sts : List Stmt) (f : FS) : Prop := PSs X sts (tDenS X.K cl W f)
theorem PT.imp {X : Cx} {e : Expr} {t u : TT} (h : PT X e t) (k : ∀ σ H Q, u σ H Q → t σ H Q) : PT X e u := ⟨fun pins s σ H Q I q => h.run pins s σ H Q I (k σ H Q q)⟩
theorem PW.imp {X : Cx} {e : Expr} {t u : TT} (h : PW X e t) (k : ∀ σ H Q, u σ H Q → t σ H Q) : PW X e u := ⟨fun wh pins s σ H Q I q => h.run wh pins s σ H Q I (k σ H Q q)⟩
theorem PA.imp {X : Cx} {e : List Expr} {t u : TA} (h : PA X e t) (k : ∀ σ H Q, u σ H Q → t σ H Q) : PA X e u := ⟨fun pos pins s σ H Q I q => h.run pos pins s σ H Q I (k σ H Q q)⟩
theorem PS.imp {X : Cx} {e : Stmt} {t u : TS} (h : PS X e t) (k : ∀ D σ H, u D σ H → t D σ H) : PS X e u := ⟨fun pins s σ H D I q => h.run pins s σ H D I (k D σ H q)⟩
theorem PSs.imp {X : Cx} {e : List Stmt} {t u : TS} (h : PSs X e t) (k : ∀ D σ H, u D σ H → t D σ H) : PSs X e u := ⟨fun pins s σ H D I q => h.run pins s σ H D I (k D σ H q)⟩

/-! ### tests -/
def boolOf (r : Wv) (S : Store) : Out Bool := match r with
  | .t (.bool b) => .ok b S
  | _ => .stuck
def fB (f : FE) : FT := fun δ S => (f δ S).bind boolOf
theorem tdenB {K : PySem.W.Frag} {f : FE} {σ : Sg} {H : Hp} {Q : Bool → Hp → Prop} (h : tDenT K cl W (fB f) σ H Q) : tDen K cl W f σ H fun x H' => ∃ k, x = .bl k ∧ Q k H' := by
  obtain ⟨w, S, δ, sat, sl, q⟩ := h
  refine ⟨w, S, δ, sat, sl, OkE.mono (OkE.bindG q) (fun x H1 ⟨w1, p, S1, l1, sat1, r1, q1⟩ => ?_) fun _ _ _ z => z⟩
  unfold boolOf at q1
  split at q1
  · rename_i b
    cases r1
    exact ⟨b, rfl, q1 w1 H1 (Wd.le.refl _) sat1⟩
  · exact q1.elim
/-- a test that is a comparison -/
theorem den_tcmp2 {op : CmpOp} {r : R2} {g : Wv → Wv → Store → Out Wv} {fa fb : FE} {a b : Expr} {pos : Pos} (ho : OpR X (compareOp op) r) (hg : Op2 X.K cl g r) (ha : DenE X cl W a fa) (hb : DenE X cl W b fb) (hm : behindInMarks op b = false) :
    DenT X cl W (.Compare a [op] [b] pos) (fB (c2 g fa fb)) := PT.imp (pt_cmpR ho ha hb hm) fun _ _ _ h => tden2 hg (tdenB h)
/-- a test that is an expression handing back a truth -/
theorem den_tval {e : Expr} {f : FE} (h : DenE X cl W e f) (he : ∀ whole, isTrue e X.env whole = (do let v ← whole; standAt e.pos; holding [v] (truthy v)) := by intro _; rfl) : DenT X cl W e (fB f) :=
  PT.imp (pt_val h he) fun _ _ _ h => tdenB h
def fNot (f : FT) : FT := fun δ S => (f δ S).bind fun b S => .ok (!b) S
theorem den_tnot {a : Expr} {f : FT} {pos : Pos} (h : DenT X cl W a f) : DenT X cl W (.UnaryOp .Not a pos) (fNot f) :=
  PT.imp (pt_not h) fun σ H Q ⟨w, S, δ, sat, sl, q⟩ => ⟨w, S, δ, sat, sl, OkG.mono (OkG.bindG q) (fun w1 b S1 H1 s1 q1 => q1 w1 H1 (Wd.le.refl _) s1) fun _ _ _ z => z⟩
def fAnd (f g : FT) : FT := fun δ S => (f δ S).bind fun b S1 => if b = true then g δ S1 else .ok false S1
def fOr (f g : FT) : FT := fun δ S => (f δ S).bind fun b S1 => if b = true then .ok true S1 else g δ S1
theorem den_wand1 {a : Expr} {f : FT} {pos : Pos} (h : DenT X cl W a f) : DenW X cl W (.BoolOp .And [a] pos) f := pw_and1 h
theorem den_wor1 {a : Expr} {f : FT} {pos : Pos} (h : DenT X cl W a f) : DenW X cl W (.BoolOp .Or [a] pos) f := pw_or1 h
theorem den_wand {a b : Expr} {rest : List Expr} {f g : FT} {pos : Pos} (h : DenT X cl W a f) (k : DenW X cl W (.BoolOp .And (b :: rest) pos) g) : DenW X cl W (.BoolOp .And (a :: b :: rest) pos) (fAnd f g) := by
  refine PW.imp (pw_and h k) fun σ H Q ⟨w, S, δ, sat, sl, q⟩ => ⟨w, S, δ, sat, sl, ?_⟩
  have q := OkG.bindG (Q := fun _ b _ H' => Q b H') q
  cases e : f δ S with
  | ok b S1 =>
    rw [e] at q
    intro w1 H1 l1 s1
    have q1 := q w1 H1 l1 s1
    cases b with
    | true => exact ⟨w1, S1, δ, s1, sl.le l1, q1⟩
    | false => exact q1 w1 H1 (Wd.le.refl _) s1
  | exc C fs S1 => rw [e] at q; exact q
  | stuck => rw [e] at q; exact q
theorem den_wor {a b : Expr} {rest : List Expr} {f g : FT} {pos : Pos} (h : DenT X cl W a f) (k : DenW X cl W (.BoolOp .Or (b :: rest) pos) g) : DenW X cl W (.BoolOp .Or (a :: b :: rest) pos) (fOr f g) := by
  refine PW.imp (pw_or h k) fun σ H Q ⟨w, S, δ, sat, sl, q⟩ => ⟨w, S, δ, sat, sl, ?_⟩
  have q := OkG.bindG (Q := fun _ b _ H' => Q b H') q
  cases e : f δ S with
  | ok b S1 =>
    rw [e] at q
    intro w1 H1 l1 s1
    have q1 := q w1 H1 l1 s1
    cases b with
    | false => exact ⟨w1, S1, δ, s1, sl.le l1, q1⟩
    | true => exact q1 w1 H1 (Wd.le.refl _) s1
  | exc C fs S1 => rw [e] at q; exact q
  | stuck => rw [e] at q; exact q
theorem den_tw {e : Expr} {f : FT} (h : DenW X cl W e f) : DenT X cl W e f := PW.pt h

/-! ### expressions by tests -/
def cIf (t : FT) (f g : FE) : FE := fun δ S => (t δ S).bind fun b S1 => if b = true then f δ S1 else g δ S1
theorem den_ifexp {c a b : Expr} {t : FT} {f g : FE} {pos : Pos} (hc : DenT X cl W c t) (ha : DenE X cl W a f) (hb : DenE X cl W b g) : DenE X cl W (.IfExp c a b pos) (cIf t f g) := by
  refine PE.imp (pe_ifExp hc ha hb) fun σ H Q ⟨w, S, δ, sat, sl, q⟩ => ⟨w, S, δ, sat, sl, ?_⟩
  refine OkG.mono (OkG.bindE q) (fun w1 b S1 H1 s1 q1 => q1) (fun _ _ _ z => z) |> fun q => ?_
  cases e : t δ S with
  | ok b S1 =>
    rw [e] at q
    intro w1 H1 l1 s1
    have q1 := q w1 H1 l1 s1
    cases b with
    | true => exact ⟨w1, S1, δ, s1, sl.le l1, q1⟩
    | false => exact ⟨w1, S1, δ, s1, sl.le l1, q1⟩
  | exc C fs S1 => rw [e] at q; exact q
  | stuck => rw [e] at q; exact q
/-- and, or, not as values: all but the last True or False -/
def cAnd (f g : FE) : FE := fun δ S => (f δ S).bind fun r S1 => match r with
  | .t (.bool b) => if b = true then g δ S1 else .ok (.t (.bool false)) S1
  | _ => .stuck
def cOr (f g : FE) : FE := fun δ S => (f δ S).bind fun r S1 => match r with
  | .t (.bool b) => if b = true then .ok (.t (.bool true)) S1 else g δ S1
  | _ => .stuck
def cNot (f : FE) : FE := fun δ S => (f δ S).bind fun r S1 => match r with
  | .t (.bool b) => .ok (.t (.bool (!b))) S1
  | _ => .stuck
theorem den_one {op} {a : Expr} {f : FE} {pos : Pos} (h : DenE X cl W a f) : DenE X cl W (.BoolOp op [a] pos) f := pe_one h
theorem den_and {a b : Expr} {rest : List Expr} {f g : FE} {pos : Pos} (h : DenE X cl W a f) (k : DenE X cl W (.BoolOp .And (b :: rest) pos) g) : DenE X cl W (.BoolOp .And (a :: b :: rest) pos) (cAnd f g) := by
  refine PE.imp (pe_and h k) fun σ H Q ⟨w, S, δ, sat, sl, q⟩ => ⟨w, S, δ, sat, sl, ?_⟩
  refine OkE.mono (OkE.bind q) (fun x H1 ⟨w1, p, S1, l1, sat1, r1, q1⟩ => ?_) fun _ _ _ z => z
  split at q1
  · rename_i b
    cases r1
    refine ⟨b, rfl, ?_⟩
    cases b with
    | true => exact ⟨w1, S1, δ, sat1, sl.le l1, q1⟩
    | false => exact q1 w1 H1 _ (Wd.le.refl _) sat1 (Tr.bl false)
  · exact q1.elim
theorem den_or {a b : Expr} {rest : List Expr} {f g : FE} {pos : Pos} (h : DenE X cl W a f) (k : DenE X cl W (.BoolOp .Or (b :: rest) pos) g) : DenE X cl W (.BoolOp .Or (a :: b :: rest) pos) (cOr f g) := by
  refine PE.imp (pe_or h k) fun σ H Q ⟨w, S, δ, sat, sl, q⟩ => ⟨w, S, δ, sat, sl, ?_⟩
  refine OkE.mono (OkE.bind q) (fun x H1 ⟨w1, p, S1, l1, sat1, r1, q1⟩ => ?_) fun _ _ _ z => z
  split at q1
  · rename_i b
    cases r1
    refine ⟨b, rfl, ?_⟩
    cases b with
    | false => exact ⟨w1, S1, δ, sat1, sl.le l1, q1⟩
    | true => exact q1 w1 H1 _ (Wd.le.refl _) sat1 (Tr.bl true)
  · exact q1.elim
theorem den_not {a : Expr} {f : FE} {pos : Pos} (h : DenE X cl W a f) : DenE X cl W (.UnaryOp .Not a pos) (cNot f) := by
  refine PE.imp (pe_not h) fun σ H Q ⟨w, S, δ, sat, sl, q⟩ => ⟨w, S, δ, sat, sl, ?_⟩
  refine OkE.mono (OkE.bind q) (fun x H1 ⟨w1, p, S1, l1, sat1, r1, q1⟩ => ?_) fun _ _ _ z => z
  split at q1
  · rename_i b
    cases r1
    exact ⟨b, rfl, q1 w1 H1 _ (Wd.le.refl _) sat1 (Tr.bl _)⟩
  · exact q1.elim

/-! ### argument lists -/
def aNil : FA := fun _ S => .ok [] S
def aCons (f : FE) (g : FA) : FA := fun δ S => (f δ S).bind fun r S1 => (g δ S1).bind fun rs S2 => .ok (r :: rs) S2
theorem den_anil : DenA X cl W [] aNil := PA.imp pa_nil fun _ H Q ⟨w, S, δ, sat, sl, q⟩ => q w H [] (Wd.le.refl _) sat .nil
theorem den_acons {e : Expr} {es : List Expr} {f : FE} {g : FA} (h : DenE X cl W e f) (k : DenA X cl W es g) (hs : starEach (e :: es) X.env = (false, eval e X.env) :: starEach es X.env := by rfl) : DenA X cl W (e :: es) (aCons f g) := by
  refine PA.imp (pa_cons h k hs) fun σ H Q ⟨w, S, δ, sat, sl, q⟩ => ⟨w, S, δ, sat, sl, ?_⟩
  refine OkE.mono (OkE.bindA q) (fun x H1 ⟨w1, p, S1, l1, sat1, r1, q1⟩ => ?_) fun _ _ _ z => z
  refine ⟨w1, S1, δ, sat1, sl.le l1, OkA.mono (OkA.bindA q1) (fun xs H2 ⟨w2, ps, S2, l2, sat2, r2, q2⟩ => ?_) fun _ _ _ z => z⟩
  exact q2 w2 H2 _ (Wd.le.refl _) sat2 (.cons (r1.le l2) r2)

/-! ### statements -/
def sNil : FS := fun δ S => .nx δ S
def sSeq (f g : FS) : FS := fun δ S => match f δ S with
  | .nx δ' S' => g δ' S'
  | o => o
theorem den_snil : DenSs X cl W [] sNil := PSs.imp pss_nil fun E σ H ⟨w, S, δ, sat, sl, q⟩ => q w H σ (Wd.le.refl _) sat sl
theorem tdenSeq {K : PySem.W.Frag} {f g : FS} {E : Ends} {σ : Sg} {H : Hp} (h : tDenS K cl W (sSeq f g) E σ H) : tSeq (tDenS K cl W f) (tDenS K cl W g) E σ H := by
  obtain ⟨w, S, δ, sat, sl, q⟩ := h
  refine ⟨w, S, δ, sat, sl, ?_⟩
  unfold sSeq at q
  cases e : f δ S with
  | nx δ' S' =>
    rw [e] at q
    exact fun w1 H1 σ1 l1 s1 sl1 => ⟨w1, S', δ', s1, sl1, OkS.le l1 q⟩
  | rt r S' => rw [e] at q; exact q
  | bk δ' S' => rw [e] at q; exact q
  | ct δ' S' => rw [e] at q; exact q
  | exc C fs δ' S' => rw [e] at q; exact q
  | stuck => rw [e] at q; exact q
theorem den_scons {st : Stmt} {rest : List Stmt} {f g : FS} (h : DenS X cl W st f) (k : DenSs X cl W rest g) : DenSs X cl W (st :: rest) (sSeq f g) := PSs.imp (pss_cons h k) fun _ _ _ h => tdenSeq h
theorem den_sone {st : Stmt} {f : FS} (h : DenS X cl W st f) : DenSs X cl W [st] f := pss_one h
/-- an outcome of an expression, gone on with -/
def Out.thenS {α : Type} (o : Out α) (δ : Dl) (g : α → Store → OutS) : OutS := match o with
  | .ok r S => g r S
  | .exc C fs S => .exc C fs δ S
  | .stuck => .stuck
theorem OkE.thenS {K : PySem.W.Frag} {w : Wd} {o : Out Wv} {δ : Dl} {g : Wv → Store → OutS} {E : Ends} {σ : Sg} (sl : Slots K w σ δ) (x : OkS K cl w (o.thenS δ g) E W) :
    OkE K cl w o (fun v H1 => ∃ w1 r S1, w.le w1 ∧ Sat K cl w1 S1 H1 ∧ WR K w1 v r ∧ OkS K cl w1 (g r S1) E W) fun c d H' => W c d σ H' := by
  cases o with
  | ok r S => exact fun w1 H1 v l s rr => ⟨w1, r, S, l, s, rr, OkS.le l x⟩
  | exc C fs S => exact fun w1 H1 d l s r => x w1 H1 σ d l s (sl.le l) r
  | stuck => exact x
theorem OkG.thenS {α : Type} {K : PySem.W.Frag} {w : Wd} {o : Out α} {δ : Dl} {g : α → Store → OutS} {E : Ends} {σ : Sg} (sl : Slots K w σ δ) (x : OkS K cl w (o.thenS δ g) E W) :
    OkG K cl w o (fun w1 r S1 H1 => w.le w1 ∧ Sat K cl w1 S1 H1 ∧ OkS K cl w1 (g r S1) E W) fun c d H' => W c d σ H' := by
  cases o with
  | ok r S => exact fun w1 H1 l s => ⟨l, s, OkS.le l x⟩
  | exc C fs S => exact fun w1 H1 d l s r => x w1 H1 σ d l s (sl.le l) r
  | stuck => exact x
def sSet (i : Nat) (f : FE) : FS := fun δ S => (f δ S).thenS δ fun r S1 => .nx (δ.set i (some r)) S1
theorem den_set (i : Nat) {x : Str} {e : Expr} {f : FE} {pos pos' : Pos} (he : DenE X cl W e f) (hN : X.N.Nodup) (hi : X.N[i]? = some x := by rfl) (hx : Loc X.env.scope x := by first | exact Or.inl rfl | exact Or.inr rfl)
    (hs : swapsWith e (some (.Name x pos')) pos.line X.env = pure false := by rfl) (hf : X.fn x = true ∨ X.env.scope.names.lookup x = some .local := by first | exact .inl rfl | exact .inr rfl) : DenS X cl W (.Assign [.Name x pos'] e pos) (sSet i f) := by
  refine PS.imp (ps_set hN hi hx he hs hf) fun E σ H ⟨w, S, δ, sat, sl, q⟩ => ⟨w, S, δ, sat, sl, ?_⟩
  refine OkE.mono (OkE.thenS sl q) (fun x H1 ⟨w1, p, S1, l1, sat1, r1, q1⟩ => ?_) fun _ _ _ z => z
  exact q1 w1 H1 _ (Wd.le.refl _) sat1 ((sl.le l1).set r1 i)
def sDrop (f : FE) : FS := fun δ S => (f δ S).thenS δ fun _ S1 => .nx δ S1
theorem den_expr {e : Expr} {f : FE} {pos : Pos} (he : DenE X cl W e f) (hs : swapsWith e none pos.line X.env = pure false := by rfl) : DenS X cl W (.Expr e pos) (sDrop f) := by
  refine PS.imp (ps_expr he hs) fun E σ H ⟨w, S, δ, sat, sl, q⟩ => ⟨w, S, δ, sat, sl, ?_⟩
  refine OkE.mono (OkE.thenS sl q) (fun x H1 ⟨w1, p, S1, l1, sat1, r1, q1⟩ => ?_) fun _ _ _ z => z
  exact q1 w1 H1 _ (Wd.le.refl _) sat1 (sl.le l1)
def sRet (f : FE) : FS := fun δ S => (f δ S).thenS δ fun r S1 => .rt r S1
theorem den_ret {e : Expr} {f : FE} {pos : Pos} (he : DenE X cl W e f) : DenS X cl W (.Return (some e) pos) (sRet f) := by
  refine PS.imp (ps_ret he) fun E σ H ⟨w, S, δ, sat, sl, q⟩ => ⟨w, S, δ, sat, sl, ?_⟩
  refine OkE.mono (OkE.thenS sl q) (fun x H1 ⟨w1, p, S1, l1, sat1, r1, q1⟩ => ?_) fun _ _ _ z => z
  exact q1 w1 H1 _ (Wd.le.refl _) sat1 r1
def sRetN : FS := fun _ S => .rt (.t .none) S
theorem den_retN {pos : Pos} : DenS X cl W (.Return none pos) sRetN := PS.imp ps_retN fun E σ H ⟨w, S, δ, sat, sl, q⟩ => q w H .non (Wd.le.refl _) sat Tr.non
def sBreak : FS := fun δ S => .bk δ S
def sCont : FS := fun δ S => .ct δ S
theorem den_pass {pos : Pos} : DenS X cl W (.Pass pos) sNil := PS.imp ps_pass fun E σ H ⟨w, S, δ, sat, sl, q⟩ => q w H σ (Wd.le.refl _) sat sl
theorem den_break {pos : Pos} : DenS X cl W (.Break pos) sBreak := PS.imp ps_break fun E σ H ⟨w, S, δ, sat, sl, q⟩ => q w H σ (Wd.le.refl _) sat sl
theorem den_continue {pos : Pos} : DenS X cl W (.Continue pos) sCont := PS.imp ps_continue fun E σ H ⟨w, S, δ, sat, sl, q⟩ => q w H σ (Wd.le.refl _) sat sl
def sStuck : FS := fun _ _ => .stuck
theorem den_never {st : Stmt} : DenS X cl W st sStuck := PS.imp ps_never fun E σ H ⟨w, S, δ, sat, sl, q⟩ => q
theorem den_nevers {st : List Stmt} : DenSs X cl W st sStuck := PSs.imp pss_never fun E σ H ⟨w, S, δ, sat, sl, q⟩ => q
def sIf (t : FT) (f g : FS) : FS := fun δ S => (t δ S).thenS δ fun b S1 => if b = true then f δ S1 else g δ S1
theorem den_if {c : Expr} {a b : List Stmt} {t : FT} {f g : FS} {pos : Pos} (hc : DenT X cl W c t) (ha : DenSs X cl W a f) (hb : DenSs X cl W b g) : DenS X cl W (.If c a b pos) (sIf t f g) := by
  refine PS.imp (ps_if hc ha hb) fun E σ H ⟨w, S, δ, sat, sl, q⟩ => ⟨w, S, δ, sat, sl, ?_⟩
  refine OkG.mono (OkG.thenS sl q) (fun w1 b S1 H1 _ ⟨l1, s1, q1⟩ => ?_) fun _ _ _ z => z
  cases b with
  | true => exact ⟨w1, S1, δ, s1, sl.le l1, q1⟩
  | false => exact ⟨w1, S1, δ, s1, sl.le l1, q1⟩

/-! ### defs -/
abbrev FC := List Wv → Store → Out Wv
def spDen (K : PySem.W.Frag) (cl : Str → Addr) (n : Nat) (F : FC) : Sp := fun vs H Q E => vs.length = n ∧ ∃ w S rs, Sat K cl w S H ∧ WRs K w vs rs ∧ OkE K cl w (F rs S) Q E
end
/-! ### trees are told apart -/
mutual
def deqD : (a b : D) → Decidable (a = b)
  | .none, .none => Decidable.isTrue rfl
  | .bool a, .bool b => if h : a = b then Decidable.isTrue (h ▸ rfl) else Decidable.isFalse fun e => h (PyData.bool.inj e)
  | .int a, .int b => if h : a = b then Decidable.isTrue (h ▸ rfl) else Decidable.isFalse fun e => h (PyData.int.inj e)
  | .str a, .str b => if h : a = b then Decidable.isTrue (h ▸ rfl) else Decidable.isFalse fun e => h (PyData.str.inj e)
  | .list a, .list b => match deqDs a b with
    | Decidable.isTrue h => Decidable.isTrue (h ▸ rfl)
    | Decidable.isFalse h => Decidable.isFalse fun e => h (PyData.list.inj e)
  | .tuple a, .tuple b => match deqDs a b with
    | Decidable.isTrue h => Decidable.isTrue (h ▸ rfl)
    | Decidable.isFalse h => Decidable.isFalse fun e => h (PyData.tuple.inj e)
  | .dict a, .dict b => match deqKs a b with
    | Decidable.isTrue h => Decidable.isTrue (h ▸ rfl)
    | Decidable.isFalse h => Decidable.isFalse fun e => h (PyData.dict.inj e)
  | .none, .bool _ | .none, .int _ | .none, .str _ | .none, .list _ | .none, .tuple _ | .none, .dict _ => Decidable.isFalse nofun
  | .bool _, .none | .bool _, .int _ | .bool _, .str _ | .bool _, .list _ | .bool _, .tuple _ | .bool _, .dict _ => Decidable.isFalse nofun
  | .int _, .none | .int _, .bool _ | .int _, .str _ | .int _, .list _ | .int _, .tuple _ | .int _, .dict _ => Decidable.isFalse nofun
  | .str _, .none | .str _, .bool _ | .str _, .int _ | .str _, .list _ | .str _, .tuple _ | .str _, .dict _ => Decidable.isFalse nofun
  | .list _, .none | .list _, .bool _ | .list _, .int _ | .list _, .str _ | .list _, .tuple _ | .list _, .dict _ => Decidable.isFalse nofun
  | .tuple _, .none | .tuple _, .bool _ | .tuple _, .int _ | .tuple _, .str _ | .tuple _, .list _ | .tuple _, .dict _ => Decidable.isFalse nofun
  | .dict _, .none | .dict _, .bool _ | .dict _, .int _ | .dict _, .str _ | .dict _, .list _ | .dict _, .tuple _ => Decidable.isFalse nofun
def deqDs : (a b : List D) → Decidable (a = b)
  | [], [] => Decidable.isTrue rfl
  | x :: a, y :: b => match deqD x y, deqDs a b with
    | Decidable.isTrue h, Decidable.isTrue k => Decidable.isTrue (h ▸ k ▸ rfl)
    | Decidable.isFalse h, _ => Decidable.isFalse fun e => h (List.cons.inj e).1
    | _, Decidable.isFalse k => Decidable.isFalse fun e => k (List.cons.inj e).2
  | [], _ :: _ => Decidable.isFalse nofun
  | _ :: _, [] => Decidable.isFalse nofun
def deqKs : (a b : List (D × D)) → Decidable (a = b)
  | [], [] => Decidable.isTrue rfl
  | (x, u) :: a, (y, v) :: b => match deqD x y, deqD u v, deqKs a b with
    | Decidable.isTrue h, Decidable.isTrue l, Decidable.isTrue k => Decidable.isTrue (h ▸ l ▸ k ▸ rfl)
    | Decidable.isFalse h, _, _ => Decidable.isFalse fun e => h (congrArg Prod.fst (List.cons.inj e).1)
    | _, Decidable.isFalse h, _ => Decidable.isFalse fun e => h (congrArg Prod.snd (List.cons.inj e).1)
    | _, _, Decidable.isFalse k => Decidable.isFalse fun e => k (List.cons.inj e).2
  | [], _ :: _ => Decidable.isFalse nofun
  | _ :: _, [] => Decidable.isFalse nofun
end
instance : DecidableEq D := deqD
instance : DecidableEq Wv
  | .t a, .t b => if h : a = b then Decidable.isTrue (h ▸ rfl) else Decidable.isFalse fun e => h (Wv.t.inj e)
  | .c a, .c b => if h : a = b then Decidable.isTrue (h ▸ rfl) else Decidable.isFalse fun e => h (Wv.c.inj e)
  | .t _, .c _ => Decidable.isFalse nofun
  | .c _, .t _ => Decidable.isFalse nofun
instance : DecidableEq Cell
  | .lst a, .lst b => if h : a = b then Decidable.isTrue (h ▸ rfl) else Decidable.isFalse fun e => h (Cell.lst.inj e)
  | .frz a, .frz b => if h : a = b then Decidable.isTrue (h ▸ rfl) else Decidable.isFalse fun e => h (Cell.frz.inj e)
  | .scr a, .scr b => if h : a = b then Decidable.isTrue (h ▸ rfl) else Decidable.isFalse fun e => h (Cell.scr.inj e)
  | .obj C a, .obj E b => if h : C = E ∧ a = b then Decidable.isTrue (h.1 ▸ h.2 ▸ rfl) else Decidable.isFalse fun e => h (Cell.obj.inj e)
  | .exn C a, .exn E b => if h : C = E ∧ a = b then Decidable.isTrue (h.1 ▸ h.2 ▸ rfl) else Decidable.isFalse fun e => h (Cell.exn.inj e)
  | .lst _, .frz _ => Decidable.isFalse nofun
  | .lst _, .obj _ _ => Decidable.isFalse nofun
  | .lst _, .scr _ => Decidable.isFalse nofun
  | .lst _, .exn _ _ => Decidable.isFalse nofun
  | .frz _, .lst _ => Decidable.isFalse nofun
  | .frz _, .obj _ _ => Decidable.isFalse nofun
  | .frz _, .scr _ => Decidable.isFalse nofun
  | .frz _, .exn _ _ => Decidable.isFalse nofun
  | .obj _ _, .lst _ => Decidable.isFalse nofun
  | .obj _ _, .frz _ => Decidable.isFalse nofun
  | .obj _ _, .scr _ => Decidable.isFalse nofun
  | .obj _ _, .exn _ _ => Decidable.isFalse nofun
  | .scr _, .lst _ => Decidable.isFalse nofun
  | .scr _, .frz _ => Decidable.isFalse nofun
  | .scr _, .obj _ _ => Decidable.isFalse nofun
  | .scr _, .exn _ _ => Decidable.isFalse nofun
  | .exn _ _, .lst _ => Decidable.isFalse nofun
  | .exn _ _, .frz _ => Decidable.isFalse nofun
  | .exn _ _, .obj _ _ => Decidable.isFalse nofun
  | .exn _ _, .scr _ => Decidable.isFalse nofun
def Wv.bnd (n : Nat) : Wv → Bool
  | .t _ => true
  | .c k => decide (k < n)
def Cell.bnd (n : Nat) : Cell → Bool
  | .lst ws => ws.all (Wv.bnd n)
  | .frz _ => true
  | .obj _ fs => fs.all fun p => p.2.bnd n
  | .scr _ => true
  | .exn _ _ => true
/-- the store behind a def: what was there, if nothing else is asked for -/
def cutS (S S' : Store) : Store := if S'.length = S.length then S' else if S.length ≤ S'.length ∧ (S'.take S.length).all (Cell.bnd S.length) = true then S'.take S.length else if S'.take S.length = S then S else S'
def Out.cut (S : Store) (o : Out Wv) : Out Wv := match o with
  | .ok (.t d) S' => .ok (.t d) (cutS S S')
  | .ok (.c k) S' => .ok (.c k) S'
  | .exc C fs S' => .exc C fs (cutS S S')
  | .stuck => .stuck
/-- what a body hands back -/
def OutS.fin (o : OutS) : Out Wv := match o with
  | .nx _ S => .ok (.t .none) S
  | .rt r S => .ok r S
  | .exc C fs _ S => .exc C fs S
  | _ => .stuck
def bodyF (N : Nat) (f : FS) : FC := fun rs S => ((f (rs.map some ++ List.replicate (N - rs.length) none) S).fin).cut S
section
variable {K : PySem.W.Frag} {cl : Str → Addr} {w w' : Wd} {S S' : Store} {H H' : Hp}
theorem WRs.bound {n : Nat} : ∀ {vs : List V} {rs : List Wv}, WRs K w vs rs → rs.all (Wv.bnd n) = true → WRs K ⟨w.H0, w.φ, n⟩ vs rs
  | _, _, .nil, _ => .nil
  | _, r :: rs, .cons h k, b => by
    rw [List.all_cons, Bool.and_eq_true] at b
    refine .cons ?_ (WRs.bound k b.2)
    cases r with
    | t d => exact h
    | c k => exact ⟨of_decide_eq_true b.1, h.2⟩
theorem WRs.bnd : ∀ {vs : List V} {rs : List Wv}, WRs K w vs rs → rs.all (Wv.bnd w.n) = true
  | _, _, .nil => rfl
  | _, r :: rs, .cons h k => by
    rw [List.all_cons, Bool.and_eq_true]
    refine ⟨?_, WRs.bnd k⟩
    cases r with
    | t d => rfl
    | c k => exact decide_eq_true h.1
theorem FRs.bound {n : Nat} : ∀ {vs : List (Str × V)} {rs : List (Str × Wv)}, FRs K w vs rs → (rs.all fun p => p.2.bnd n) = true → FRs K ⟨w.H0, w.φ, n⟩ vs rs
  | _, _, .nil, _ => .nil
  | _, (f, r) :: rs, .cons h k, b => by
    rw [List.all_cons, Bool.and_eq_true] at b
    refine .cons ⟨h.1, ?_⟩ (FRs.bound k b.2)
    have h2 := h.2
    cases r with
    | t d => exact h2
    | c k => exact ⟨of_decide_eq_true b.1, h2.2⟩
theorem FRs.bnd : ∀ {vs : List (Str × V)} {rs : List (Str × Wv)}, FRs K w vs rs → (rs.all fun p => p.2.bnd w.n) = true
  | _, _, .nil => rfl
  | _, (f, r) :: rs, .cons h k => by
    rw [List.all_cons, Bool.and_eq_true]
    refine ⟨?_, FRs.bnd k⟩
    have h2 := h.2
    cases r with
    | t d => rfl
    | c k => exact decide_eq_true h2.1
theorem scrW_bnd {n : Nat} : ∀ ns : List Int, (scrW ns).all (Wv.bnd n) = true
  | [] => rfl
  | _ :: ns => scrW_bnd ns
theorem CellOk.bnd {a : Addr} {c : Cell} (h : CellOk K cl w H a c) : c.bnd w.n = true := by
  cases c with
  | lst ws => obtain ⟨_, vs, _, r⟩ := h; exact r.bnd
  | frz d => rfl
  | obj C fs => obtain ⟨_, dx, vs, _, r⟩ := h; exact r.bnd
  | scr ns => rfl
  | exn C fs => rfl
theorem CellOk.bound {n : Nat} {a : Addr} {c : Cell} (h : CellOk K cl w H a c) (b : c.bnd n = true) : CellOk K cl ⟨w.H0, w.φ, n⟩ H a c := by
  cases c with
  | lst ws => obtain ⟨z, vs, e, r⟩ := h; exact ⟨z, vs, e, r.bound b⟩
  | frz d => exact h
  | obj C fs => obtain ⟨z, dx, vs, e, r⟩ := h; exact ⟨z, dx, vs, e, r.bound b⟩
  | scr ns => obtain ⟨vs, e, r⟩ := h; exact ⟨vs, e, r.bound (scrW_bnd ns)⟩
  | exn C fs => exact h
theorem Sat.bnds (s : Sat K cl w S H) : S.all (Cell.bnd S.length) = true := by
  rw [List.all_eq_true]
  intro c hc
  obtain ⟨k, hk⟩ := List.mem_iff_getElem?.mp hc
  rw [← s.n]
  exact (s.cell k c hk).bnd
theorem Sat.takes (s : Sat K cl w S H) {n : Nat} (hn : n ≤ S.length) (b : (S.take n).all (Cell.bnd n) = true) : Sat K cl ⟨w.H0, w.φ, n⟩ (S.take n) H := by
  refine ⟨s.same, by rw [List.length_take]; show n = min n S.length; omega, fun k c e => ?_, fun i j c d e1 e2 h1 h2 h => ?_⟩
  · have hk : k < n := by
      have := (List.getElem?_eq_some_iff.mp e).1
      rw [List.length_take] at this
      omega
    have e' : S[k]? = some c := by rw [List.getElem?_take_of_lt hk] at e; exact e
    exact (s.cell k c e').bound ((List.all_eq_true.mp b) c (List.mem_of_getElem? e))
  · have hi : i < n := by
      have := (List.getElem?_eq_some_iff.mp e1).1
      rw [List.length_take] at this
      omega
    have hj : j < n := by
      have := (List.getElem?_eq_some_iff.mp e2).1
      rw [List.length_take] at this
      omega
    rw [List.getElem?_take_of_lt hi] at e1
    rw [List.getElem?_take_of_lt hj] at e2
    exact s.inj i j c d e1 e2 h1 h2 h
/-- behind a def: a world for what is kept -/
theorem Sat.cuts (s : Sat K cl w S H) (l : w.le w') (s' : Sat K cl w' S' H') : ∃ w2, w.le w2 ∧ w2.H0 = w'.H0 ∧ w2.φ = w'.φ ∧ Sat K cl w2 (cutS S S') H' := by
  have hle : S.length ≤ S'.length := by rw [← s.n, ← s'.n]; exact l.n
  unfold cutS
  split
  · exact ⟨w', l, rfl, rfl, s'⟩
  · have hl : w.le ⟨w'.H0, w'.φ, S.length⟩ := ⟨l.same, Nat.le_of_eq s.n, l.φ⟩
    split
    · rename_i e
      exact ⟨⟨w'.H0, w'.φ, S.length⟩, hl, rfl, rfl, s'.takes hle e.2⟩
    · split
      · rename_i e
        refine ⟨⟨w'.H0, w'.φ, S.length⟩, hl, rfl, rfl, ?_⟩
        have q := s'.takes hle (by rw [e]; exact s.bnds)
        rw [e] at q
        exact q
      · exact ⟨w', l, rfl, rfl, s'⟩
theorem exc_at {w2 : Wd} {d : Option Addr} {fs : List (Str × D)} (e : w2.H0 = w'.H0) (h : ExcAt K w' d fs H) : ExcAt K w2 d fs H := by
  unfold ExcAt at h ⊢
  rw [e]
  exact h
theorem start_slots {N : List Str} : ∀ {vs : List V} {rs : List Wv}, WRs K w vs rs → Slots K w (L2.start N vs) (rs.map some ++ List.replicate (N.length - rs.length) none) := by
  intro vs rs r
  have hl : vs.length = rs.length := Paired.length r
  unfold L2.start
  rw [hl]
  have tail : ∀ n, Slots K w (List.replicate n none) (List.replicate n none) := by
    intro n
    induction n with
    | zero => exact .nil
    | succ n ih => exact .cons trivial ih
  clear hl
  generalize N.length - rs.length = m
  induction r with
  | nil => exact tail m
  | cons h _ ih => exact .cons h ih
/-- THE RULE for a def -/
theorem den_body {N : List Str} {f : FS} {vs : List V} {Q : VK} {E : XK} {n : Nat} (h : spDen K cl n (bodyF N.length f) vs H Q E) :
    tDenS K cl (fun c d _ H' => E c d H') f { nx := fun _ H' => Q .non H', rt := Q } (L2.start N vs) H := by
  obtain ⟨_, w, S, rs, sat, r, q⟩ := h
  refine ⟨w, S, _, sat, start_slots r, ?_⟩
  unfold bodyF at q
  generalize f (rs.map some ++ List.replicate (N.length - rs.length) none) S = o at q
  cases o with
  | nx δ S1 =>
    intro w1 H1 σ1 l1 s1 _
    obtain ⟨w2, l2, e2, _, s2⟩ := sat.cuts l1 s1
    exact q w2 H1 _ l2 s2 Tr.non
  | rt r S1 =>
    intro w1 H1 v l1 s1 rr
    cases r with
    | t d =>
      obtain ⟨w2, l2, e2, _, s2⟩ := sat.cuts l1 s1
      exact q w2 H1 _ l2 s2 (by show Tr K w2.H0 v d; rw [e2]; exact rr)
    | c k => exact q w1 H1 v l1 s1 rr
  | bk δ S1 => exact q.elim
  | ct δ S1 => exact q.elim
  | exc C fs δ S1 =>
    intro w1 H1 σ1 d l1 s1 _ x
    obtain ⟨w2, l2, e2, _, s2⟩ := sat.cuts l1 s1
    exact q w2 H1 d l2 s2 (exc_at e2 x)
  | stuck => exact q.elim
/-- a def by its body -/
theorem fn_den {P : Program} {wd : World} {mg : Str → Option Value} {base : Heap} {x qual : Str} {st : Stmt} {a : Addr} {fd : FuncData} {N ps : List Str} {k n : Nat} {f : FS} (F : Fun K x qual st a fd) (S : FnScope N ps (defScope st)) (hn : n = ps.length)
    (hb : ∀ (cdv : Value) (A : Around) (outer : List Env) (s : Shared) (H : Hp) (E : XK), Room k (A.deeper (envOfC qual (defScope st) s.heap.objs.size a cdv)) →
      DenSs (cxOf (L2.CX P wd) P wd K mg base N qual (defScope st) a cdv A outer s H E) cl (fun c d _ H' => E c d H') (defBody st) f) : FnOk P wd K mg base (L2.CX P wd) (k + 1) a fd ps (spDen K cl n (bodyF N.length f)) :=
  F.okX S (fun vs H Q E h => h.1.trans hn) fun cdv A outer s H vs Q E hr h => ⟨_, hb cdv A outer s H E hr, den_body h⟩
end
section
variable {X : Cx} {cl : Str → Addr} {W : WX}
/-- in a def's body what is raised goes out -/
theorem takes_body {P : Program} {wd : World} {K : PySem.W.Frag} {mg : Str → Option Value} {base : Heap} {N : List Str} {qual : Str} {sc : Scope} {a : Addr} {cdv : Value} {A : Around} {outer : List Env} {s : Shared} {H : Hp} {E : XK} :
    Takes (cxOf (L2.CX P wd) P wd K mg base N qual sc a cdv A outer s H E) (fun c d _ H' => E c d H') := takes_of rfl rfl rfl rfl
def cCall (n : Nat) (F : FC) (g : FA) : FE := fun δ S => (g δ S).bind fun rs S1 => if rs.length = n then F rs S1 else .stuck
theorem den_call {k n : Nat} {f : Addr} {fd : FuncData} {ps : List Str} {F : FC} {x : Str} {p pos : Pos} {e : Expr} {es : List Expr} {g : FA} (G : FnOk X.prog X.w X.K X.mg X.base (L2.CX X.prog X.w) k f fd ps (spDen X.K cl n F)) (hr : Room k X.A) (hm : X.mg x = some (.ref f))
    (hk : PySem.W.keepIn X.K (.ref f) = true) (hb : Binds X.K fd ps []) (tk : Takes X W) (ha : DenA X cl W (e :: es) g) (hg : Gl X x := by rfl) (hdb : (x == ("__debug__" : Str)) = false := by decide)
    (he : starEach (e :: es) X.env = (false, eval e X.env) :: starEach es X.env := by rfl) (hpl : (backTo pos (starEach es X.env)).any (·.1) = false := by rfl) : DenE X cl W (.Call (.Name x p) (e :: es) [] pos) (cCall n F g) := by
  refine PE.imp (pe_callS G hr hg hm hk hb (fun σ => passAt tk σ) ha hdb he hpl) fun σ H Q ⟨w, S, δ, sat, sl, q⟩ => ⟨w, S, δ, sat, sl, ?_⟩
  refine OkA.mono (OkA.bindE q) (fun vs H1 ⟨w1, rs, S1, l1, s1, r1, q1⟩ => ?_) fun _ _ _ z => z
  split at q1
  · rename_i e
    exact ⟨(Paired.length r1).trans e, w1, S1, rs, s1, r1, q1⟩
  · exact q1.elim
end
end Dn

/-! Dn, part 3: how worlds grow; sequences. -/
namespace Dn
open PySem PySem.Spec PyProof.Rows L2
def LIM : Nat := 1000000
theorem lim_lt {n : Nat} (h : n < LIM) : n < sizeLine := Nat.lt_trans h (by rw [sizeLine_eq]; decide)
section
variable {K : PySem.W.Frag} {cl : Str → Addr} {w w' : Wd} {S S' : Store} {H H' : Hp}
theorem same_new {H : Hp} {p : Addr} {o : HO} (h : H p = none) : Same H (upd H p o) := fun b x e => by
  rw [upd_ne (ne_of_none e h)]
  exact e
/-- a cell's claim where the world grows and the heap changes elsewhere -/
theorem CellOk.stay {a : Addr} {c : Cell} (h : CellOk K cl w H a c) (l : w.le w') (hH : c.live = true → H' a = H a) (h0 : c.live = true → w'.H0 a = none) : CellOk K cl w' H' a c := by
  cases c with
  | lst ws => obtain ⟨z, vs, e, r⟩ := h; exact ⟨h0 rfl, vs, (hH rfl).trans e, WRs.le l r⟩
  | frz d => exact tr_same l.same h
  | obj C fs => obtain ⟨z, dx, vs, e, r⟩ := h; exact ⟨h0 rfl, dx, vs, (hH rfl).trans e, FRs.le l r⟩
  | scr ws => obtain ⟨vs, e, r⟩ := h; exact ⟨vs, l.same.seq e, WRs.le l r⟩
  | exn C fs => exact exnAt_same l.same h
theorem CellOk.at0 {a : Addr} {c : Cell} (h : CellOk K cl w H a c) (l : c.live = true) : w.H0 a = none ∧ ∃ o, H a = some o := by
  cases c with
  | lst ws => obtain ⟨z, vs, e, r⟩ := h; exact ⟨z, _, e⟩
  | frz d => cases l
  | obj C fs => obtain ⟨z, dx, vs, e, r⟩ := h; exact ⟨z, _, e⟩
  | scr ws => cases l
  | exn C fs => cases l
/-- something new that stays as it is -/
theorem Sat.frozen (s : Sat K cl w S H) {p : Addr} (hp : H p = none) (o : HO) : w.le ⟨upd w.H0 p o, w.φ, w.n⟩ ∧ Sat K cl ⟨upd w.H0 p o, w.φ, w.n⟩ S (upd H p o) := by
  have hp0 : w.H0 p = none := Same.free s.same hp
  have l : w.le ⟨upd w.H0 p o, w.φ, w.n⟩ := ⟨same_new hp0, Nat.le_refl _, fun _ _ => rfl⟩
  refine ⟨l, ⟨fun b x e => ?_, s.n, fun k c e => ?_, s.inj⟩⟩
  · by_cases hb : b = p
    · subst hb
      have e : upd w.H0 b o b = some x := e
      rw [upd_same] at e ⊢
      exact e
    · rw [show (⟨upd w.H0 p o, w.φ, w.n⟩ : Wd).H0 = upd w.H0 p o from rfl, upd_ne hb] at e
      rw [upd_ne hb]
      exact s.same b x e
  · refine (s.cell k c e).stay l (fun h => ?_) fun h => ?_
    · obtain ⟨_, o', e'⟩ := (s.cell k c e).at0 h
      exact upd_ne (ne_of_none e' hp)
    · obtain ⟨z, o', e'⟩ := (s.cell k c e).at0 h
      show upd w.H0 p o (w.φ k) = none
      rw [upd_ne (ne_of_none e' hp)]
      exact z
def Wd.push (w : Wd) (p : Addr) : Wd := ⟨w.H0, fun k => if k = w.n then p else w.φ k, w.n + 1⟩
theorem Wd.push_le (w : Wd) (p : Addr) : w.le (w.push p) := ⟨Same.refl _, Nat.le_succ _, fun k h => if_neg (Nat.ne_of_lt h)⟩
theorem Wd.push_at (w : Wd) (p : Addr) : (w.push p).φ w.n = p := if_pos rfl
/-- a new cell -/
theorem Sat.newCell (s : Sat K cl w S H) {p : Addr} {o : HO} {c : Cell} (hp : H p = none) (hc : CellOk K cl (w.push p) (upd H p o) p c) : Sat K cl (w.push p) (S ++ [c]) (upd H p o) := by
  have get : ∀ k d, (S ++ [c])[k]? = some d → (k < S.length ∧ S[k]? = some d) ∨ (k = S.length ∧ d = c) := fun k d e => by
    by_cases hk : k < S.length
    · rw [List.getElem?_append_left hk] at e
      exact .inl ⟨hk, e⟩
    · rw [List.getElem?_append_right (by omega)] at e
      have h0 : k - S.length = 0 := by
        have := (List.getElem?_eq_some_iff.mp e).1
        simp at this
        omega
      rw [h0] at e
      simp at e
      exact .inr ⟨by omega, e.symm⟩
  have ne : ∀ k d, k < S.length → S[k]? = some d → d.live = true → w.φ k ≠ p := fun k d hk e h => by
    obtain ⟨_, o', e'⟩ := (s.cell k d e).at0 h
    exact ne_of_none e' hp
  refine ⟨s.same.trans (same_new hp), by rw [List.length_append, ← s.n]; rfl, fun k d e => ?_, fun i j x y e1 e2 h1 h2 h => ?_⟩
  · rcases get k d e with ⟨hk, e'⟩ | ⟨hk, hd⟩
    · have hφ : (w.push p).φ k = w.φ k := (w.push_le p).φ k (by rw [s.n]; exact hk)
      rw [hφ]
      refine (s.cell k d e').stay (w.push_le p) (fun h => upd_ne (ne k d hk e' h)) fun h => ?_
      exact ((s.cell k d e').at0 h).1
    · subst hd
      have hφ : (w.push p).φ k = p := by rw [hk, ← s.n]; exact w.push_at p
      rw [hφ]
      exact hc
  · rcases get i x e1 with ⟨hi, f1⟩ | ⟨hi, f1⟩ <;> rcases get j y e2 with ⟨hj, f2⟩ | ⟨hj, f2⟩
    · rw [(w.push_le p).φ i (by rw [s.n]; exact hi), (w.push_le p).φ j (by rw [s.n]; exact hj)] at h
      exact s.inj i j x y f1 f2 h1 h2 h
    · rw [(w.push_le p).φ i (by rw [s.n]; exact hi), hj, ← s.n, w.push_at] at h
      exact absurd h (ne i x hi f1 h1)
    · rw [(w.push_le p).φ j (by rw [s.n]; exact hj), hi, ← s.n, w.push_at] at h
      exact absurd h.symm (ne j y hj f2 h2)
    · omega
theorem Sat.newLst (s : Sat K cl w S H) {p : Addr} {vs : List V} {ws : List Wv} (hp : H p = none) (r : WRs K w vs ws) : Sat K cl (w.push p) (S ++ [.lst ws]) (upd H p (.lst vs)) :=
  s.newCell hp ⟨Same.free s.same hp, vs, upd_same, WRs.le (w.push_le p) r⟩
/-- a cell changed -/
theorem Sat.setCell (s : Sat K cl w S H) {k : Nat} {c c' : Cell} {o : HO} (e : S[k]? = some c) (lc : c.live = true) (hc : CellOk K cl w (upd H (w.φ k) o) (w.φ k) c') (lc' : c'.live = true) : Sat K cl w (S.set k c') (upd H (w.φ k) o) := by
  have hk := (List.getElem?_eq_some_iff.mp e).1
  obtain ⟨z, o', e'⟩ := (s.cell k c e).at0 lc
  have old : ∀ j d, (S.set k c')[j]? = some d → (j = k ∧ d = c') ∨ (j ≠ k ∧ S[j]? = some d) := fun j d q => by
    by_cases hj : j = k
    · subst hj
      rw [List.getElem?_set_self hk] at q
      exact .inl ⟨rfl, (Option.some.inj q).symm⟩
    · rw [List.getElem?_set_ne (Ne.symm hj)] at q
      exact .inr ⟨hj, q⟩
  refine ⟨fun b x q => ?_, by rw [List.length_set]; exact s.n, fun j d q => ?_, fun i j x y e1 e2 h1 h2 h => ?_⟩
  · have hb : b ≠ w.φ k := fun q' => by rw [q', z] at q; cases q
    rw [upd_ne hb]
    exact s.same b x q
  · rcases old j d q with ⟨rfl, rfl⟩ | ⟨hj, q'⟩
    · exact hc
    · refine (s.cell j d q').stay (Wd.le.refl _) (fun h => ?_) fun h => ((s.cell j d q').at0 h).1
      exact upd_ne fun q2 => hj (s.inj j k d c q' e h lc q2)
  · rcases old i x e1 with ⟨a1, b1⟩ | ⟨hi, f1⟩ <;> rcases old j y e2 with ⟨a2, b2⟩ | ⟨hj, f2⟩
    · omega
    · subst a1
      exact s.inj i j c y e f2 lc h2 h
    · subst a2
      exact s.inj i j x c f1 e h1 lc h
    · exact s.inj i j x y f1 f2 h1 h2 h

/-! ### sequences -/
def seqL (S : Store) : Wv → Option (List Wv)
  | .t (.list ds) => some (ds.map .t)
  | .c k => match S[k]? with
    | some (.lst ws) => some ws
    | some (.scr ns) => some (scrW ns)
    | some (.frz (.list ds)) => some (ds.map .t)
    | _ => none
  | _ => none
def seqT : Wv → Option (List D)
  | .t (.tuple ds) => some ds
  | _ => none
/-- the items of a list or tuple -/
def seqA (S : Store) (r : Wv) : Option (List Wv) := match seqL S r with
  | some ws => some ws
  | none => (seqT r).map (·.map .t)
theorem wrs_of : ∀ {vs : List V} {ds : List D}, TrAll K w.H0 vs ds → WRs K w vs (ds.map .t)
  | _, _, .nil => .nil
  | _, _, .cons h k => .cons h (wrs_of k)
theorem of_wrs : ∀ {vs : List V} {ds : List D}, WRs K w vs (ds.map .t) → TrAll K w.H0 vs ds
  | _, [], h => by cases h; exact .nil
  | _, d :: ds, h => by
    cases h with
    | cons h k => exact .cons h (of_wrs k)
theorem seqL_ok (s : Sat K cl w S H) {v : V} {r : Wv} {ws : List Wv} (h : WR K w v r) (e : seqL S r = some ws) : ∃ a vs, v = .ref a ∧ SqL K H a vs ∧ WRs K w vs ws := by
  cases r with
  | t d =>
    cases d <;> simp [seqL] at e
    rename_i ds
    subst e
    cases h with
    | lst h1 h2 => exact ⟨_, _, rfl, SqL.of (s.same _ _ h1), wrs_of h2⟩
  | c k =>
    obtain ⟨hk, rfl⟩ := h
    have hk' : k < S.length := by rw [← s.n]; exact hk
    have ec : S[k]? = some S[k] := List.getElem?_eq_getElem hk'
    have ck := s.cell k _ ec
    unfold seqL at e
    dsimp only at e
    rw [ec] at e
    cases hc : S[k] with
    | lst ws' =>
      rw [hc] at e ck
      simp at e
      subst e
      obtain ⟨_, vs, e1, r1⟩ := ck
      exact ⟨_, vs, rfl, SqL.of e1, r1⟩
    | frz d =>
      rw [hc] at e ck
      cases d <;> simp at e
      subst e
      cases ck with
      | lst h1 h2 => exact ⟨_, _, rfl, SqL.of (s.same _ _ h1), wrs_of h2⟩
    | obj C fs => rw [hc] at e; simp at e
    | exn C fs => rw [hc] at e; simp at e
    | scr ws' =>
      rw [hc] at e ck
      simp at e
      subst e
      obtain ⟨vs, e1, r1⟩ := ck
      exact ⟨_, vs, rfl, s.same.seq e1, r1⟩
theorem seqT_ok (s : Sat K cl w S H) {v : V} {r : Wv} {ds : List D} (h : WR K w v r) (e : seqT r = some ds) : ∃ a vs, v = .ref a ∧ SqT K H a vs ∧ TrAll K w.H0 vs ds := by
  cases r with
  | t d =>
    cases d <;> simp [seqT] at e
    subst e
    cases h with
    | tup h1 h2 => exact ⟨_, _, rfl, seqT_same s.same h1, h2⟩
  | c k => simp [seqT] at e
theorem seqA_ok (s : Sat K cl w S H) {v : V} {r : Wv} {ws : List Wv} (h : WR K w v r) (e : seqA S r = some ws) : ∃ a vs, v = .ref a ∧ (SqL K H a vs ∨ SqT K H a vs) ∧ WRs K w vs ws := by
  unfold seqA at e
  cases q : seqL S r with
  | some xs =>
    rw [q] at e
    simp at e
    subst e
    obtain ⟨a, vs, e1, e2, e3⟩ := seqL_ok s h q
    exact ⟨a, vs, e1, .inl e2, e3⟩
  | none =>
    rw [q] at e
    simp at e
    obtain ⟨ds, e1, e2⟩ := e
    subst e2
    obtain ⟨a, vs, f1, f2, f3⟩ := seqT_ok s h e1
    exact ⟨a, vs, f1, .inr f2, wrs_of f3⟩
theorem WRs.get : ∀ {vs : List V} {ws : List Wv} {i : Nat} {r : Wv}, WRs K w vs ws → ws[i]? = some r → ∃ v, vs[i]? = some v ∧ WR K w v r
  | _, _, _, _, .nil, e => by simp at e
  | _, _, 0, _, .cons h _, e => by simp at e; subst e; exact ⟨_, rfl, h⟩
  | _, _, i + 1, _, .cons _ k, e => by
    obtain ⟨v, h1, h2⟩ := WRs.get (i := i) k (by simpa using e)
    exact ⟨v, by simpa using h1, h2⟩
theorem WRs.at {vs : List V} {ws : List Wv} {i : Int} {r : Wv} (h : WRs K w vs ws) (e : atI ws i = some r) : ∃ v, atI vs i = some v ∧ WR K w v r := by
  unfold atI at e ⊢
  rw [Paired.length h]
  cases q : ixN ws.length i with
  | none => rw [q] at e; simp at e
  | some j =>
    rw [q] at e
    exact h.get e
theorem WRs.append : ∀ {vs us : List V} {ws rs : List Wv}, WRs K w vs ws → WRs K w us rs → WRs K w (vs ++ us) (ws ++ rs)
  | _, _, _, _, .nil, s => s
  | _, _, _, _, .cons r t, s => .cons r (WRs.append t s)
theorem WRs.drop : ∀ {vs : List V} {ws : List Wv} (n : Nat), WRs K w vs ws → WRs K w (vs.drop n) (ws.drop n)
  | _, _, 0, r => r
  | _, _, _ + 1, .nil => .nil
  | _, _, n + 1, .cons _ t => WRs.drop n t
theorem WRs.take : ∀ {vs : List V} {ws : List Wv} (n : Nat), WRs K w vs ws → WRs K w (vs.take n) (ws.take n)
  | _, _, 0, _ => .nil
  | _, _, _ + 1, .nil => .nil
  | _, _, n + 1, .cons r t => .cons r (WRs.take n t)
theorem WRs.set {v : V} {r : Wv} (h : WR K w v r) : ∀ {vs : List V} {ws : List Wv} (i : Nat), WRs K w vs ws → WRs K w (vs.set i v) (ws.set i r)
  | _, _, _, .nil => .nil
  | _, _, 0, .cons _ t => .cons h t
  | _, _, i + 1, .cons q t => .cons q (WRs.set h i t)
theorem WRs.eraseIdx : ∀ {vs : List V} {ws : List Wv} (i : Nat), WRs K w vs ws → WRs K w (vs.eraseIdx i) (ws.eraseIdx i)
  | _, _, _, .nil => .nil
  | _, _, 0, .cons _ t => t
  | _, _, i + 1, .cons q t => .cons q (WRs.eraseIdx i t)
theorem WRs.flat {vs : List V} {ws : List Wv} (h : WRs K w vs ws) : ∀ n, WRs K w (List.replicate n vs).flatten (List.replicate n ws).flatten
  | 0 => .nil
  | n + 1 => by
    rw [List.replicate_succ, List.replicate_succ, List.flatten_cons, List.flatten_cons]
    exact h.append (h.flat n)
/-- the same part of any list -/
def cutA {α : Type} (xs : List α) (lo hi : Option Int) : List α := (xs.drop (HT.sIx xs.length 0 lo)).take (HT.sIx xs.length xs.length hi - HT.sIx xs.length 0 lo)
theorem cutA_V (xs : List V) (lo hi : Option Int) : cutV xs lo hi = cutA xs lo hi := rfl
theorem WRs.cut {vs : List V} {ws : List Wv} (h : WRs K w vs ws) (lo hi : Option Int) : WRs K w (cutA vs lo hi) (cutA ws lo hi) := by
  unfold cutA
  rw [Paired.length h]
  exact (h.drop _).take _
theorem cutA_map {α β : Type} (f : α → β) (xs : List α) (lo hi : Option Int) : cutA (xs.map f) lo hi = (cutA xs lo hi).map f := by
  unfold cutA
  rw [List.length_map, List.map_take, List.map_drop]
/-- all trees -/
def treesOf : List Wv → Option (List D)
  | [] => some []
  | .t d :: r => (treesOf r).map (d :: ·)
  | .c _ :: _ => none
theorem treesOf_map (ds : List D) : treesOf (ds.map .t) = some ds := by
  induction ds with
  | nil => rfl
  | cons d ds ih => show (treesOf (ds.map .t)).map (d :: ·) = _; rw [ih]; rfl
theorem treesOf_ok : ∀ {ws : List Wv} {ds : List D}, treesOf ws = some ds → ws = ds.map .t
  | [], _, h => by simp [treesOf] at h; subst h; rfl
  | .t d :: r, _, h => by
    simp [treesOf] at h
    obtain ⟨es, h1, h2⟩ := h
    subst h2
    rw [treesOf_ok h1]
    rfl
  | .c _ :: _, _, h => by simp [treesOf] at h

/-! ### what is answered -/
theorem OkE.ret {r : Wv} {Q : VK} {E : XK} {v : V} (q : OkE K cl w (.ok r S) Q E) (s : Sat K cl w S H) (h : WR K w v r) : Q v H := q w H v (Wd.le.refl _) s h
theorem OkE.retLst {ws : List Wv} {Q : VK} {E : XK} {vs : List V} {p : Addr} (q : OkE K cl w (.ok (.c S.length) (S ++ [.lst ws])) Q E) (s : Sat K cl w S H) (hp : H p = none) (r : WRs K w vs ws) : Q (.ref p) (upd H p (.lst vs)) :=
  q (w.push p) _ _ (w.push_le p) (s.newLst hp r) ⟨by rw [← s.n]; exact Nat.lt_succ_self _, by rw [← s.n, w.push_at]⟩
theorem OkE.retTree {ds : List D} {Q : VK} {E : XK} {vs : List V} {p : Addr} (q : OkE K cl w (.ok (.t (.list ds)) S) Q E) (s : Sat K cl w S H) (hp : H p = none) (r : TrAll K w.H0 vs ds) : Q (.ref p) (upd H p (.lst vs)) := by
  obtain ⟨l, s'⟩ := s.frozen hp (.lst vs)
  exact q _ _ _ l s' (.lst upd_same (trAll_same l.same r))
theorem OkE.retTup {ds : List D} {Q : VK} {E : XK} {vs : List V} {p : Addr} (q : OkE K cl w (.ok (.t (.tuple ds)) S) Q E) (s : Sat K cl w S H) (hp : H p = none) (r : TrAll K w.H0 vs ds) : Q (.ref p) (upd H p (.tup vs)) := by
  obtain ⟨l, s'⟩ := s.frozen hp (.tup vs)
  exact q _ _ _ l s' (.tup (SqT.of upd_same) (trAll_same l.same r))
end
end Dn

/-! Dn, part 4: operators, comparisons, subscripts, displays, calls of built-ins. -/
namespace Dn
open PySem PySem.Spec PyProof.Rows L2
section
variable {K : PySem.W.Frag} {cl : Str → Addr} {w : Wd} {S : Store} {H : Hp}
/-- a tracked list's items -/
def seqM (S : Store) : Wv → Option (List Wv)
  | .t (.list ds) => some (ds.map .t)
  | .c k => match S[k]? with
    | some (.lst ws) => some ws
    | some (.frz (.list ds)) => some (ds.map .t)
    | _ => none
  | _ => none
theorem seqM_ok (s : Sat K cl w S H) {v : V} {r : Wv} {ws : List Wv} (h : WR K w v r) (e : seqM S r = some ws) : ∃ a vs, v = .ref a ∧ H a = some (.lst vs) ∧ WRs K w vs ws := by
  cases r with
  | t d =>
    cases d <;> simp [seqM] at e
    rename_i ds
    subst e
    cases h with
    | lst h1 h2 => exact ⟨_, _, rfl, s.same _ _ h1, wrs_of h2⟩
  | c k =>
    obtain ⟨hk, rfl⟩ := h
    have hk' : k < S.length := by rw [← s.n]; exact hk
    have ec : S[k]? = some S[k] := List.getElem?_eq_getElem hk'
    have ck := s.cell k _ ec
    unfold seqM at e
    dsimp only at e
    rw [ec] at e
    cases hc : S[k] with
    | lst ws' =>
      rw [hc] at e ck
      simp at e
      subst e
      obtain ⟨_, vs, e1, r1⟩ := ck
      exact ⟨_, vs, rfl, e1, r1⟩
    | frz d =>
      rw [hc] at e ck
      cases d <;> simp at e
      subst e
      cases ck with
      | lst h1 h2 => exact ⟨_, _, rfl, s.same _ _ h1, wrs_of h2⟩
    | obj C fs => rw [hc] at e; simp at e
    | exn C fs => rw [hc] at e; simp at e
    | scr ws' => rw [hc] at e; simp at e
/-- a value seen as a tree, cells of trees too -/
def view (S : Store) : Wv → Option D
  | .t d => some d
  | .c k => match S[k]? with
    | some (.lst ws) => (treesOf ws).map .list
    | some (.frz d) => some d
    | _ => none
theorem dpAll_of : ∀ {vs : List V} {ds : List D}, TrAll K w.H0 vs ds → Same w.H0 H → DpAll K H vs ds := fun h e => (trAll_same e h).dp
theorem view_ok (s : Sat K cl w S H) {v : V} {r : Wv} {d : D} (h : WR K w v r) (e : view S r = some d) : Tr K H v d := by
  cases r with
  | t d' =>
    simp [view] at e
    subst e
    exact tr_same s.same h
  | c k =>
    obtain ⟨hk, rfl⟩ := h
    have hk' : k < S.length := by rw [← s.n]; exact hk
    have ec : S[k]? = some S[k] := List.getElem?_eq_getElem hk'
    have ck := s.cell k _ ec
    unfold view at e
    dsimp only at e
    rw [ec] at e
    cases hc : S[k] with
    | lst ws' =>
      rw [hc] at e ck
      simp at e
      obtain ⟨ds, e1, e2⟩ := e
      subst e2
      obtain ⟨_, vs, e3, r1⟩ := ck
      rw [treesOf_ok e1] at r1
      exact .lst e3 (trAll_same s.same (of_wrs r1))
    | frz d' =>
      rw [hc] at e ck
      simp at e
      subst e
      exact tr_same s.same ck
    | obj C fs => rw [hc] at e; simp at e
    | exn C fs => rw [hc] at e; simp at e
    | scr ws' => rw [hc] at e; simp at e
end

/-! ### arithmetic -/
def okI (i : Int) (S : Store) : Out Wv := .ok (.t (.int i)) S
def okB (b : Bool) (S : Store) : Out Wv := .ok (.t (.bool b)) S
/-- + -/
def gAdd (p q : Wv) (S : Store) : Out Wv := match p, q with
  | .t (.int i), .t (.int j) => okI (i + j) S
  | .t (.str a), .t (.str b) => if a.length + b.length < LIM then .ok (.t (.str (a ++ b))) S else .stuck
  | .t (.tuple a), .t (.tuple b) => if a.length + b.length < LIM then .ok (.t (.tuple (a ++ b))) S else .stuck
  | p, q => match view S p, view S q with
    | some (.list a), some (.list b) => if a.length + b.length < LIM then .ok (.t (.list (a ++ b))) S else .stuck
    | _, _ => .stuck
def gAddC (p q : Wv) (S : Store) : Out Wv := match seqM S p, seqM S q with
  | some a, some b => if a.length + b.length < LIM then .ok (.c S.length) (S ++ [.lst (a ++ b)]) else .stuck
  | _, _ => .stuck
def OpR.or' {X : Cx} {f : Value → Value → Sem Value} {r r' : R2} (h : OpR X f r) (h' : OpR X f r') : OpR X f (fun x y H Q => r x y H Q ∨ r' x y H Q) := fun pins s σ H x y v u Q I rx ry q =>
  q.elim (h pins s σ H x y v u Q I rx ry) (h' pins s σ H x y v u Q I rx ry)
theorem Tr.asInt {K : PySem.W.Frag} {H : Hp} {v : V} {i : Int} (h : Tr K H v (.int i)) : v = .int i := by cases h; rfl
theorem Tr.asStr {K : PySem.W.Frag} {H : Hp} {v : V} {i : Str} (h : Tr K H v (.str i)) : v = .str i := by cases h; rfl
theorem Tr.asBool {K : PySem.W.Frag} {H : Hp} {v : V} {i : Bool} (h : Tr K H v (.bool i)) : v = .bl i := by cases h; rfl
def rAddAll (K : PySem.W.Frag) : R2 := fun x y H Q => (rI0 (fun i j => .int (i + j)) x y H Q ∨ ∃ i j, x = .str i ∧ y = .str j ∧ i.length + j.length ≤ sizeLine ∧ Q (.str (i ++ j)) H) ∨ (rCatA K x y H Q ∨ rCat x y H Q)
theorem op_addAll {X : Cx} : OpR X (binaryOp .Add) (rAddAll X.K) := OpR.or' (OpR.or' op_add op_add_str) (OpR.or' op_catA op_cat)
theorem view_list {K : PySem.W.Frag} {cl : Str → Addr} {w : Wd} {S : Store} {H : Hp} (s : Sat K cl w S H) {v : V} {r : Wv} {ds : List D} (h : WR K w v r) (e : view S r = some (.list ds)) : ∃ a vs, v = .ref a ∧ H a = some (.lst vs) ∧ TrAll K w.H0 vs ds := by
  cases r with
  | t d' =>
    simp [view] at e
    subst e
    cases h with
    | lst h1 h2 => exact ⟨_, _, rfl, s.same _ _ h1, h2⟩
  | c k =>
    obtain ⟨hk, rfl⟩ := h
    have hk' : k < S.length := by rw [← s.n]; exact hk
    have ec : S[k]? = some S[k] := List.getElem?_eq_getElem hk'
    have ck := s.cell k _ ec
    unfold view at e
    dsimp only at e
    rw [ec] at e
    cases hc : S[k] with
    | lst ws' =>
      rw [hc] at e ck
      simp at e
      obtain ⟨_, vs, e3, r1⟩ := ck
      rw [treesOf_ok e] at r1
      exact ⟨_, vs, rfl, e3, of_wrs r1⟩
    | frz d' =>
      rw [hc] at e ck
      simp at e
      subst e
      cases ck with
      | lst h1 h2 => exact ⟨_, _, rfl, s.same _ _ h1, h2⟩
    | obj C fs => rw [hc] at e; simp at e
    | exn C fs => rw [hc] at e; simp at e
    | scr ws' => rw [hc] at e; simp at e
theorem ok_add {K : PySem.W.Frag} {cl : Str → Addr} : Op2 K cl gAdd (rAddAll K) := by
  intro w S H x y p q Q E s hx hy h
  unfold gAdd at h
  split at h
  · cases Tr.asInt hx; cases Tr.asInt hy
    exact .inl (.inl ⟨_, _, rfl, rfl, h.ret s (Tr.int _)⟩)
  · cases Tr.asStr hx; cases Tr.asStr hy
    split at h
    · rename_i hl
      exact .inl (.inr ⟨_, _, rfl, rfl, Nat.le_of_lt (lim_lt hl), h.ret s (Tr.str _)⟩)
    · exact h.elim
  · split at h
    · rename_i a b hl
      obtain ⟨a1, xs, rfl, h1, h2⟩ := seqT_ok s hx rfl
      obtain ⟨b1, ys, rfl, k1, k2⟩ := seqT_ok s hy rfl
      refine .inr (.inl ⟨a1, b1, xs, ys, rfl, rfl, h1, k1, by rw [h2.length, k2.length]; exact Nat.le_of_lt (lim_lt hl), fun e => ?_, fun _ e => ?_, fun _ _ p hp => ?_⟩)
      · subst e
        cases h2
        rw [List.nil_append] at h
        exact h.ret s hy
      · subst e
        cases k2
        rw [List.append_nil] at h
        exact h.ret s hx
      · exact h.retTup s hp (h2.append k2)
    · exact h.elim
  · split at h
    · rename_i a b e1 e2
      split at h
      · rename_i hl
        obtain ⟨a1, xs, rfl, h1, h2⟩ := view_list s hx e1
        obtain ⟨b1, ys, rfl, k1, k2⟩ := view_list s hy e2
        refine .inr (.inr ⟨a1, b1, xs, ys, rfl, rfl, h1, k1, by rw [h2.length, k2.length]; exact Nat.le_of_lt (lim_lt hl), fun p hp => ?_⟩)
        exact h.retTree s hp (h2.append k2)
      · exact h.elim
    · exact h.elim
theorem ok_addC {K : PySem.W.Frag} {cl : Str → Addr} : Op2 K cl gAddC (rAddAll K) := by
  intro w S H x y p q Q E s hx hy h
  unfold gAddC at h
  split at h
  · rename_i a b e1 e2
    split at h
    · rename_i hl
      obtain ⟨a1, xs, rfl, h1, h2⟩ := seqM_ok s hx e1
      obtain ⟨b1, ys, rfl, k1, k2⟩ := seqM_ok s hy e2
      refine .inr (.inr ⟨a1, b1, xs, ys, rfl, rfl, h1, k1, by rw [Paired.length h2, Paired.length k2]; exact Nat.le_of_lt (lim_lt hl), fun p hp => ?_⟩)
      exact h.retLst s hp (h2.append k2)
    · exact h.elim
  · exact h.elim
/-- two numbers -/
def g2I (f : Int → Int → Store → Out Wv) (p q : Wv) (S : Store) : Out Wv := match p, q with
  | .t (.int i), .t (.int j) => f i j S
  | _, _ => .stuck
def gSub : Wv → Wv → Store → Out Wv := g2I fun i j => okI (i - j)
def gDiv : Wv → Wv → Store → Out Wv := g2I fun i j S => if j ≠ 0 ∧ j.natAbs.log2 < 9000 then okI (i.fdiv j) S else .stuck
def gMod : Wv → Wv → Store → Out Wv := g2I fun i j S => if j ≠ 0 then okI (i.fmod j) S else .stuck
def gPow : Wv → Wv → Store → Out Wv := g2I fun i j S => if 0 ≤ j ∧ j ≤ 1000000 ∧ i.natAbs < 2 ^ 64 then okI (i ^ j.toNat) S else .stuck
def gLt : Wv → Wv → Store → Out Wv := g2I fun i j => okB (decide (i < j))
def gLe : Wv → Wv → Store → Out Wv := g2I fun i j => okB (decide (i ≤ j))
def gGt : Wv → Wv → Store → Out Wv := g2I fun i j => okB (decide (j < i))
def gGe : Wv → Wv → Store → Out Wv := g2I fun i j => okB (decide (j ≤ i))
theorem ok_2I {K : PySem.W.Frag} {cl : Str → Addr} {f : Int → Int → Store → Out Wv} {C : Int → Int → Prop} {g : Int → Int → V} (hf : ∀ (w : Wd) S H i j Q E, Sat K cl w S H → OkE K cl w (f i j S) Q E → C i j ∧ Q (g i j) H) : Op2 K cl (g2I f) (rI C g) := by
  intro w S H x y p q Q E s hx hy h
  unfold g2I at h
  split at h
  · cases Tr.asInt hx; cases Tr.asInt hy
    obtain ⟨c, q⟩ := hf w S H _ _ Q E s h
    exact ⟨_, _, rfl, rfl, c, q⟩
  · exact h.elim
theorem rI0_I {g : Int → Int → V} : ∀ {x y H Q}, rI (fun _ _ => True) g x y H Q → rI0 g x y H Q := fun ⟨i, j, a, b, _, q⟩ => ⟨i, j, a, b, q⟩
theorem Op2.imp {K : PySem.W.Frag} {cl : Str → Addr} {g : Wv → Wv → Store → Out Wv} {r r' : R2} (h : Op2 K cl g r) (k : ∀ x y H Q, r x y H Q → r' x y H Q) : Op2 K cl g r' := fun w S H x y p q Q E s hx hy o => k _ _ _ _ (h w S H x y p q Q E s hx hy o)
theorem ok_sub {K : PySem.W.Frag} {cl : Str → Addr} : Op2 K cl gSub (rI0 fun i j => .int (i - j)) := Op2.imp (ok_2I fun w S H i j Q E s h => ⟨trivial, h.ret s (Tr.int _)⟩) fun _ _ _ _ => rI0_I
theorem op_div {X : Cx} : OpR X (binaryOp .FloorDiv) (rI (fun _ j => j ≠ 0 ∧ j.natAbs.log2 < 9000) fun i j => .int (i.fdiv j)) := opI fun _ _ _ _ _ _ _ hc q => floordiv_int hc.1 q (.inl (PyProof.noPylong_of_log2 hc.2))
theorem ok_div {K : PySem.W.Frag} {cl : Str → Addr} : Op2 K cl gDiv (rI (fun _ j => j ≠ 0 ∧ j.natAbs.log2 < 9000) fun i j => .int (i.fdiv j)) := ok_2I fun w S H i j Q E s h => by
  split at h
  · rename_i c; exact ⟨c, h.ret s (Tr.int _)⟩
  · exact h.elim
theorem ok_mod {K : PySem.W.Frag} {cl : Str → Addr} : Op2 K cl gMod (rI (fun _ j => j ≠ 0) fun i j => .int (i.fmod j)) := ok_2I fun w S H i j Q E s h => by
  split at h
  · rename_i c; exact ⟨c, h.ret s (Tr.int _)⟩
  · exact h.elim
theorem ok_pow {K : PySem.W.Frag} {cl : Str → Addr} : Op2 K cl gPow (rI CPow fun i j => .int (i ^ j.toNat)) := ok_2I fun w S H i j Q E s h => by
  split at h
  · rename_i c; exact ⟨c, h.ret s (Tr.int _)⟩
  · exact h.elim
theorem ok_lt {K : PySem.W.Frag} {cl : Str → Addr} : Op2 K cl gLt (rI0 fun i j => .bl (decide (i < j))) := Op2.imp (ok_2I fun w S H i j Q E s h => ⟨trivial, h.ret s (Tr.bl _)⟩) fun _ _ _ _ => rI0_I
theorem ok_le {K : PySem.W.Frag} {cl : Str → Addr} : Op2 K cl gLe (rI0 fun i j => .bl (decide (i ≤ j))) := Op2.imp (ok_2I fun w S H i j Q E s h => ⟨trivial, h.ret s (Tr.bl _)⟩) fun _ _ _ _ => rI0_I
theorem ok_gt {K : PySem.W.Frag} {cl : Str → Addr} : Op2 K cl gGt (rI0 fun i j => .bl (decide (j < i))) := Op2.imp (ok_2I fun w S H i j Q E s h => ⟨trivial, h.ret s (Tr.bl _)⟩) fun _ _ _ _ => rI0_I
theorem ok_ge {K : PySem.W.Frag} {cl : Str → Addr} : Op2 K cl gGe (rI0 fun i j => .bl (decide (j ≤ i))) := Op2.imp (ok_2I fun w S H i j Q E s h => ⟨trivial, h.ret s (Tr.bl _)⟩) fun _ _ _ _ => rI0_I
/-- *: numbers; a list by a number -/
def gMul (p q : Wv) (S : Store) : Out Wv := match p, q with
  | .t (.int i), .t (.int j) => if i.natAbs.log2 + j.natAbs.log2 < 100000000 then okI (i * j) S else .stuck
  | .t (.tuple a), .t (.int k) => if a ≠ [] ∧ 2 ≤ k ∧ k ≤ 1000 ∧ a.length ≤ 1000 then .ok (.t (.tuple (List.replicate k.toNat a).flatten)) S else .stuck
  | p, .t (.int k) => match view S p with
    | some (.list a) => if a.length * k.toNat < LIM ∧ -1000000 < k ∧ k < 1000000 then .ok (.t (.list (List.replicate k.toNat a).flatten)) S else .stuck
    | _ => .stuck
  | _, _ => .stuck
def gMulC (p q : Wv) (S : Store) : Out Wv := match q with
  | .t (.int k) => match seqM S p with
    | some a => if a.length * k.toNat < LIM ∧ -1000000 < k ∧ k < 1000000 then .ok (.c S.length) (S ++ [.lst (List.replicate k.toNat a).flatten]) else .stuck
    | _ => .stuck
  | _ => .stuck
def rMulAll (K : PySem.W.Frag) : R2 := fun x y H Q => (rI CMulX (fun i j => .int (i * j)) x y H Q ∨ rRep x y H Q) ∨ rRepT K x y H Q
theorem mulX_of {i j : Int} (h : i.natAbs.log2 + j.natAbs.log2 < 100000000) : CMulX i j := mulx_ok (a := i.natAbs.log2 + 1) (b := j.natAbs.log2 + 1) Nat.lt_log2_self Nat.lt_log2_self (by omega)
theorem op_mulAll {X : Cx} : OpR X (binaryOp .Mult) (rMulAll X.K) := OpR.or' (OpR.or' op_mulX op_rep) op_repT
theorem TrAll.flat {K : PySem.W.Frag} {H : Hp} {vs : List V} {ds : List D} (h : TrAll K H vs ds) : ∀ n, TrAll K H (List.replicate n vs).flatten (List.replicate n ds).flatten
  | 0 => .nil
  | n + 1 => by
    rw [List.replicate_succ, List.replicate_succ, List.flatten_cons, List.flatten_cons]
    exact h.append (h.flat n)
theorem ok_mul {K : PySem.W.Frag} {cl : Str → Addr} : Op2 K cl gMul (rMulAll K) := by
  intro w S H x y p q Q E s hx hy h
  unfold gMul at h
  split at h
  · cases Tr.asInt hx; cases Tr.asInt hy
    split at h
    · rename_i c; exact .inl (.inl ⟨_, _, rfl, rfl, mulX_of c, h.ret s (Tr.int _)⟩)
    · exact h.elim
  · cases Tr.asInt hy
    split at h
    · rename_i ds k c
      obtain ⟨a1, xs, rfl, h1, h2⟩ := seqT_ok s hx rfl
      exact .inr ⟨a1, k, xs, rfl, rfl, h1, fun e => c.1 (by subst e; cases h2; rfl), c.2.1, c.2.2.1, by rw [h2.length]; exact c.2.2.2, fun p hp => h.retTup s hp (h2.flat _)⟩
    · exact h.elim
  · cases Tr.asInt hy
    split at h
    · rename_i a e1
      split at h
      · rename_i hl
        obtain ⟨a1, xs, rfl, h1, h2⟩ := view_list s hx e1
        refine .inl (.inr ⟨a1, _, xs, rfl, rfl, h1, by omega, by omega, by rw [h2.length]; exact Nat.le_of_lt (lim_lt hl.1), fun p hp => ?_⟩)
        exact h.retTree s hp (h2.flat _)
      · exact h.elim
    · exact h.elim
  · exact h.elim
theorem ok_mulC {K : PySem.W.Frag} {cl : Str → Addr} : Op2 K cl gMulC (rMulAll K) := by
  intro w S H x y p q Q E s hx hy h
  unfold gMulC at h
  split at h
  · cases Tr.asInt hy
    split at h
    · rename_i a e1
      split at h
      · rename_i hl
        obtain ⟨a1, xs, rfl, h1, h2⟩ := seqM_ok s hx e1
        refine .inl (.inr ⟨a1, _, xs, rfl, rfl, h1, by omega, by omega, by rw [Paired.length h2]; exact Nat.le_of_lt (lim_lt hl.1), fun p hp => ?_⟩)
        exact h.retLst s hp (h2.flat _)
      · exact h.elim
    · exact h.elim
  · exact h.elim
def gNeg (p : Wv) (S : Store) : Out Wv := match p with
  | .t (.int i) => okI (-i) S
  | _ => .stuck
theorem ok_neg {K : PySem.W.Frag} {cl : Str → Addr} : Op1 K cl gNeg (rU fun i => .int (-i)) := by
  intro w S H x p Q E s hx h
  unfold gNeg at h
  split at h
  · cases Tr.asInt hx
    exact ⟨_, rfl, h.ret s (Tr.int _)⟩
  · exact h.elim

/-! ### == -/
def gEqB (neg : Bool) (p q : Wv) (S : Store) : Out Wv := match view S p, view S q with
  | some d, some e => if SeqAt.shaped d = true ∧ SeqAt.shaped e = true then okB (if neg then !PyData.eqv d e else PyData.eqv d e) S else .stuck
  | _, _ => .stuck
abbrev gEq := gEqB false
abbrev gNe := gEqB true
theorem ok_eq {K : PySem.W.Frag} {cl : Str → Addr} : Op2 K cl gEq (rEqD K) := by
  intro w S H x y p q Q E s hx hy h
  unfold gEq gEqB at h
  split at h
  · rename_i d e e1 e2
    split at h
    · rename_i c
      exact ⟨d, e, (view_ok s hx e1).dp, (view_ok s hy e2).dp, c.1, c.2, h.ret s (Tr.bl _)⟩
    · exact h.elim
  · exact h.elim
theorem ok_ne {K : PySem.W.Frag} {cl : Str → Addr} : Op2 K cl gNe (rNeD K) := by
  intro w S H x y p q Q E s hx hy h
  unfold gNe gEqB at h
  split at h
  · rename_i d e e1 e2
    split at h
    · rename_i c
      exact ⟨d, e, (view_ok s hx e1).dp, (view_ok s hy e2).dp, c.1, c.2, h.ret s (Tr.bl _)⟩
    · exact h.elim
  · exact h.elim
/-- is None -/
def isNon : Wv → Bool
  | .t .none => true
  | _ => false
def gIsN (p q : Wv) (S : Store) : Out Wv := match q with
  | .t .none => okB (isNon p) S
  | _ => .stuck
def gNotN (p q : Wv) (S : Store) : Out Wv := match q with
  | .t .none => okB (!isNon p) S
  | _ => .stuck
theorem isNon_ok {K : PySem.W.Frag} {w : Wd} {x : V} {p : Wv} (h : WR K w x p) : decide (x = V.non) = isNon p := by
  cases p with
  | t d =>
    cases d with
    | none => cases h; rfl
    | bool b => cases h; rfl
    | int b => cases h; rfl
    | str b => cases h; rfl
    | list b => cases h; rfl
    | tuple b => cases h; rfl
    | dict b => cases h
  | c k => obtain ⟨_, rfl⟩ := h; rfl
theorem ok_isN {K : PySem.W.Frag} {cl : Str → Addr} : Op2 K cl gIsN (fun x y H Q => y = .non ∧ Q (.bl (decide (x = .non))) H) := by
  intro w S H x y p q Q E s hx hy h
  unfold gIsN at h
  split at h
  · cases hy
    refine ⟨rfl, ?_⟩
    rw [isNon_ok hx]
    exact h.ret s (Tr.bl _)
  · exact h.elim
theorem ok_notN {K : PySem.W.Frag} {cl : Str → Addr} : Op2 K cl gNotN (fun x y H Q => y = .non ∧ Q (.bl (!decide (x = .non))) H) := by
  intro w S H x y p q Q E s hx hy h
  unfold gNotN at h
  split at h
  · cases hy
    refine ⟨rfl, ?_⟩
    rw [isNon_ok hx]
    exact h.ret s (Tr.bl _)
  · exact h.elim
/-- x in a list, at any depth -/
def gInB (neg : Bool) (p q : Wv) (S : Store) : Out Wv := match view S p, view S q with
  | some d, some (.list ds) => if SeqAt.shaped d = true ∧ SeqAt.shaped (.list ds) = true then okB (if neg then !ds.any fun z => PyData.eqv z d else ds.any fun z => PyData.eqv z d) S else .stuck
  | _, _ => .stuck
theorem ok_in {K : PySem.W.Frag} {cl : Str → Addr} : Op2 K cl (gInB false) (rInD K) := by
  intro w S H x y p q Q E s hx hy h
  unfold gInB at h
  split at h
  · rename_i d ds e1 e2
    split at h
    · rename_i c
      exact ⟨d, ds, (view_ok s hx e1).dp, (view_ok s hy e2).dp, c.1, c.2, h.ret s (Tr.bl _)⟩
    · exact h.elim
  · exact h.elim
theorem ok_notIn {K : PySem.W.Frag} {cl : Str → Addr} : Op2 K cl (gInB true) (rNotInD K) := by
  intro w S H x y p q Q E s hx hy h
  unfold gInB at h
  split at h
  · rename_i d ds e1 e2
    split at h
    · rename_i c
      exact ⟨d, ds, (view_ok s hx e1).dp, (view_ok s hy e2).dp, c.1, c.2, h.ret s (Tr.bl _)⟩
    · exact h.elim
  · exact h.elim

/-! ### subscripts -/
def gIx (p q : Wv) (S : Store) : Out Wv := match q with
  | .t (.int i) => match p with
    | .t (.str z) => if z.length < LIM then (match atI z.cps.toList i with
      | some c => .ok (.t (.str ⟨#[c]⟩)) S
      | none => .stuck) else .stuck
    | p => match seqA S p with
      | some ws => (match atI ws i with
        | some r => .ok r S
        | none => .stuck)
      | none => .stuck
  | _ => .stuck
theorem ok_ix {K : PySem.W.Frag} {cl : Str → Addr} : Op2 K cl gIx (rIx K) := by
  intro w S H x y p q Q E s hx hy h
  unfold gIx at h
  split at h
  · cases Tr.asInt hy
    split at h
    · cases Tr.asStr hx
      split at h
      · rename_i hl
        split at h
        · rename_i c e
          exact .inr (.inr ⟨_, _, c, rfl, rfl, Nat.le_of_lt (lim_lt hl), e, h.ret s (Tr.str _)⟩)
        · exact h.elim
      · exact h.elim
    · split at h
      · rename_i ws e
        split at h
        · rename_i r e2
          obtain ⟨a, vs, rfl, h1, h2⟩ := seqA_ok s hx e
          obtain ⟨v, h3, h4⟩ := h2.at e2
          rcases h1 with h1 | h1
          · exact .inl ⟨a, vs, _, v, rfl, rfl, h1, h3, h.ret s h4⟩
          · exact .inr (.inl ⟨a, vs, _, v, rfl, rfl, h1, h3, h.ret s h4⟩)
        · exact h.elim
      · exact h.elim
  · exact h.elim
section
variable {X : Cx} {cl : Str → Addr} {W : WX}
def cIx : FE → FE → FE := c2 gIx
theorem den_ix {a b : Expr} {f g : FE} {pos : Pos} (ha : DenE X cl W a f) (hb : DenE X cl W b g) (hs : PlainIx b := by exact fun _ _ => rfl) : DenE X cl W (.Subscript a b pos) (cIx f g) := PE.imp (pe_ix ix_seq ha hb hs) fun _ _ _ h => tden2 ok_ix h
theorem den_add {a b : Expr} {f g : FE} {pos : Pos} (ha : DenE X cl W a f) (hb : DenE X cl W b g) : DenE X cl W (.BinOp a .Add b pos) (c2 gAdd f g) := den_op2 op_addAll ok_add ha hb
theorem den_addC {a b : Expr} {f g : FE} {pos : Pos} (ha : DenE X cl W a f) (hb : DenE X cl W b g) : DenE X cl W (.BinOp a .Add b pos) (c2 gAddC f g) := den_op2 op_addAll ok_addC ha hb
theorem den_sub {a b : Expr} {f g : FE} {pos : Pos} (ha : DenE X cl W a f) (hb : DenE X cl W b g) : DenE X cl W (.BinOp a .Sub b pos) (c2 gSub f g) := den_op2 op_sub ok_sub ha hb
theorem den_mul {a b : Expr} {f g : FE} {pos : Pos} (ha : DenE X cl W a f) (hb : DenE X cl W b g) : DenE X cl W (.BinOp a .Mult b pos) (c2 gMul f g) := den_op2 op_mulAll ok_mul ha hb
theorem den_mulC {a b : Expr} {f g : FE} {pos : Pos} (ha : DenE X cl W a f) (hb : DenE X cl W b g) : DenE X cl W (.BinOp a .Mult b pos) (c2 gMulC f g) := den_op2 op_mulAll ok_mulC ha hb
theorem den_div {a b : Expr} {f g : FE} {pos : Pos} (ha : DenE X cl W a f) (hb : DenE X cl W b g) : DenE X cl W (.BinOp a .FloorDiv b pos) (c2 gDiv f g) := den_op2 op_div ok_div ha hb
theorem den_mod {a b : Expr} {f g : FE} {pos : Pos} (ha : DenE X cl W a f) (hb : DenE X cl W b g) : DenE X cl W (.BinOp a .Mod b pos) (c2 gMod f g) := den_op2 op_modN ok_mod ha hb
theorem den_pow {a b : Expr} {f g : FE} {pos : Pos} (ha : DenE X cl W a f) (hb : DenE X cl W b g) : DenE X cl W (.BinOp a .Pow b pos) (c2 gPow f g) := den_op2 op_pow ok_pow ha hb
theorem den_neg {a : Expr} {f : FE} {pos : Pos} (ha : DenE X cl W a f) : DenE X cl W (.UnaryOp .USub a pos) (c1 gNeg f) := den_un1 un_neg ok_neg ha
/-- a comparison's rule -/
def CmpOk (X : Cx) (cl : Str → Addr) (op : CmpOp) (g : Wv → Wv → Store → Out Wv) : Prop := ∃ r, OpR X (compareOp op) r ∧ Op2 X.K cl g r
theorem cmp_eq (hu : X.A.units + 64 < cLine) : CmpOk X cl .Eq gEq := ⟨_, op_eqD hu, ok_eq⟩
theorem cmp_ne (hu : X.A.units + 64 < cLine) : CmpOk X cl .NotEq gNe := ⟨_, op_neD hu, ok_ne⟩
theorem cmp_lt : CmpOk X cl .Lt gLt := ⟨_, op_lt, ok_lt⟩
theorem cmp_le : CmpOk X cl .LtE gLe := ⟨_, op_le, ok_le⟩
theorem cmp_gt : CmpOk X cl .Gt gGt := ⟨_, op_gt, ok_gt⟩
theorem cmp_ge : CmpOk X cl .GtE gGe := ⟨_, op_ge, ok_ge⟩
theorem cmp_isN : CmpOk X cl .Is gIsN := ⟨_, op_isN, ok_isN⟩
theorem cmp_notN : CmpOk X cl .IsNot gNotN := ⟨_, op_notN, ok_notN⟩
theorem cmp_in (hu : X.A.units + 65 < cLine) : CmpOk X cl .In (gInB false) := ⟨_, op_inD hu, ok_in⟩
theorem cmp_notIn (hu : X.A.units + 65 < cLine) : CmpOk X cl .NotIn (gInB true) := ⟨_, op_notInD hu, ok_notIn⟩
theorem den_cmp {op : CmpOp} {a b : Expr} {f g : FE} {o : Wv → Wv → Store → Out Wv} {pos : Pos} (h : CmpOk X cl op o) (ha : DenE X cl W a f) (hb : DenE X cl W b g) (hm : behindInMarks op b = false := by rfl) : DenE X cl W (.Compare a [op] [b] pos) (c2 o f g) :=
  let ⟨_, h1, h2⟩ := h; den_cmp2 h1 h2 ha hb hm
theorem den_tcmp {op : CmpOp} {a b : Expr} {f g : FE} {o : Wv → Wv → Store → Out Wv} {pos : Pos} (h : CmpOk X cl op o) (ha : DenE X cl W a f) (hb : DenE X cl W b g) (hm : behindInMarks op b = false := by rfl) : DenT X cl W (.Compare a [op] [b] pos) (fB (c2 o f g)) :=
  let ⟨_, h1, h2⟩ := h; den_tcmp2 h1 h2 ha hb hm
/-- a op b op' c, as a test and as a value -/
def cChain (o o' : Wv → Wv → Store → Out Wv) (fa fb fc : FE) : FE := fun δ S => (fa δ S).bind fun x S1 => (fb δ S1).bind fun y S2 => (o x y S2).bind fun z S3 => match z with
  | .t (.bool b) => if b = true then (fc δ S3).bind fun u S4 => o' y u S4 else okB false S3
  | _ => .stuck
theorem tdenChain {K : PySem.W.Frag} {o o' : Wv → Wv → Store → Out Wv} {r r' : R2} {fa fb fc : FE} (h1 : Op2 K cl o r) (h2 : Op2 K cl o' r') {σ : Sg} {H : Hp} {Q : VK} (h : tDen K cl W (cChain o o' fa fb fc) σ H Q) :
    tChain r r' (tDen K cl W fa) (tDen K cl W fb) (tDen K cl W fc) σ H Q := by
  obtain ⟨w, S, δ, sat, sl, q⟩ := h
  refine ⟨w, S, δ, sat, sl, OkE.mono (OkE.bind q) (fun x H1 ⟨w1, p, S1, l1, sat1, r1, q1⟩ => ?_) fun _ _ _ z => z⟩
  refine ⟨w1, S1, δ, sat1, sl.le l1, OkE.mono (OkE.bind q1) (fun y H2 ⟨w2, p2, S2, l2, sat2, r2, q2⟩ => ?_) fun _ _ _ z => z⟩
  refine h1 w2 S2 H2 x y p p2 _ _ sat2 (r1.le l2) r2 (OkE.mono (OkE.bind q2) (fun z H3 ⟨w3, p3, S3, l3, sat3, r3, q3⟩ => ?_) fun _ _ _ z => z)
  split at q3
  · rename_i b
    cases Tr.asBool r3
    refine ⟨b, rfl, ?_⟩
    cases b with
    | true =>
      refine iteT ⟨w3, S3, δ, sat3, sl.le (l1.trans (l2.trans l3)), OkE.mono (OkE.bind q3) (fun u H4 ⟨w4, p4, S4, l4, sat4, r4, q4⟩ => ?_) fun _ _ _ z => z⟩
      exact h2 w4 S4 H4 y u p2 p4 Q _ sat4 (r2.le (l3.trans l4)) r4 q4
    | false => exact iteF (q3.ret sat3 (Tr.bl false))
  · exact q3.elim
theorem den_chain {op op' : CmpOp} {a b c : Expr} {f g k : FE} {o o' : Wv → Wv → Store → Out Wv} {pos : Pos} (h : CmpOk X cl op o) (h' : CmpOk X cl op' o') (ha : DenE X cl W a f) (hb : DenE X cl W b g) (hc : DenE X cl W c k)
    (hm : lastMarks [op, op'] [b, c] = false := by with_unfolding_all rfl) : DenE X cl W (.Compare a [op, op'] [b, c] pos) (cChain o o' f g k) :=
  let ⟨_, h1, h2⟩ := h; let ⟨_, h3, h4⟩ := h'; PE.imp (pe_chain h1 h3 ha hb hc hm) fun _ _ _ z => tdenChain h2 h4 z
theorem den_tchain {op op' : CmpOp} {a b c : Expr} {f g k : FE} {o o' : Wv → Wv → Store → Out Wv} {pos : Pos} (h : CmpOk X cl op o) (h' : CmpOk X cl op' o') (ha : DenE X cl W a f) (hb : DenE X cl W b g) (hc : DenE X cl W c k)
    (hm : lastMarks [op, op'] [b, c] = false := by with_unfolding_all rfl) : DenT X cl W (.Compare a [op, op'] [b, c] pos) (fB (cChain o o' f g k)) :=
  let ⟨_, h1, h2⟩ := h; let ⟨_, h3, h4⟩ := h'; PT.imp (pt_chain h1 h3 ha hb hc hm) fun _ _ _ z => tdenChain h2 h4 (tdenB z)

/-! ### truth of any value, as a test -/
def truW (r : Wv) (S : Store) : Out Bool := match r with
  | .t .none => .ok false S
  | .t (.bool b) => .ok b S
  | .t (.int i) => .ok (i != 0) S
  | r => match seqA S r with
    | some ws => .ok (!ws.isEmpty) S
    | none => .stuck
def fTru (f : FE) : FT := fun δ S => (f δ S).bind truW
theorem den_truth {e : Expr} {f : FE} (h : DenE X cl W e f) (he : ∀ whole, isTrue e X.env whole = (do let v ← whole; standAt e.pos; holding [v] (truthy v)) := by intro _; rfl) : DenT X cl W e (fTru f) := by
  refine PT.imp (pt_truth h he) fun σ H Q ⟨w, S, δ, sat, sl, q⟩ => ⟨w, S, δ, sat, sl, OkE.mono (OkE.bindG q) (fun x H1 ⟨w1, p, S1, l1, sat1, r1, q1⟩ => ?_) fun _ _ _ z => z⟩
  have fin : ∀ {b : Bool}, OkG X.K cl w1 (Out.ok b S1) (fun _ b _ H' => Q b H') (fun c d H' => W c d σ H') → Q b H1 := fun z => z w1 H1 (Wd.le.refl _) sat1
  unfold truW at q1
  split at q1
  · cases r1; exact ⟨false, rfl, fin q1⟩
  · cases Tr.asBool r1; exact ⟨_, rfl, fin q1⟩
  · cases Tr.asInt r1; exact ⟨_, rfl, fin q1⟩
  · split at q1
    · rename_i ws e
      obtain ⟨a, vs, rfl, h1, h2⟩ := seqA_ok sat1 r1 e
      have eq : (!ws.isEmpty) = !vs.isEmpty := by cases h2 <;> rfl
      rw [eq] at q1
      rcases h1 with h1 | h1
      · exact ⟨_, .inl ⟨vs, h1, rfl⟩, fin q1⟩
      · exact ⟨_, .inr (.inl ⟨vs, h1, rfl⟩), fin q1⟩
    · exact q1.elim
end

/-! ### slices -/
section
variable {X : Cx} {cl : Str → Addr} {W : WX}
abbrev FO := Dl → Store → Out (Option Int)
def tDenO (K : PySem.W.Frag) (cl : Str → Addr) (W : WX) (f : FO) : TO := fun σ H Q => ∃ w S δ, Sat K cl w S H ∧ Slots K w σ δ ∧ OkG K cl w (f δ S) (fun _ b _ H' => Q b H') fun c d H' => W c d σ H'
def DenO (X : Cx) (cl : Str → Addr) (W : WX) (e : Option Expr) (f : FO) : Prop := PO X e (tDenO X.K cl W f)
theorem PO.imp {X : Cx} {e : Option Expr} {t u : TO} (h : PO X e t) (k : ∀ σ H Q, u σ H Q → t σ H Q) : PO X e u := ⟨fun pins s σ H Q I q => h.run pins s σ H Q I (k σ H Q q)⟩
def oNone : FO := fun _ S => .ok none S
def oSome (f : FE) : FO := fun δ S => (f δ S).bind fun r S1 => match r with
  | .t (.int i) => .ok (some i) S1
  | _ => .stuck
theorem den_onone : DenO X cl W none oNone := PO.imp po_none fun σ H Q ⟨w, S, δ, sat, sl, q⟩ => q w H (Wd.le.refl _) sat
theorem den_osome {e : Expr} {f : FE} (h : DenE X cl W e f) : DenO X cl W (some e) (oSome f) := by
  refine PO.imp (po_some h) fun σ H Q ⟨w, S, δ, sat, sl, q⟩ => ⟨w, S, δ, sat, sl, OkE.mono (OkE.bindG q) (fun x H1 ⟨w1, p, S1, l1, sat1, r1, q1⟩ => ?_) fun _ _ _ z => z⟩
  split at q1
  · cases Tr.asInt r1
    exact ⟨_, rfl, q1 w1 H1 (Wd.le.refl _) sat1⟩
  · exact q1.elim
/-- a[lo:hi]: of a tuple a tuple, of a list a list of trees -/
def gSl (r : Wv) (lo hi : Option Int) (S : Store) : Out Wv := match r with
  | .t (.tuple ds) => .ok (.t (.tuple (cutA ds lo hi))) S
  | r => match seqL S r with
    | some ws => (match treesOf (cutA ws lo hi) with
      | some ds => .ok (.t (.list ds)) S
      | none => .stuck)
    | none => .stuck
/-- of a list a cell -/
def gSlC (r : Wv) (lo hi : Option Int) (S : Store) : Out Wv := match seqL S r with
  | some ws => .ok (.c S.length) (S ++ [.lst (cutA ws lo hi)])
  | none => .stuck
def cSlG (g : Wv → Option Int → Option Int → Store → Out Wv) (f : FE) (lo hi : FO) : FE := fun δ S => (f δ S).bind fun r S1 => (lo δ S1).bind fun l S2 => (hi δ S2).bind fun u S3 => g r l u S3
def SlOk (K : PySem.W.Frag) (cl : Str → Addr) (g : Wv → Option Int → Option Int → Store → Out Wv) (r : V → Option Int → Option Int → Hp → VK → Prop) : Prop :=
  ∀ (w : Wd) (S : Store) (H : Hp) (x : V) (p : Wv) (lo hi : Option Int) (Q : VK) (E : XK), Sat K cl w S H → WR K w x p → OkE K cl w (g p lo hi S) Q E → r x lo hi H Q
theorem den_slG {e : Expr} {f : FE} {lo hi : Option Expr} {fl fh : FO} {p2 pos : Pos} {g : Wv → Option Int → Option Int → Store → Out Wv} {r : V → Option Int → Option Int → Hp → VK → Prop} (hr : SlR X r) (hg : SlOk X.K cl g r)
    (he : DenE X cl W e f) (hl : DenO X cl W lo fl) (hh : DenO X cl W hi fh) : DenE X cl W (.Subscript e (.Slice lo hi none p2) pos) (cSlG g f fl fh) := by
  refine PE.imp (pe_slice hr he hl hh) fun σ H Q ⟨w, S, δ, sat, sl, q⟩ => ⟨w, S, δ, sat, sl, OkE.mono (OkE.bind q) (fun x H1 ⟨w1, p, S1, l1, sat1, r1, q1⟩ => ?_) fun _ _ _ z => z⟩
  refine ⟨w1, S1, δ, sat1, sl.le l1, ?_⟩
  have q1 := OkG.bindE q1
  cases e1 : fl δ S1 with
  | exc C fs S2 => rw [e1] at q1; exact q1
  | stuck => rw [e1] at q1; exact q1
  | ok b S2 =>
    rw [e1] at q1
    intro w2 H2 l2 sat2
    have q2 := q1 w2 H2 l2 sat2
    refine ⟨w2, S2, δ, sat2, sl.le (l1.trans l2), ?_⟩
    have q2 := OkG.bindE q2
    cases e2 : fh δ S2 with
    | exc C fs S3 => rw [e2] at q2; exact q2
    | stuck => rw [e2] at q2; exact q2
    | ok c S3 =>
      rw [e2] at q2
      intro w3 H3 l3 sat3
      exact hg w3 S3 H3 x p b c Q _ sat3 (r1.le (l2.trans l3)) (q2 w3 H3 l3 sat3)
theorem TrAll.cut {K : PySem.W.Frag} {H : Hp} {vs : List V} {ds : List D} (h : TrAll K H vs ds) (lo hi : Option Int) : TrAll K H (cutA vs lo hi) (cutA ds lo hi) := by
  have w : Wd := ⟨H, fun _ => 0, 0⟩
  have r : WRs K ⟨H, fun _ => 0, 0⟩ vs (ds.map .t) := wrs_of h
  have q := r.cut lo hi
  rw [cutA_map] at q
  exact of_wrs q
theorem ok_sl {K : PySem.W.Frag} : SlOk K cl gSl (fun x lo hi H Q => rSlA K x lo hi H Q ∨ rSlL K x lo hi H Q) := by
  intro w S H x p lo hi Q E s hx h
  unfold gSl at h
  split at h
  · rename_i ds
    obtain ⟨a, vs, rfl, h1, h2⟩ := seqT_ok s hx rfl
    refine .inl ⟨a, vs, rfl, h1, fun c => ?_, fun c p hp => h.retTup s hp (h2.cut lo hi)⟩
    have e : cutA ds lo hi = ds := by
      unfold cutA
      rw [h2.length] at c
      rw [c.1, c.2, List.drop_zero, Nat.sub_zero, List.take_length]
    rw [e] at h
    exact h.ret s hx
  · split at h
    · rename_i ws e
      split at h
      · rename_i ds e2
        obtain ⟨a, vs, rfl, h1, h2⟩ := seqL_ok s hx e
        refine .inr ⟨a, vs, rfl, h1, fun p hp => h.retTree s hp ?_⟩
        have q := h2.cut lo hi
        rw [treesOf_ok e2] at q
        exact of_wrs q
      · exact h.elim
    · exact h.elim
theorem ok_slC {K : PySem.W.Frag} : SlOk K cl gSlC (fun x lo hi H Q => rSlA K x lo hi H Q ∨ rSlL K x lo hi H Q) := by
  intro w S H x p lo hi Q E s hx h
  unfold gSlC at h
  split at h
  · rename_i ws e
    obtain ⟨a, vs, rfl, h1, h2⟩ := seqL_ok s hx e
    exact .inr ⟨a, vs, rfl, h1, fun p hp => h.retLst s hp (h2.cut lo hi)⟩
  · exact h.elim
theorem den_sl {e : Expr} {f : FE} {lo hi : Option Expr} {fl fh : FO} {p2 pos : Pos} (he : DenE X cl W e f) (hl : DenO X cl W lo fl) (hh : DenO X cl W hi fh) : DenE X cl W (.Subscript e (.Slice lo hi none p2) pos) (cSlG gSl f fl fh) := den_slG (sl_tupA.or sl_list) ok_sl he hl hh
theorem den_slC {e : Expr} {f : FE} {lo hi : Option Expr} {fl fh : FO} {p2 pos : Pos} (he : DenE X cl W e f) (hl : DenO X cl W lo fl) (hh : DenO X cl W hi fh) : DenE X cl W (.Subscript e (.Slice lo hi none p2) pos) (cSlG gSlC f fl fh) := den_slG (sl_tupA.or sl_list) ok_slC he hl hh

/-! ### displays -/
/-- a tuple of trees (cells are refused here: freeze them first) -/
def gTup (rs : List Wv) (S : Store) : Out Wv := match treesOf rs with
  | some ds => if ds.length < LIM then .ok (.t (.tuple ds)) S else .stuck
  | none => .stuck
def gLst (rs : List Wv) (S : Store) : Out Wv := match treesOf rs with
  | some ds => if ds.length < LIM then .ok (.t (.list ds)) S else .stuck
  | none => .stuck
def gLstC (rs : List Wv) (S : Store) : Out Wv := if rs.length < LIM then .ok (.c S.length) (S ++ [.lst rs]) else .stuck
def cA (g : List Wv → Store → Out Wv) (f : FA) : FE := fun δ S => (f δ S).bind g
theorem tdenA {K : PySem.W.Frag} {g : List Wv → Store → Out Wv} {f : FA} {σ : Sg} {H : Hp} {Q : VK} {R : List V → Hp → Prop} (h : tDen K cl W (cA g f) σ H Q)
    (hg : ∀ (w : Wd) (S : Store) (H : Hp) (vs : List V) (rs : List Wv), Sat K cl w S H → WRs K w vs rs → OkE K cl w (g rs S) Q (fun c d H' => W c d σ H') → R vs H) : tDenA K cl W f σ H R := by
  obtain ⟨w, S, δ, sat, sl, q⟩ := h
  exact ⟨w, S, δ, sat, sl, OkA.mono (OkA.bindE q) (fun vs H1 ⟨w1, rs, S1, l1, s1, r1, q1⟩ => hg w1 S1 H1 vs rs s1 r1 q1) fun _ _ _ z => z⟩
theorem den_tup {es : List Expr} {f : FA} {x1} {pos : Pos} (h : DenA X cl W es f) : DenE X cl W (.Tuple es x1 pos) (cA gTup f) :=
  PE.imp (pe_tup h) fun σ H Q hh => tdenA hh fun w S H vs rs s r q => by
    unfold gTup at q
    split at q
    · rename_i ds e
      split at q
      · rename_i hl
        rw [treesOf_ok e] at r
        have r := of_wrs r
        exact ⟨by rw [r.length]; exact Nat.le_of_lt (lim_lt hl), fun p hp => q.retTup s hp r⟩
      · exact q.elim
    · exact q.elim
theorem den_lst {es : List Expr} {f : FA} {pos : Pos} (h : DenA X cl W es f) : DenE X cl W (.List es pos) (cA gLst f) :=
  PE.imp (pe_lst h) fun σ H Q hh => tdenA hh fun w S H vs rs s r q => by
    unfold gLst at q
    split at q
    · rename_i ds e
      split at q
      · rename_i hl
        rw [treesOf_ok e] at r
        have r := of_wrs r
        exact ⟨by rw [r.length]; exact Nat.le_of_lt (lim_lt hl), fun p hp => q.retTree s hp r⟩
      · exact q.elim
    · exact q.elim
theorem den_lstC {es : List Expr} {f : FA} {pos : Pos} (h : DenA X cl W es f) : DenE X cl W (.List es pos) (cA gLstC f) :=
  PE.imp (pe_lst h) fun σ H Q hh => tdenA hh fun w S H vs rs s r q => by
    unfold gLstC at q
    split at q
    · rename_i hl
      exact ⟨by rw [Paired.length r]; exact Nat.le_of_lt (lim_lt hl), fun p hp => q.retLst s hp r⟩
    · exact q.elim

/-! ### calls of built-ins -/
def CallOk (K : PySem.W.Frag) (cl : Str → Addr) (g : List Wv → Store → Out Wv) (r : List V → Hp → VK → Prop) : Prop :=
  ∀ (w : Wd) (S : Store) (H : Hp) (vs : List V) (rs : List Wv) (Q : VK) (E : XK), Sat K cl w S H → WRs K w vs rs → OkE K cl w (g rs S) Q E → r vs H Q
/-- a built-in's rule: by its name x, what it is -/
def BlOk (X : Cx) (cl : Str → Addr) (x : Str) (g : List Wv → Store → Out Wv) : Prop := (∃ id r, bootBuiltins x = some (.builtin id) ∧ CallR X (.builtin id) r ∧ CallOk X.K cl g r) ∨ ∃ T r, bootBuiltins x = some (.type T) ∧ CallR X (.type T) r ∧ CallOk X.K cl g r
theorem den_bl1 {x : Str} {g : List Wv → Store → Out Wv} {e : Expr} {es : List Expr} {f : FA} {p pos : Pos} (hb : BlOk X cl x g) (hm : X.mg x = none) (ha : DenA X cl W (e :: es) f) (hg : Gl X x := by rfl) (hn : x ≠ "__name__" := by decide) (hdb : (x == ("__debug__" : Str)) = false := by decide)
    (he : starEach (e :: es) X.env = (false, eval e X.env) :: starEach es X.env := by rfl) (hpl : (backTo pos (starEach es X.env)).any (·.1) = false := by rfl) : DenE X cl W (.Call (.Name x p) (e :: es) [] pos) (cA g f) := by
  rcases hb with ⟨id, r, hv, h1, h2⟩ | ⟨T, r, hv, h1, h2⟩
  · exact PE.imp (pe_callB h1 hg hm hv ha hn hdb he hpl) fun σ H Q hh => tdenA hh fun w S H vs rs s r q => h2 w S H vs rs Q _ s r q
  · exact PE.imp (pe_callTy h1 hg hm hv ha hn hdb he hpl) fun σ H Q hh => tdenA hh fun w S H vs rs s r q => h2 w S H vs rs Q _ s r q
theorem WRs.one {K : PySem.W.Frag} {w : Wd} {vs : List V} {r : Wv} (h : WRs K w vs [r]) : ∃ v, vs = [v] ∧ WR K w v r := by
  cases h with
  | cons a b => cases b; exact ⟨_, rfl, a⟩
theorem WRs.two {K : PySem.W.Frag} {w : Wd} {vs : List V} {r r' : Wv} (h : WRs K w vs [r, r']) : ∃ v u, vs = [v, u] ∧ WR K w v r ∧ WR K w u r' := by
  cases h with
  | cons a b =>
    obtain ⟨u, rfl, q⟩ := WRs.one b
    exact ⟨_, u, rfl, a, q⟩
def gLen (rs : List Wv) (S : Store) : Out Wv := match rs with
  | [.t (.str z)] => if z.length < LIM then okI z.length S else .stuck
  | [r] => match seqA S r with
    | some ws => okI ws.length S
    | none => .stuck
  | _ => .stuck
theorem bl_len : BlOk X cl "len" gLen := .inl ⟨_, _, PySem.boot_len, CallR.or call_len_seq call_len_str, by
  intro w S H vs rs Q E s r q
  unfold gLen at q
  split at q
  · obtain ⟨v, rfl, h⟩ := r.one
    cases Tr.asStr h
    split at q
    · rename_i hl
      exact .inr ⟨_, rfl, Nat.le_of_lt (lim_lt hl), q.ret s (Tr.int _)⟩
    · exact q.elim
  · obtain ⟨v, rfl, h⟩ := r.one
    split at q
    · rename_i ws e
      obtain ⟨a, vs, rfl, h1, h2⟩ := seqA_ok s h e
      refine .inl ⟨a, vs, rfl, h1, ?_⟩
      rw [Paired.length h2]
      exact q.ret s (Tr.int _)
    · exact q.elim
  · exact q.elim⟩
/-- list(x): a list of trees, a cell -/
def gList (rs : List Wv) (S : Store) : Out Wv := match rs with
  | [r] => match seqA S r with
    | some ws => (match treesOf ws with
      | some ds => .ok (.t (.list ds)) S
      | none => .stuck)
    | none => .stuck
  | _ => .stuck
def gListC (rs : List Wv) (S : Store) : Out Wv := match rs with
  | [r] => match seqA S r with
    | some ws => .ok (.c S.length) (S ++ [.lst ws])
    | none => .stuck
  | _ => .stuck
theorem bl_list : BlOk X cl "list" gList := .inr ⟨_, _, PyProof.Rows.boot_list, call_list_of, by
  intro w S H vs rs Q E s r q
  unfold gList at q
  split at q
  · obtain ⟨v, rfl, h⟩ := r.one
    split at q
    · rename_i ws e
      split at q
      · rename_i ds e2
        obtain ⟨a, vs, rfl, h1, h2⟩ := seqA_ok s h e
        rw [treesOf_ok e2] at h2
        exact ⟨a, vs, rfl, h1, fun p hp => q.retTree s hp (of_wrs h2)⟩
      · exact q.elim
    · exact q.elim
  · exact q.elim⟩
theorem bl_listC : BlOk X cl "list" gListC := .inr ⟨_, _, PyProof.Rows.boot_list, call_list_of, by
  intro w S H vs rs Q E s r q
  unfold gListC at q
  split at q
  · obtain ⟨v, rfl, h⟩ := r.one
    split at q
    · rename_i ws e
      obtain ⟨a, vs, rfl, h1, h2⟩ := seqA_ok s h e
      exact ⟨a, vs, rfl, h1, fun p hp => q.retLst s hp h2⟩
    · exact q.elim
  · exact q.elim⟩
def gTuple (rs : List Wv) (S : Store) : Out Wv := match rs with
  | [.t (.tuple ds)] => .ok (.t (.tuple ds)) S
  | [r] => match seqL S r with
    | some ws => (match treesOf ws with
      | some ds => .ok (.t (.tuple ds)) S
      | none => .stuck)
    | none => .stuck
  | _ => .stuck
theorem bl_tuple : BlOk X cl "tuple" gTuple := .inr ⟨_, _, PyProof.Rows.boot_tuple, call_tuple_of, by
  intro w S H vs rs Q E s r q
  unfold gTuple at q
  split at q
  · obtain ⟨v, rfl, h⟩ := r.one
    obtain ⟨a, vs, rfl, h1, h2⟩ := seqT_ok s h rfl
    exact ⟨a, vs, rfl, .inr ⟨h1, q.ret s h⟩⟩
  · obtain ⟨v, rfl, h⟩ := r.one
    split at q
    · rename_i ws e
      split at q
      · rename_i ds e2
        obtain ⟨a, vs, rfl, h1, h2⟩ := seqL_ok s h e
        rw [treesOf_ok e2] at h2
        exact ⟨a, vs, rfl, .inl ⟨h1, fun p hp => q.retTup s hp (of_wrs h2)⟩⟩
      · exact q.elim
    · exact q.elim
  · exact q.elim⟩
def gAbs (rs : List Wv) (S : Store) : Out Wv := match rs with
  | [.t (.int i)] => okI (if i < 0 then -i else i) S
  | _ => .stuck
theorem bl_abs : BlOk X cl "abs" gAbs := .inl ⟨"abs", _, by decide +kernel, call_abs, by
  intro w S H vs rs Q E s r q
  unfold gAbs at q
  split at q
  · obtain ⟨v, rfl, h⟩ := r.one
    cases Tr.asInt h
    exact ⟨_, rfl, q.ret s (Tr.int _)⟩
  · exact q.elim⟩
def gInt (rs : List Wv) (S : Store) : Out Wv := match rs with
  | [.t (.int i)] => okI i S
  | [.t (.bool b)] => okI (if b then 1 else 0) S
  | _ => .stuck
theorem bl_int : BlOk X cl "int" gInt := .inr ⟨_, _, PyProof.Rows.boot_int, call_int1, by
  intro w S H vs rs Q E s r q
  unfold gInt at q
  split at q
  · obtain ⟨v, rfl, h⟩ := r.one
    cases Tr.asInt h
    exact .inl ⟨_, rfl, q.ret s (Tr.int _)⟩
  · obtain ⟨v, rfl, h⟩ := r.one
    cases Tr.asBool h
    exact .inr ⟨_, rfl, q.ret s (Tr.int _)⟩
  · exact q.elim⟩
def gMax2 (rs : List Wv) (S : Store) : Out Wv := match rs with
  | [.t (.int i), .t (.int j)] => okI (if j > i then j else i) S
  | _ => .stuck
theorem bl_max2 (hc : X.calm = true) : BlOk X cl "max" gMax2 := .inl ⟨"max", _, by decide +kernel, call_max2 hc, by
  intro w S H vs rs Q E s r q
  unfold gMax2 at q
  split at q
  · obtain ⟨v, u, rfl, h, k⟩ := r.two
    cases Tr.asInt h; cases Tr.asInt k
    exact ⟨_, _, rfl, q.ret s (Tr.int _)⟩
  · exact q.elim⟩
def gMin2 (rs : List Wv) (S : Store) : Out Wv := match rs with
  | [.t (.int i), .t (.int j)] => okI (if j < i then j else i) S
  | _ => .stuck
theorem bl_min2 (hc : X.calm = true) : BlOk X cl "min" gMin2 := .inl ⟨"min", _, by decide +kernel, call_min2 hc, by
  intro w S H vs rs Q E s r q
  unfold gMin2 at q
  split at q
  · obtain ⟨v, u, rfl, h, k⟩ := r.two
    cases Tr.asInt h; cases Tr.asInt k
    exact ⟨_, _, rfl, q.ret s (Tr.int _)⟩
  · exact q.elim⟩
/-- all numbers -/
def intsOf : List Wv → Option (List Int)
  | [] => some []
  | .t (.int i) :: r => (intsOf r).map (i :: ·)
  | _ => none
def boolsOf : List Wv → Option (List Bool)
  | [] => some []
  | .t (.bool i) :: r => (boolsOf r).map (i :: ·)
  | _ => none
theorem intsOf_ok {K : PySem.W.Frag} {w : Wd} : ∀ {vs : List V} {ws : List Wv} {ns : List Int}, WRs K w vs ws → intsOf ws = some ns → vs = ns.map V.int
  | _, [], _, h, e => by cases h; simp [intsOf] at e; subst e; rfl
  | _, .t d :: r, _, h, e => by
    cases h with
    | cons a b =>
      cases d <;> simp [intsOf] at e
      obtain ⟨ms, e1, e2⟩ := e
      subst e2
      cases Tr.asInt a
      rw [intsOf_ok b e1]
      rfl
  | _, .c _ :: _, _, _, e => by simp [intsOf] at e
theorem boolsOf_ok {K : PySem.W.Frag} {w : Wd} : ∀ {vs : List V} {ws : List Wv} {ns : List Bool}, WRs K w vs ws → boolsOf ws = some ns → vs = ns.map V.bl
  | _, [], _, h, e => by cases h; simp [boolsOf] at e; subst e; rfl
  | _, .t d :: r, _, h, e => by
    cases h with
    | cons a b =>
      cases d <;> simp [boolsOf] at e
      obtain ⟨ms, e1, e2⟩ := e
      subst e2
      cases Tr.asBool a
      rw [boolsOf_ok b e1]
      rfl
  | _, .c _ :: _, _, _, e => by simp [boolsOf] at e
def gSum (rs : List Wv) (S : Store) : Out Wv := match rs with
  | [r] => match seqL S r with
    | some ws => (match intsOf ws with
      | some ns => okI ns.sum S
      | none => .stuck)
    | none => .stuck
  | _ => .stuck
theorem bl_sum (hc : X.calm = true) : BlOk X cl "sum" gSum := .inl ⟨"sum", _, by decide +kernel, cr_sum hc, by
  intro w S H vs rs Q E s r q
  unfold gSum at q
  split at q
  · obtain ⟨v, rfl, h⟩ := r.one
    split at q
    · rename_i ws e
      split at q
      · rename_i ns e2
        obtain ⟨a, vs, rfl, h1, h2⟩ := seqL_ok s h e
        exact ⟨a, ns, rfl, by rw [← intsOf_ok h2 e2]; exact h1, q.ret s (Tr.int _)⟩
      · exact q.elim
    · exact q.elim
  · exact q.elim⟩
def gAll (rs : List Wv) (S : Store) : Out Wv := match rs with
  | [r] => match seqL S r with
    | some ws => (match boolsOf ws with
      | some ns => okB (ns.all id) S
      | none => .stuck)
    | none => .stuck
  | _ => .stuck
theorem bl_all (hc : X.calm = true) : BlOk X cl "all" gAll := .inl ⟨"all", _, by decide +kernel, cr_all hc, by
  intro w S H vs rs Q E s r q
  unfold gAll at q
  split at q
  · obtain ⟨v, rfl, h⟩ := r.one
    split at q
    · rename_i ws e
      split at q
      · rename_i ns e2
        obtain ⟨a, vs, rfl, h1, h2⟩ := seqL_ok s h e
        exact ⟨a, ns, rfl, by rw [← boolsOf_ok h2 e2]; exact h1, q.ret s (Tr.bl _)⟩
      · exact q.elim
    · exact q.elim
  · exact q.elim⟩
end
end Dn

/-! Dn, part 5: targets, loops, comprehensions. -/
namespace Dn
open PySem PySem.Spec PyProof.Rows L2

/-! ### targets -/
abbrev FG := Wv → Dl → Store → Out Dl
section
variable (K : PySem.W.Frag) (cl : Str → Addr)
def OkD (w : Wd) (vs : List Nat) (σ0 : Sg) (o : Out Dl) (Q : Sg → Hp → Prop) : Prop := match o with
  | .ok δ S => ∀ w' H σ, w.le w' → Sat K cl w' S H → Slots K w' σ δ → L2.wipe σ vs = L2.wipe σ0 vs → Q σ H
  | _ => False
/-- a target that stores into the slots vs alone -/
def tDenG (vs : List Nat) (f : FG) : TG := fun v σ H Q => ∃ w S δ r, Sat K cl w S H ∧ Slots K w σ δ ∧ WR K w v r ∧ OkD K cl w vs σ (f r δ S) Q
abbrev FGs := List Wv → Dl → Store → Out Dl
def tDenGs (vs : List Nat) (f : FGs) : TGs := fun us σ H Q => ∃ w S δ rs, Sat K cl w S H ∧ Slots K w σ δ ∧ WRs K w us rs ∧ OkD K cl w vs σ (f rs δ S) Q
end
theorem set_none_swap {α : Type} : ∀ (xs : List (Option α)) (i j : Nat), (xs.set i none).set j none = (xs.set j none).set i none
  | [], _, _ => rfl
  | _ :: _, 0, 0 => rfl
  | _ :: _, 0, _ + 1 => rfl
  | _ :: _, _ + 1, 0 => rfl
  | x :: xs, i + 1, j + 1 => congrArg (x :: ·) (set_none_swap xs i j)
theorem set_none_again {α : Type} : ∀ (xs : List (Option α)) (i : Nat) (v : Option α), (xs.set i v).set i none = xs.set i none
  | [], _, _ => rfl
  | _ :: _, 0, _ => rfl
  | x :: xs, i + 1, v => congrArg (x :: ·) (set_none_again xs i v)
theorem wipe_out_set {σ : Sg} {i : Nat} : ∀ {vs : List Nat}, (L2.wipe σ vs).set i none = L2.wipe (σ.set i none) vs
  | [] => rfl
  | v :: vs => by
    show ((L2.wipe σ vs).set v none).set i none = (L2.wipe (σ.set i none) vs).set v none
    rw [set_none_swap, wipe_out_set]
theorem wipe_set {σ : Sg} {i : Nat} {v : Option V} : ∀ {vs : List Nat}, i ∈ vs → L2.wipe (σ.set i v) vs = L2.wipe σ vs
  | [], h => by cases h
  | u :: vs, h => by
    show (L2.wipe (σ.set i v) vs).set u none = (L2.wipe σ vs).set u none
    by_cases hi : i ∈ vs
    · rw [wipe_set hi]
    · have e : u = i := by
        rcases List.mem_cons.mp h with h | h
        · exact h.symm
        · exact absurd h hi
      subst e
      rw [wipe_out_set, wipe_out_set, set_none_again]
section
variable {K : PySem.W.Frag} {cl : Str → Addr} {w w' : Wd} {S : Store} {H : Hp}
theorem OkD.le {vs : List Nat} {σ0 : Sg} {o : Out Dl} {Q : Sg → Hp → Prop} (h : w.le w') (x : OkD K cl w vs σ0 o Q) : OkD K cl w' vs σ0 o Q := by
  cases o with
  | ok δ S => exact fun w2 H σ l => x w2 H σ (h.trans l)
  | exc C fs S => exact x
  | stuck => exact x
theorem OkD.mono {vs : List Nat} {σ0 : Sg} {o : Out Dl} {Q Q' : Sg → Hp → Prop} (x : OkD K cl w vs σ0 o Q) (hQ : ∀ σ H, Q σ H → Q' σ H) : OkD K cl w vs σ0 o Q' := by
  cases o with
  | ok δ S => exact fun w2 H σ l s sl e => hQ _ _ (x w2 H σ l s sl e)
  | exc C fs S => exact x
  | stuck => exact x
/-- an outcome that must be a value -/
def Out.nox {α : Type} (o : Out α) : Out α := match o with
  | .exc _ _ _ => .stuck
  | o => o
theorem OkD.base {vs : List Nat} {σ0 σ1 : Sg} {o : Out Dl} {Q : Sg → Hp → Prop} (e : L2.wipe σ0 vs = L2.wipe σ1 vs) (x : OkD K cl w vs σ0 o Q) : OkD K cl w vs σ1 o Q := by
  cases o with
  | ok δ S => exact fun w2 H σ l s sl e2 => x w2 H σ l s sl (e2.trans e.symm)
  | exc C fs S => exact x
  | stuck => exact x
theorem OkD.bind {vs : List Nat} {σ0 : Sg} {α : Type} {o : Out α} {g : α → Store → Out Dl} {Q : Sg → Hp → Prop} (x : OkD K cl w vs σ0 (o.bind g) Q) : ∃ r S, o = .ok r S ∧ OkD K cl w vs σ0 (g r S) Q := by
  cases o with
  | ok r S => exact ⟨r, S, rfl, x⟩
  | exc C fs S => exact x.elim
  | stuck => exact x.elim
end
section
variable {X : Cx} {cl : Str → Addr} {W : WX}
def DenG (X : Cx) (cl : Str → Addr) (vs : List Nat) (e : Expr) (f : FG) : Prop := PG X e (tDenG X.K cl vs f)
def DenGs (X : Cx) (cl : Str → Addr) (vs : List Nat) (es : List Expr) (f : FGs) : Prop := PGs X es (tDenGs X.K cl vs f)
theorem PG.imp {X : Cx} {e : Expr} {t u : TG} (h : PG X e t) (k : ∀ v σ H Q, u v σ H Q → t v σ H Q) : PG X e u := ⟨fun pins s σ H v uu Q I r q => h.run pins s σ H v uu Q I r (k v σ H Q q)⟩
theorem PGs.imp {X : Cx} {e : List Expr} {t u : TGs} (h : PGs X e t) (k : ∀ v σ H Q, u v σ H Q → t v σ H Q) : PGs X e u := ⟨fun pins s σ H v uu Q I r q => h.run pins s σ H v uu Q I r (k v σ H Q q)⟩
def tgName (i : Nat) : FG := fun r δ S => .ok (δ.set i (some r)) S
theorem den_gname (i : Nat) {vs : List Nat} {x : Str} {pos : Pos} (hN : X.N.Nodup) (hi : X.N[i]? = some x := by rfl) (hx : Loc X.env.scope x := by first | exact Or.inl rfl | exact Or.inr rfl) (hf : X.fn x = true ∨ X.env.scope.names.lookup x = some .local := by first | exact .inl rfl | exact .inr rfl) (hv : i ∈ vs := by decide) : DenG X cl vs (.Name x pos) (tgName i) :=
  PG.imp (pg_name hN hi hx hf) fun v σ H Q ⟨w, S, δ, r, sat, sl, h, q⟩ => q w H _ (Wd.le.refl _) sat (sl.set h i) (wipe_set hv)
def tgsNil : FGs := fun rs δ S => match rs with
  | [] => .ok δ S
  | _ => .stuck
def tgsCons (f : FG) (g : FGs) : FGs := fun rs δ S => match rs with
  | r :: rs => (f r δ S).bind fun δ1 S1 => g rs δ1 S1
  | [] => .stuck
theorem den_gsnil {vs : List Nat} : DenGs X cl vs [] tgsNil := PGs.imp pgs_nil fun us σ H Q ⟨w, S, δ, rs, sat, sl, h, q⟩ => by
  unfold tgsNil at q
  split at q
  · cases h
    exact ⟨rfl, q w H σ (Wd.le.refl _) sat sl rfl⟩
  · exact q.elim
theorem den_gscons {vs : List Nat} {e : Expr} {es : List Expr} {f : FG} {g : FGs} (h1 : DenG X cl vs e f) (h2 : DenGs X cl vs es g) (hs : (assignEach (e :: es) X.env).map (·.2) = assign e X.env :: (assignEach es X.env).map (·.2) := by rfl) : DenGs X cl vs (e :: es) (tgsCons f g) :=
  PGs.imp (pgs_cons h1 h2 hs) fun us σ H Q ⟨w, S, δ, rs, sat, sl, h, q⟩ => by
    unfold tgsCons at q
    split at q
    · rename_i r rs
      cases h with
      | cons a b =>
        refine ⟨_, _, rfl, w, S, δ, r, sat, sl, a, ?_⟩
        obtain ⟨δ1, S1, e1, q1⟩ := OkD.bind q
        rw [e1]
        intro w1 H1 σ1 l1 s1 sl1 e2
        refine ⟨w1, S1, δ1, rs, s1, sl1, WRs.le l1 b, ?_⟩
        exact (q1.le l1).base e2.symm
    · exact q.elim
def tgTup (n : Nat) (f : FGs) : FG := fun r δ S => match seqA S r with
  | some ws => if ws.length = n then f ws δ S else .stuck
  | none => .stuck
theorem PG.or {X : Cx} {e : Expr} {t u : TG} (h : PG X e t) (k : PG X e u) : PG X e (fun v σ H Q => t v σ H Q ∨ u v σ H Q) := ⟨fun pins s σ H v uu Q I r q => q.elim (h.run pins s σ H v uu Q I r) (k.run pins s σ H v uu Q I r)⟩
theorem den_gtup {vs : List Nat} {es : List Expr} {f : FGs} {k n : Nat} {pos : Pos} (hc : X.calm = true) (h : DenGs X cl vs es f) (hn : (assignEach es X.env).length = n := by rfl) (hst : (assignEach es X.env).findIdx? (·.1) = none := by rfl) : DenG X cl vs (.Tuple es k pos) (tgTup n f) :=
  PG.imp (PG.or (pg_tup hc h hn hst) (pg_lst hc h hn hst)) fun v σ H Q ⟨w, S, δ, r, sat, sl, h, q⟩ => by
    unfold tgTup at q
    split at q
    · rename_i ws e
      split at q
      · rename_i hl
        obtain ⟨a, vs, rfl, h1, h2⟩ := seqA_ok sat h e
        have el : vs.length = n := (Paired.length h2).trans hl
        rcases h1 with h1 | h1
        · exact .inr ⟨a, vs, rfl, h1, el, w, S, δ, ws, sat, sl, h2, q⟩
        · exact .inl ⟨a, vs, rfl, h1, el, w, S, δ, ws, sat, sl, h2, q⟩
      · exact q.elim
    · exact q.elim
/-- o[i] = v, o a cell -/
def tgSub (f g : FE) : FG := fun r δ S => (f δ S).bind fun p S1 => (g δ S1).bind fun q S2 => match p, q with
  | .c k, .t (.int i) => match S2[k]? with
    | some (.lst ws) => match ixN ws.length i with
      | some j => .ok δ (S2.set k (.lst (ws.set j r)))
      | none => .stuck
    | _ => .stuck
  | _, _ => .stuck
theorem den_gsub {vs : List Nat} {o i : Expr} {f g : FE} {pos : Pos} (ho : DenE X cl (fun _ _ _ _ => False) o f) (hi : DenE X cl (fun _ _ _ _ => False) i g) (ha : ∀ v, assign (.Subscript o i pos) X.env v = (do
      let ov ← holding [v] (eval o X.env)
      let iv ← holding [v, ov] (eval i X.env)
      standAt pos
      holding [v, ov, iv] (setItem ov iv v)
      release [v, ov, iv] []) := by intro _; rfl) : DenG X cl vs (.Subscript o i pos) (tgSub f g) :=
  PG.imp (pg_sub ho hi set_list ha) fun v σ H Q ⟨w, S, δ, r, sat, sl, h, q⟩ => by
    obtain ⟨p, S1, e1, q1⟩ := OkD.bind q
    refine ⟨w, S, δ, sat, sl, ?_⟩
    rw [e1]
    intro w1 H1 x l1 s1 r1
    obtain ⟨p2, S2, e2, q2⟩ := OkD.bind q1
    refine ⟨w1, S1, δ, s1, sl.le l1, ?_⟩
    rw [e2]
    intro w2 H2 y l2 s2 r2
    split at q2
    · rename_i k j
      cases Tr.asInt r2
      have r1 := r1.le l2
      obtain ⟨hk, rfl⟩ := r1
      split at q2
      · rename_i ws ec
        split at q2
        · rename_i j e
          have ck := s2.cell k _ ec
          obtain ⟨z, vs, ev, rv⟩ := ck
          have rset : WRs X.K w2 (vs.set j v) (ws.set j r) := WRs.set (h.le (l1.trans l2)) j rv
          refine ⟨_, vs, _, j, rfl, rfl, ev, by rw [Paired.length rv]; exact e, ?_⟩
          have s3 : Sat X.K cl w2 (S2.set k (.lst (ws.set j r))) (upd H2 (w2.φ k) (.lst (vs.set j v))) := s2.setCell ec rfl ⟨z, _, upd_same, rset⟩ rfl
          exact q2 w2 _ σ (l1.trans l2) s3 (sl.le (l1.trans l2)) rfl
        · exact q2.elim
      · exact q2.elim
    · exact q2.elim
/-- target = value -/
def sAsg (f : FE) (g : FG) : FS := fun δ S => (f δ S).thenS δ fun r S1 => match g r δ S1 with
  | .ok δ1 S2 => .nx δ1 S2
  | _ => .stuck
theorem den_asg {vs : List Nat} {tg e : Expr} {f : FE} {g : FG} {pos : Pos} (he : DenE X cl W e f) (hg : DenG X cl vs tg g) (hs : swapsWithSole [tg] e pos.line X.env = pure false := by rfl) (hw : swappedStores [tg] e X.env = pure none := by rfl)
    (h1 : (assignEach [tg] X.env).map (·.2) = [assign tg X.env] := by rfl) : DenS X cl W (.Assign [tg] e pos) (sAsg f g) := by
  refine PS.imp (ps_asg he hg hs hw h1) fun E σ H ⟨w, S, δ, sat, sl, q⟩ => ⟨w, S, δ, sat, sl, ?_⟩
  refine OkE.mono (OkE.thenS sl q) (fun x H1 ⟨w1, p, S1, l1, sat1, r1, q1⟩ => ?_) fun _ _ _ z => z
  refine ⟨w1, S1, δ, p, sat1, sl.le l1, r1, ?_⟩
  split at q1
  · rename_i δ1 S2 e1
    rw [e1]
    exact fun w2 H2 σ2 l2 s2 sl2 _ => q1 w2 H2 σ2 l2 s2 sl2
  · exact q1.elim

/-! ### what is walked -/
/-- the items; the cells that must stay as they are meanwhile -/
structure Src where
  items : List Wv
  keep : List (Nat × List Wv)
def Src.still (s : Src) (S : Store) : Bool := s.keep.all fun p => decide (S[p.1]? = some (.lst p.2))
abbrev FI := Dl → Store → Out Src
/-- an iterator gives these items, whatever happens besides -/
def Gives (K : PySem.W.Frag) (cl : Str → Addr) (w : Wd) (s : Src) (J : It) : Prop :=
  ∀ i w1 S1 H1, w.le w1 → Sat K cl w1 S1 H1 → s.still S1 = true →
    (∀ r, s.items[i]? = some r → J.go i H1 ∧ ∀ x H2, J.yld i H1 x H2 → ∃ w2, w1.le w2 ∧ Sat K cl w2 S1 H2 ∧ WR K w2 x r) ∧ (i = s.items.length → J.stop i H1)
def tDenI (K : PySem.W.Frag) (cl : Str → Addr) (W : WX) (f : FI) : TI := fun σ H R => ∃ w S δ, Sat K cl w S H ∧ Slots K w σ δ ∧ OkG K cl w (f δ S) (fun w1 s S1 H1 => ∀ w2 H2 J, w1.le w2 → Sat K cl w2 S1 H2 → Gives K cl w2 s J → R J H2) fun c d H' => W c d σ H'
def DenI (X : Cx) (cl : Str → Addr) (W : WX) (tg iter : Expr) (f : FI) : Prop := PI X tg iter (tDenI X.K cl W f)
theorem PI.imp {X : Cx} {tg e : Expr} {t u : TI} (h : PI X tg e t) (k : ∀ σ H R, u σ H R → t σ H R) : PI X tg e u := ⟨fun pins s σ H R I q => h.run pins s σ H R I (k σ H R q)⟩
theorem PI.or {X : Cx} {tg e : Expr} {t u : TI} (h : PI X tg e t) (k : PI X tg e u) : PI X tg e (fun σ H R => t σ H R ∨ u σ H R) := ⟨fun pins s σ H R I q => q.elim (h.run pins s σ H R I) (k.run pins s σ H R I)⟩
/-- the source of a sequence -/
def srcOf (r : Wv) (S : Store) : Out Src := match r with
  | .t (.list ds) => .ok ⟨ds.map .t, []⟩ S
  | .t (.tuple ds) => .ok ⟨ds.map .t, []⟩ S
  | .c k => match S[k]? with
    | some (.lst ws) => .ok ⟨ws, [(k, ws)]⟩ S
    | some (.frz (.list ds)) => .ok ⟨ds.map .t, []⟩ S
    | some (.scr ns) => .ok ⟨scrW ns, []⟩ S
    | _ => .stuck
  | _ => .stuck
theorem gives_list {K : PySem.W.Frag} {cl : Str → Addr} {w : Wd} {a : Addr} {s : Src} (h : ∀ w1 S1 H1, w.le w1 → Sat K cl w1 S1 H1 → s.still S1 = true → ∃ vs, SqL K H1 a vs ∧ WRs K w1 vs s.items) : Gives K cl w s (Itl K a) := by
  intro i w1 S1 H1 l s1 st
  obtain ⟨vs, h1, h2⟩ := h w1 S1 H1 l s1 st
  refine ⟨fun r e => ?_, fun e => ⟨vs, h1, by rw [Paired.length h2, e]; exact Nat.le_refl _⟩⟩
  obtain ⟨v, e1, e2⟩ := h2.get e
  refine ⟨⟨vs, v, h1, e1⟩, fun x H2 y => ?_⟩
  obtain ⟨rfl, y⟩ := y
  have := y vs h1
  rw [e1] at this
  cases this
  exact ⟨w1, Wd.le.refl _, s1, e2⟩
theorem gives_tup {K : PySem.W.Frag} {cl : Str → Addr} {w : Wd} {a : Addr} {vs : List V} {ds : List D} (h : SqT K w.H0 a vs) (r : TrAll K w.H0 vs ds) : Gives K cl w ⟨ds.map .t, []⟩ (Itt K a) := by
  intro i w1 S1 H1 l s1 st
  have h1 : SqT K H1 a vs := seqT_same (l.same.trans s1.same) h
  have h2 : WRs K w1 vs (ds.map .t) := WRs.le l (wrs_of r)
  refine ⟨fun r e => ?_, fun e => ⟨vs, h1, by rw [Paired.length h2]; exact Nat.le_of_eq e.symm⟩⟩
  obtain ⟨v, e1, e2⟩ := h2.get e
  refine ⟨⟨vs, v, h1, e1⟩, fun x H2 y => ?_⟩
  obtain ⟨rfl, y⟩ := y
  have := y vs h1
  rw [e1] at this
  cases this
  exact ⟨w1, Wd.le.refl _, s1, e2⟩
theorem gives_tree {K : PySem.W.Frag} {cl : Str → Addr} {w : Wd} {a : Addr} {vs : List V} {ws : List Wv} (h : SqL K w.H0 a vs) (r : WRs K w vs ws) : Gives K cl w ⟨ws, []⟩ (Itl K a) :=
  gives_list fun w1 S1 H1 l s1 st => ⟨vs, (l.same.trans s1.same).seq h, WRs.le l r⟩
/-- what stands behind a source -/
theorem srcOf_ok {K : PySem.W.Frag} {cl : Str → Addr} {w : Wd} {S : Store} {H : Hp} (s : Sat K cl w S H) {v : V} {r : Wv} {src : Src} (h : WR K w v r) (e : srcOf r S = .ok src S) :
    ∃ a, v = .ref a ∧ (((∃ vs, SqL K H a vs) ∧ Gives K cl w src (Itl K a) ∧ seqT r = none) ∨ ((∃ vs, SqT K H a vs) ∧ Gives K cl w src (Itt K a) ∧ (seqT r).isSome = true)) := by
  unfold srcOf at e
  split at e
  · cases e
    cases h with
    | lst h1 h2 => exact ⟨_, rfl, .inl ⟨⟨_, SqL.of (s.same _ _ h1)⟩, gives_tree (SqL.of h1) (wrs_of h2), rfl⟩⟩
  · cases e
    cases h with
    | tup h1 h2 => exact ⟨_, rfl, .inr ⟨⟨_, seqT_same s.same h1⟩, gives_tup h1 h2, rfl⟩⟩
  · rename_i k
    obtain ⟨hk, rfl⟩ := h
    refine ⟨_, rfl, .inl ?_⟩
    split at e
    · rename_i ws ec
      cases e
      obtain ⟨z, vs, ev, rv⟩ := s.cell k _ ec
      refine ⟨⟨vs, SqL.of ev⟩, gives_list fun w1 S1 H1 l s1 st => ?_, rfl⟩
      have e1 : S1[k]? = some (.lst ws) := by
        have := List.all_eq_true.mp st (k, ws) (by simp)
        exact of_decide_eq_true this
      obtain ⟨_, vs1, ev1, rv1⟩ := s1.cell k _ e1
      rw [l.φ k hk] at ev1
      exact ⟨vs1, SqL.of ev1, rv1⟩
    · rename_i ds ec
      cases e
      have ck := s.cell k _ ec
      cases ck with
      | lst h1 h2 => exact ⟨⟨_, SqL.of (s.same _ _ h1)⟩, gives_tree (SqL.of h1) (wrs_of h2), rfl⟩
    · rename_i ws ec
      cases e
      obtain ⟨vs, e1, r1⟩ := s.cell k _ ec
      exact ⟨⟨vs, s.same.seq e1⟩, gives_tree e1 r1, rfl⟩
    · cases e
  · cases e
def fSeq (f : FE) : FI := fun δ S => (f δ S).bind srcOf
theorem srcOf_store {r : Wv} {S S' : Store} {src : Src} (e : srcOf r S = .ok src S') : S' = S := by
  unfold srcOf at e
  split at e
  · cases e; rfl
  · cases e; rfl
  · split at e
    · cases e; rfl
    · cases e; rfl
    · cases e; rfl
    · cases e
  · cases e
theorem den_iter {tg e : Expr} {f : FE} (h : DenE X cl W e f) : DenI X cl W tg e (fSeq f) := by
  refine PI.imp (PI.or (pi_list h) (pi_tup h)) fun σ H R ⟨w, S, δ, sat, sl, q⟩ => ?_
  unfold fSeq at q
  cases e1 : f δ S with
  | exc C fs S1 =>
    rw [e1] at q
    refine .inl ⟨w, S, δ, sat, sl, ?_⟩
    rw [e1]
    exact q
  | stuck => rw [e1] at q; exact q.elim
  | ok r S1 =>
    rw [e1] at q
    cases e2 : srcOf r S1 with
    | exc C fs S2 =>
      exfalso
      unfold srcOf at e2
      split at e2 <;> first | cases e2 | (split at e2 <;> cases e2)
    | stuck => rw [show (Out.ok r S1).bind srcOf = srcOf r S1 from rfl, e2] at q; exact q.elim
    | ok src S2 =>
      rw [show (Out.ok r S1).bind srcOf = srcOf r S1 from rfl, e2] at q
      cases srcOf_store e2
      cases ht : seqT r with
      | none =>
        refine .inl ⟨w, S, δ, sat, sl, ?_⟩
        rw [e1]
        intro w1 H1 x l1 s1 r1
        obtain ⟨a, rfl, z⟩ := srcOf_ok s1 r1 e2
        rcases z with ⟨ex, g, _⟩ | ⟨_, _, z⟩
        · exact ⟨a, rfl, ex, q w1 H1 l1 s1 w1 H1 _ (Wd.le.refl _) s1 g⟩
        · rw [ht] at z; cases z
      | some ds =>
        refine .inr ⟨w, S, δ, sat, sl, ?_⟩
        rw [e1]
        intro w1 H1 x l1 s1 r1
        obtain ⟨a, rfl, z⟩ := srcOf_ok s1 r1 e2
        rcases z with ⟨_, _, z⟩ | ⟨ex, g, _⟩
        · rw [ht] at z; cases z
        · exact ⟨a, rfl, ex, q w1 H1 l1 s1 w1 H1 _ (Wd.le.refl _) s1 g⟩
/-- range -/
def rngL (lo : Int) (n : Nat) : List Wv := (List.range n).map fun (i : Nat) => .t (.int (lo + (i : Int)))
theorem gives_range {K : PySem.W.Frag} {cl : Str → Addr} {w : Wd} {lo : Int} {n : Nat} : Gives K cl w ⟨rngL lo n, []⟩ (Itr lo n) := by
  intro i w1 S1 H1 l s1 st
  refine ⟨fun r e => ?_, fun e => ?_⟩
  · have e9 : (rngL lo n)[i]? = some r := e
    unfold rngL at e9
    rw [List.getElem?_map] at e9
    cases e1 : (List.range n)[i]? with
    | none => rw [e1] at e9; cases e9
    | some j =>
      rw [e1] at e9
      have hi : i < n := by
        have := (List.getElem?_eq_some_iff.mp e1).1
        rw [List.length_range] at this
        exact this
      have hj : j = i := by
        rw [List.getElem?_range hi] at e1
        exact (Option.some.inj e1).symm
      subst hj
      have e8 := Option.some.inj e9
      subst e8
      refine ⟨hi, fun x H2 y => ?_⟩
      obtain ⟨rfl, rfl⟩ := y
      exact ⟨w1, Wd.le.refl _, s1, Tr.int _⟩
  · have e : i = (rngL lo n).length := e
    unfold rngL at e
    rw [List.length_map, List.length_range] at e
    exact Nat.le_of_eq e.symm
def BIG : Int := 2 ^ 62
def gRange1 (rs : List Wv) (S : Store) : Out Src := match rs with
  | [.t (.int j)] => if -BIG ≤ j ∧ j < BIG then .ok ⟨rngL 0 j.toNat, []⟩ S else .stuck
  | _ => .stuck
def gRange2 (rs : List Wv) (S : Store) : Out Src := match rs with
  | [.t (.int i), .t (.int j)] => if -BIG ≤ i ∧ i < BIG ∧ -BIG ≤ j ∧ j < BIG then .ok ⟨rngL i (j - i).toNat, []⟩ S else .stuck
  | _ => .stuck
def fA {α : Type} (g : List Wv → Store → Out α) (f : FA) : Dl → Store → Out α := fun δ S => (f δ S).bind g
theorem OkA.bindG {K : PySem.W.Frag} {w : Wd} {α : Type} {o : Out (List Wv)} {g : List Wv → Store → Out α} {Q : Wd → α → Store → Hp → Prop} {E : XK} (x : OkG K cl w (o.bind g) Q E) :
    OkA K cl w o (fun vs H1 => ∃ w1 rs S1, w.le w1 ∧ Sat K cl w1 S1 H1 ∧ WRs K w1 vs rs ∧ OkG K cl w1 (g rs S1) Q E) E := by
  cases o with
  | ok r S => exact fun w1 H1 v l s rr => ⟨w1, r, S, l, s, rr, OkG.le l x⟩
  | exc C fs S => exact x
  | stuck => exact x
theorem den_range1 {tg a : Expr} {f : FA} {p pos : Pos} (hm : X.mg "range" = none) (ha : DenA X cl W [a] f) (hg : Gl X "range" := by rfl) (hs : starEach [a] X.env = [(false, eval a X.env)] := by rfl) : DenI X cl W tg (.Call (.Name "range" p) [a] [] pos) (fA gRange1 f) := by
  refine PI.imp (pi_range1 hg hm ha hs) fun σ H R ⟨w, S, δ, sat, sl, q⟩ => ⟨w, S, δ, sat, sl, OkA.mono (OkA.bindG q) (fun vs H1 ⟨w1, rs, S1, l1, s1, r1, q1⟩ => ?_) fun _ _ _ z => z⟩
  unfold gRange1 at q1
  split at q1
  · obtain ⟨v, rfl, h⟩ := r1.one
    cases Tr.asInt h
    split at q1
    · rename_i c
      exact ⟨_, rfl, c.1, c.2, q1 w1 H1 (Wd.le.refl _) s1 w1 H1 _ (Wd.le.refl _) s1 gives_range⟩
    · exact q1.elim
  · exact q1.elim
theorem den_range2 {tg a b : Expr} {f : FA} {p pos : Pos} (hm : X.mg "range" = none) (ha : DenA X cl W [a, b] f) (hg : Gl X "range" := by rfl) (hs : starEach [a, b] X.env = [(false, eval a X.env), (false, eval b X.env)] := by rfl) (hs2 : starEach [b] X.env = [(false, eval b X.env)] := by rfl) :
    DenI X cl W tg (.Call (.Name "range" p) [a, b] [] pos) (fA gRange2 f) := by
  refine PI.imp (pi_range2 hg hm ha hs hs2) fun σ H R ⟨w, S, δ, sat, sl, q⟩ => ⟨w, S, δ, sat, sl, OkA.mono (OkA.bindG q) (fun vs H1 ⟨w1, rs, S1, l1, s1, r1, q1⟩ => ?_) fun _ _ _ z => z⟩
  unfold gRange2 at q1
  split at q1
  · obtain ⟨v, u, rfl, h, k⟩ := r1.two
    cases Tr.asInt h; cases Tr.asInt k
    split at q1
    · rename_i c
      exact ⟨_, _, rfl, ⟨c.1, c.2.1, c.2.2.1, c.2.2.2⟩, q1 w1 H1 (Wd.le.refl _) s1 w1 H1 _ (Wd.le.refl _) s1 gives_range⟩
    · exact q1.elim
  · exact q1.elim

/-! ### for -/
def loopS (src : Src) (tg : FG) (body : FS) : List Wv → Dl → Store → OutS
  | [], δ, S => if src.still S = true then .nx δ S else .stuck
  | r :: rs, δ, S => if src.still S = true then (match tg r δ S with
    | .ok δ1 S1 => (match body δ1 S1 with
      | .nx δ2 S2 => loopS src tg body rs δ2 S2
      | .ct δ2 S2 => loopS src tg body rs δ2 S2
      | .bk δ2 S2 => .nx δ2 S2
      | o => o)
    | _ => .stuck) else .stuck
def sFor (it : FI) (tg : FG) (body : FS) : FS := fun δ S => (it δ S).thenS δ fun s S1 => loopS s tg body s.items δ S1
theorem den_for {vs : List Nat} {tg iter : Expr} {bd : List Stmt} {it : FI} {g : FG} {f : FS} {pos : Pos} (hp : PassesOwn (model X.prog X.w) X.A X.env X.xe) (hc : X.calm = true) (hi : DenI X cl W tg iter it) (hg : DenG X cl vs tg g) (hb : DenSs X cl W bd f)
    (hs : ∀ x, foldedSetIterable iter X.env x = pure x := by intro _; rfl) : DenS X cl W (.For tg iter bd [] pos) (sFor it g f) := by
  refine PS.imp (ps_for hp hc hi hg hb hs) fun D σ H ⟨w, S, δ, sat, sl, q⟩ => ⟨w, S, δ, sat, sl, ?_⟩
  refine OkG.mono (OkG.thenS sl q) (fun w1 src S1 H1 _ ⟨l1, s1, q1⟩ => ?_) fun _ _ _ z => z
  intro w2 H2 J l2 s2 gv
  refine ⟨fun i m σ H => m = src.items.length - i ∧ i ≤ src.items.length ∧ ∃ w3 S3 δ3, w2.le w3 ∧ Sat X.K cl w3 S3 H ∧ Slots X.K w3 σ δ3 ∧ OkS X.K cl w3 (loopS src g f (src.items.drop i) δ3 S3) D W,
    ⟨_, rfl, Nat.zero_le _, w2, S1, δ, Wd.le.refl _, s2, sl.le (l1.trans l2), by rw [List.drop_zero]; exact q1.le l2⟩, ?_⟩
  rintro i m σ H ⟨rfl, hi, w3, S3, δ3, l3, s3, sl3, q3⟩
  by_cases hlt : i < src.items.length
  · have ed : src.items.drop i = src.items[i] :: src.items.drop (i + 1) := List.drop_eq_getElem_cons hlt
    have eg : src.items[i]? = some src.items[i] := List.getElem?_eq_getElem hlt
    generalize src.items[i] = r at ed eg
    rw [ed] at q3
    unfold loopS at q3
    split at q3
    · rename_i st
      obtain ⟨go, yl⟩ := (gv i w3 S3 H l3 s3 st).1 r eg
      refine .inr ⟨go, fun σ' H' => ∃ w4 S4 δ4, w2.le w4 ∧ Sat X.K cl w4 S4 H' ∧ Slots X.K w4 σ' δ4 ∧ OkS X.K cl w4 (loopS src g f (src.items.drop (i + 1)) δ4 S4) D W,
        fun σ' H' z => ⟨src.items.length - (i + 1), by omega, rfl, hlt, z⟩, fun x H' y => ?_⟩
      obtain ⟨w4, l4, s4, r4⟩ := yl x H' y
      refine ⟨w4, S3, δ3, r, s4, sl3.le l4, r4, ?_⟩
      split at q3
      · rename_i δ5 S5 e5
        rw [e5]
        intro w5 H5 σ5 l5 s5 sl5 _
        have lz : w2.le w5 := l3.trans (l4.trans l5)
        have q3 := q3.le (l4.trans l5)
        refine ⟨w5, S5, δ5, s5, sl5, ?_⟩
        cases e6 : f δ5 S5 with
        | nx δ6 S6 => rw [e6] at q3; exact fun w6 H6 σ6 l6 s6 sl6 => ⟨w6, S6, δ6, lz.trans l6, s6, sl6, q3.le l6⟩
        | ct δ6 S6 => rw [e6] at q3; exact fun w6 H6 σ6 l6 s6 sl6 => ⟨w6, S6, δ6, lz.trans l6, s6, sl6, q3.le l6⟩
        | bk δ6 S6 => rw [e6] at q3; exact q3
        | rt r6 S6 => rw [e6] at q3; exact q3
        | exc C fs δ6 S6 => rw [e6] at q3; exact q3
        | stuck => rw [e6] at q3; exact q3.elim
      · exact q3.elim
    · exact q3.elim
  · have e : i = src.items.length := by omega
    rw [List.drop_eq_nil_of_le (by omega)] at q3
    unfold loopS at q3
    split at q3
    · rename_i st
      exact .inl ⟨(gv i w3 S3 H l3 s3 st).2 e, q3 w3 H σ (Wd.le.refl _) s3 sl3⟩
    · exact q3.elim

/-! ### comprehensions -/
theorem wipe_idem {σ : Sg} : ∀ {vs : List Nat}, L2.wipe (L2.wipe σ vs) vs = L2.wipe σ vs := by
  intro vs
  have key : ∀ us : List Nat, (∀ u ∈ us, u ∈ vs) → L2.wipe (L2.wipe σ us) vs = L2.wipe σ vs := by
    intro us
    induction us with
    | nil => intro _; rfl
    | cons u us ih =>
      intro h
      show L2.wipe ((L2.wipe σ us).set u none) vs = _
      rw [wipe_set (h u List.mem_cons_self)]
      exact ih fun x hx => h x (List.mem_cons_of_mem _ hx)
  exact key vs fun _ h => h
def wipeD (δ : Dl) : List Nat → Dl
  | [] => δ
  | v :: vs => (wipeD δ vs).set v none
theorem Slots.wipe {K : PySem.W.Frag} {w : Wd} {σ : Sg} {δ : Dl} (x : Slots K w σ δ) : ∀ vs, Slots K w (L2.wipe σ vs) (wipeD δ vs)
  | [] => x
  | v :: vs => (Slots.wipe x vs).unset v
def compL (src : Src) (tg : FG) (test : FT) (elt : FE) (k : Nat) (δ : Dl) : List Wv → Store → Out Wv
  | [], S => if src.still S = true then .ok (.c k) S else .stuck
  | r :: rs, S => if src.still S = true then (match tg r δ S with
    | .ok δ1 S1 => (match test δ1 S1 with
      | .ok true S2 => (match elt δ1 S2 with
        | .ok y S3 => (match S3[k]? with
          | some (.lst acc) => if acc.length < LIM then compL src tg test elt k δ rs (S3.set k (.lst (acc ++ [y]))) else .stuck
          | _ => .stuck)
        | _ => .stuck)
      | .ok false S2 => compL src tg test elt k δ rs S2
      | _ => .stuck)
    | _ => .stuck) else .stuck
def cCompC (it : FI) (vs : List Nat) (tg : FG) (test : FT) (elt : FE) : FE := fun δ S => (it δ S).bind fun s S1 => compL s tg test elt S1.length (wipeD δ vs) s.items (S1 ++ [.lst []])
theorem OkG.bindL {K : PySem.W.Frag} {w : Wd} {α : Type} {o : Out α} {g : α → Store → Out Wv} {Q : VK} {E : XK} (x : OkE K cl w (o.bind g) Q E) :
    OkG K cl w o (fun w1 r S1 H1 => w.le w1 ∧ OkE K cl w1 (g r S1) Q E) E := by
  cases o with
  | ok r S => exact fun w1 H1 l s => ⟨l, OkE.le l x⟩
  | exc C fs S => exact x
  | stuck => exact x
theorem tdenLc {K : PySem.W.Frag} {it : FI} {vs : List Nat} {tg : FG} {test : FT} {elt : FE} {σ : Sg} {H : Hp} {Q : VK} (h : tDen K cl W (cCompC it vs tg test elt) σ H Q) :
    tLc (tDenI K cl W it) (tDenG K cl vs tg) (tDenT K cl (fun _ _ _ _ => False) test) (tDen K cl (fun _ _ _ _ => False) elt) vs σ H Q := by
  obtain ⟨w, S, δ, sat, sl, q⟩ := h
  refine ⟨w, S, δ, sat, sl, OkG.mono (OkG.bindL q) (fun w1 src S1 H1 s1 ⟨l1, q1⟩ => ?_) fun _ _ _ z => z⟩
  intro w2 H2 J l2 s2 gv D hD
  have q1 := q1.le l2
  have s3 : Sat K cl (w2.push D) (S1 ++ [.lst []]) (upd H2 D (.lst [])) := s2.newLst hD .nil
  have hk : w2.n = S1.length := s2.n
  have hφ : (w2.push D).φ S1.length = D := by rw [← hk]; exact w2.push_at D
  have hkn : S1.length < (w2.push D).n := by rw [← hk]; exact Nat.lt_succ_self _
  generalize hkk : S1.length = k at q1 hφ hkn
  refine ⟨fun i m H => m = src.items.length - i ∧ i ≤ src.items.length ∧ ∃ w3 S3, (w2.push D).le w3 ∧ Sat K cl w3 S3 H ∧ OkE K cl w3 (compL src tg test elt k (wipeD δ vs) (src.items.drop i) S3) Q fun c d H' => W c d σ H',
    ⟨_, rfl, Nat.zero_le _, w2.push D, S1 ++ [.lst []], Wd.le.refl _, s3, by rw [List.drop_zero]; exact q1.le (w2.push_le D)⟩, ?_⟩
  rintro i m H ⟨rfl, hi, w3, S3, l3, sa3, q3⟩
  have l23 : w2.le w3 := (w2.push_le D).trans l3
  have slw : Slots K w (L2.wipe σ vs) (wipeD δ vs) := sl.wipe vs
  have lw : w.le w3 := l1.trans (l2.trans l23)
  by_cases hlt : i < src.items.length
  · have ed : src.items.drop i = src.items[i] :: src.items.drop (i + 1) := List.drop_eq_getElem_cons hlt
    have eg : src.items[i]? = some src.items[i] := List.getElem?_eq_getElem hlt
    generalize src.items[i] = r at ed eg
    rw [ed] at q3
    unfold compL at q3
    split at q3
    · rename_i st
      obtain ⟨go, yl⟩ := (gv i w3 S3 H l23 sa3 st).1 r eg
      refine .inr ⟨go, fun H' => ∃ w4 S4, (w2.push D).le w4 ∧ Sat K cl w4 S4 H' ∧ OkE K cl w4 (compL src tg test elt k (wipeD δ vs) (src.items.drop (i + 1)) S4) Q fun c d H' => W c d σ H',
        fun H' z => ⟨src.items.length - (i + 1), by omega, rfl, hlt, z⟩, fun x H' y => ?_⟩
      obtain ⟨w4, l4, s4, r4⟩ := yl x H' y
      refine ⟨w4, S3, wipeD δ vs, r, s4, slw.le (lw.trans l4), r4, ?_⟩
      split at q3
      · rename_i δ5 S5 e5
        rw [e5]
        intro w5 H5 σ5 l5 s5 sl5 ew
        have q3 := q3.le (l4.trans l5)
        refine ⟨ew.trans wipe_idem, w5, S5, δ5, s5, sl5, ?_⟩
        split at q3
        · rename_i S6 e6
          rw [e6]
          intro w6 H6 l6 s6
          refine iteT ⟨w6, S6, δ5, s6, sl5.le l6, ?_⟩
          split at q3
          · rename_i y7 S7 e7
            rw [e7]
            intro w7 H7 v l7 s7 r7
            have l37 : (w2.push D).le w7 := l3.trans (l4.trans (l5.trans (l6.trans l7)))
            split at q3
            · rename_i acc ec
              split at q3
              · rename_i hl
                have h7 : w7.φ k = D := (l37.φ k hkn).trans hφ
                obtain ⟨z7, us, ev, rv⟩ := s7.cell k _ ec
                rw [h7] at ev z7
                refine ⟨us, ev, by rw [Paired.length rv]; exact lim_lt hl, w7, _, l37, ?_, q3.le (l6.trans l7)⟩
                have s8 := s7.setCell (c' := .lst (acc ++ [y7])) (o := .lst (us ++ [v])) ec rfl ⟨by rw [h7]; exact z7, _, upd_same, WRs.append rv (.cons r7 .nil)⟩ rfl
                rw [h7] at s8
                exact s8
              · exact q3.elim
            · exact q3.elim
          · exact q3.elim
        · rename_i S6 e6
          rw [e6]
          intro w6 H6 l6 s6
          exact iteF ⟨w6, S6, l3.trans (l4.trans (l5.trans l6)), s6, q3.le l6⟩
        · exact q3.elim
      · exact q3.elim
    · exact q3.elim
  · have e : i = src.items.length := by omega
    rw [List.drop_eq_nil_of_le (by omega)] at q3
    unfold compL at q3
    split at q3
    · rename_i st
      refine .inl ⟨(gv i w3 S3 H l23 sa3 st).2 e, q3 w3 H (.ref D) (Wd.le.refl _) sa3 ⟨Nat.lt_of_lt_of_le hkn l3.n, by rw [l3.φ k hkn, hφ]⟩⟩
    · exact q3.elim
end
end Dn

/-! Dn, part 6: freezing; comprehensions as expressions; while; lists that change. -/
namespace Dn
open PySem PySem.Spec PyProof.Rows L2

/-! ### freezing: a cell becomes a tree for ever -/
def frzs (f : Store → Wv → Option (D × Store)) : Store → List Wv → Option (List D × Store)
  | S, [] => some ([], S)
  | S, r :: rs => match f S r with
    | some (d, S1) => match frzs f S1 rs with
      | some (ds, S2) => some (d :: ds, S2)
      | none => none
    | none => none
def frz : Nat → Store → Wv → Option (D × Store)
  | _, S, .t d => some (d, S)
  | 0, _, .c _ => none
  | n + 1, S, .c k => match S[k]? with
    | some (.frz d) => some (d, S)
    | some (.lst ws) => match frzs (frz n) S ws with
      | some (ds, S1) => if S1[k]? = some (.lst ws) then some (.list ds, S1.set k (.frz (.list ds))) else none
      | none => none
    | _ => none
section
variable {K : PySem.W.Frag} {cl : Str → Addr}
/-- what freezing does: the heap stays, the world learns -/
structure Froz (K : PySem.W.Frag) (cl : Str → Addr) (w w' : Wd) (S' : Store) (H : Hp) : Prop where
  le : w.le w'
  φ : w'.φ = w.φ
  n : w'.n = w.n
  sat : Sat K cl w' S' H
def FrzOk (K : PySem.W.Frag) (cl : Str → Addr) (f : Store → Wv → Option (D × Store)) : Prop := ∀ w S H r d S', Sat K cl w S H → f S r = some (d, S') → (∃ v, WR K w v r) → ∃ w', Froz K cl w w' S' H ∧ ∀ v, WR K w v r → Tr K w'.H0 v d
theorem frzs_ok {f : Store → Wv → Option (D × Store)} (hf : FrzOk K cl f) : ∀ (rs : List Wv) w S H ds S', Sat K cl w S H → frzs f S rs = some (ds, S') → (∃ vs, WRs K w vs rs) → ∃ w', Froz K cl w w' S' H ∧ ∀ vs, WRs K w vs rs → TrAll K w'.H0 vs ds
  | [], w, S, H, ds, S', s, e, _ => by
    simp [frzs] at e
    obtain ⟨rfl, rfl⟩ := e
    exact ⟨w, ⟨Wd.le.refl _, rfl, rfl, s⟩, fun vs h => by cases h; exact .nil⟩
  | r :: rs, w, S, H, ds, S', s, e, ⟨vs0, h0⟩ => by
    cases h0 with
    | cons a0 b0 =>
      unfold frzs at e
      split at e
      · rename_i d S1 e1
        split at e
        · rename_i ds1 S2 e2
          cases e
          obtain ⟨w1, F1, g1⟩ := hf w S H r d S1 s e1 ⟨_, a0⟩
          obtain ⟨w2, F2, g2⟩ := frzs_ok hf rs w1 S1 H ds1 _ F1.sat e2 ⟨_, WRs.le F1.le b0⟩
          refine ⟨w2, ⟨F1.le.trans F2.le, F2.φ.trans F1.φ, F2.n.trans F1.n, F2.sat⟩, fun vs h => ?_⟩
          cases h with
          | cons a b => exact .cons (tr_same F2.le.same (g1 _ a)) (g2 _ (WRs.le F1.le b))
        · cases e
      · cases e
theorem frz_ok : ∀ n, FrzOk K cl (frz n)
  | 0, w, S, H, .t d, d', S', s, e, _ => by
    simp [frz] at e
    obtain ⟨rfl, rfl⟩ := e
    exact ⟨w, ⟨Wd.le.refl _, rfl, rfl, s⟩, fun v h => h⟩
  | 0, w, S, H, .c k, d', S', s, e, _ => by simp [frz] at e
  | n + 1, w, S, H, .t d, d', S', s, e, _ => by
    simp [frz] at e
    obtain ⟨rfl, rfl⟩ := e
    exact ⟨w, ⟨Wd.le.refl _, rfl, rfl, s⟩, fun v h => h⟩
  | n + 1, w, S, H, .c k, d', S', s, e, ⟨v0, hk0, _⟩ => by
    unfold frz at e
    split at e
    · rename_i d ec
      cases e
      refine ⟨w, ⟨Wd.le.refl _, rfl, rfl, s⟩, fun v h => ?_⟩
      obtain ⟨_, rfl⟩ := h
      exact s.cell k _ ec
    · rename_i ws ec
      obtain ⟨z, vs, ev, rv⟩ := s.cell k _ ec
      split at e
      · rename_i ds S1 e1
        obtain ⟨w1, F1, g1⟩ := frzs_ok (frz_ok n) ws w S H ds S1 s e1 ⟨vs, rv⟩
        split at e
        · rename_i e2
          cases e
          have tr := g1 vs rv
          obtain ⟨z1, vs1, ev1, rv1⟩ := F1.sat.cell k _ e2
          have hφ : w1.φ k = w.φ k := by rw [F1.φ]
          rw [hφ] at ev1 z1
          rw [ev] at ev1
          cases ev1
          have kl : k < S1.length := (List.getElem?_eq_some_iff.mp e2).1
          have l2 : w1.le ⟨upd w1.H0 (w.φ k) (.lst vs), w1.φ, w1.n⟩ := ⟨same_new z1, Nat.le_refl _, fun _ _ => rfl⟩
          refine ⟨⟨upd w1.H0 (w.φ k) (.lst vs), w1.φ, w1.n⟩, ⟨F1.le.trans l2, F1.φ, F1.n, ?_⟩, fun v h => ?_⟩
          · refine ⟨fun b o q => ?_, by rw [List.length_set]; exact F1.sat.n, fun j c q => ?_, fun i j x y q1 q2 h1 h2 h => ?_⟩
            · have q : upd w1.H0 (w.φ k) (.lst vs) b = some o := q
              by_cases hb : b = w.φ k
              · subst hb
                rw [upd_same] at q
                cases q
                exact ev
              · rw [upd_ne hb] at q
                exact F1.sat.same b o q
            · by_cases hj : j = k
              · subst hj
                rw [List.getElem?_set_self kl] at q
                cases q
                show Tr K (upd w1.H0 (w.φ j) (.lst vs)) (.ref (w1.φ j)) (.list ds)
                rw [hφ]
                exact .lst upd_same (trAll_same l2.same tr)
              · rw [List.getElem?_set_ne (Ne.symm hj)] at q
                refine (F1.sat.cell j c q).stay l2 (fun _ => rfl) fun hl => ?_
                show upd w1.H0 (w.φ k) (.lst vs) (w1.φ j) = none
                rw [upd_ne fun e3 => hj (F1.sat.inj j k c _ q e2 hl rfl (e3.trans hφ.symm))]
                exact ((F1.sat.cell j c q).at0 hl).1
            · have live : ∀ m u, (S1.set k (.frz (.list ds)))[m]? = some u → u.live = true → m ≠ k ∧ S1[m]? = some u := fun m u q hl => by
                by_cases hm : m = k
                · subst hm
                  rw [List.getElem?_set_self kl] at q
                  cases q
                  cases hl
                · rw [List.getElem?_set_ne (Ne.symm hm)] at q
                  exact ⟨hm, q⟩
              exact F1.sat.inj i j x y (live i x q1 h1).2 (live j y q2 h2).2 h1 h2 h
          · obtain ⟨_, rfl⟩ := h
            exact .lst upd_same (trAll_same l2.same tr)
        · cases e
      · cases e
    · cases e
end
def outFrz (S : Store) (o : Out Wv) : Out Wv := match o with
  | .ok r S1 => match frz 4 S1 r with
    | some (d, S2) => .ok (.t d) (cutS S S2)
    | none => .stuck
  | .exc C fs S1 => .exc C fs S1
  | .stuck => .stuck
def cFrz (f : FE) : FE := fun δ S => outFrz S (f δ S)
section
variable {X : Cx} {cl : Str → Addr} {W : WX}
theorem tdenFrz {K : PySem.W.Frag} {f : FE} {σ : Sg} {H : Hp} {Q : VK} (h : tDen K cl W (cFrz f) σ H Q) : tDen K cl W f σ H Q := by
  obtain ⟨w, S, δ, sat, sl, q⟩ := h
  refine ⟨w, S, δ, sat, sl, ?_⟩
  unfold cFrz outFrz at q
  split at q
  · rename_i r S1 e1
    rw [e1]
    split at q
    · rename_i d S2 e2
      intro w1 H1 v l1 s1 r1
      obtain ⟨w2, F, g⟩ := frz_ok 4 w1 S1 H1 r d S2 s1 e2 ⟨v, r1⟩
      obtain ⟨w3, l3, e3, _, s3⟩ := sat.cuts (l1.trans F.le) F.sat
      exact q w3 H1 v l3 s3 (by show Tr K w3.H0 v d; rw [e3]; exact g v r1)
    · exact q.elim
  · rename_i C fs S1 e1
    rw [e1]
    exact q
  · exact q.elim
theorem den_frz {e : Expr} {f : FE} (h : DenE X cl W e f) : DenE X cl W e (cFrz f) := PE.imp h fun _ _ _ z => tdenFrz z

/-! ### comprehensions -/
theorem den_compC {vs : List Nat} {own : List (Str × Nat)} {elt tg iter : Expr} {ifs : List Expr} {scope : Scope} {pos : Pos} {it : FI} {g : FG} {test : FT} {f : FE} (hc : X.calm = true) (hN : X.N.Nodup) (hi : DenI X cl W tg iter it) (ok : BlkOk X.N X.env.scope scope own) (hv : own.map (·.2) = vs)
    (hg : ∀ (s : Shared) (H : Hp) (C : Addr) (ca : List (Str × Addr)) (fp : List Addr), DenG (X.blk s H scope (compEnvC scope ca C X.env) fp) cl vs tg g)
    (ht : ∀ (s : Shared) (H : Hp) (C : Addr) (ca : List (Str × Addr)) (fp : List Addr), PTs (X.blk s H scope (compEnvC scope ca C X.env) fp) ifs (tDenT X.K cl (fun _ _ _ _ => False) test))
    (he : ∀ (s : Shared) (H : Hp) (C : Addr) (ca : List (Str × Addr)) (fp : List Addr), DenE (X.blk s H scope (compEnvC scope ca C X.env) fp) cl (fun _ _ _ _ => False) elt f) (hs : ∀ x, foldedSetIterable iter X.env x = pure x := by intro _; rfl) :
    DenE X cl W (.ListComp elt [⟨tg, iter, ifs, 0⟩] scope pos) (cCompC it vs g test f) := by
  exact PE.imp (pe_lc (g := tDenG X.K cl vs g) (tt := tDenT X.K cl (fun _ _ _ _ => False) test) (te := tDen X.K cl (fun _ _ _ _ => False) f) hc hN hi ok (fun s H C ca fp => hg s H C ca fp) (fun s H C ca fp => ht s H C ca fp) (fun s H C ca fp => he s H C ca fp) hs) fun _ _ _ h => by rw [hv]; exact tdenLc h
def fYes : FT := fun _ S => .ok true S
theorem den_noif : PTs X [] (tDenT X.K cl W fYes) := ⟨fun pins s σ H Q I ⟨w, S, δ, sat, sl, q⟩ => pts_nil.run pins s σ H Q I (q w H (Wd.le.refl _) sat)⟩
theorem den_oneif {c : Expr} {f : FT} (h : DenT X cl W c f) : PTs X [c] (tDenT X.K cl W f) := pts_one h
/-- name = [..]: F is the comprehension, or it frozen -/
theorem den_setLc (i : Nat) {vs : List Nat} {own : List (Str × Nat)} {y : Str} {py : Pos} {elt tg iter : Expr} {ifs : List Expr} {scope : Scope} {pos spos : Pos} {it : FI} {g : FG} {test : FT} {f F : FE} (hF : ∀ σ H Q, tDen X.K cl W F σ H Q → tDen X.K cl W (cCompC it vs g test f) σ H Q) (hc : X.calm = true) (hN : X.N.Nodup)
    (hi : DenI X cl W tg iter it) (ok : BlkOk X.N X.env.scope scope own) (hv : own.map (·.2) = vs)
    (hg : ∀ (s : Shared) (H : Hp) (C : Addr) (ca : List (Str × Addr)) (fp : List Addr), DenG (X.blk s H scope (compEnvC scope ca C X.env) fp) cl vs tg g)
    (ht : ∀ (s : Shared) (H : Hp) (C : Addr) (ca : List (Str × Addr)) (fp : List Addr), PTs (X.blk s H scope (compEnvC scope ca C X.env) fp) ifs (tDenT X.K cl (fun _ _ _ _ => False) test))
    (he : ∀ (s : Shared) (H : Hp) (C : Addr) (ca : List (Str × Addr)) (fp : List Addr), DenE (X.blk s H scope (compEnvC scope ca C X.env) fp) cl (fun _ _ _ _ => False) elt f)
    (hsw : swapsWith (.ListComp elt [⟨tg, iter, ifs, 0⟩] scope pos) (some (.Name y py)) spos.line X.env = pure true) (hy : X.N[i]? = some y := by rfl) (hyl : X.env.scope.names.lookup y = some .local := by rfl)
    (hs : ∀ x, foldedSetIterable iter X.env x = pure x := by intro _; rfl) : DenS X cl W (.Assign [.Name y py] (.ListComp elt [⟨tg, iter, ifs, 0⟩] scope pos) spos) (sSet i F) := by
  refine PS.imp (ps_setLc (g := tDenG X.K cl vs g) (tt := tDenT X.K cl (fun _ _ _ _ => False) test) (te := tDen X.K cl (fun _ _ _ _ => False) f) hc hN hy hyl hsw hi ok (fun s H C ca fp => hg s H C ca fp) (fun s H C ca fp => ht s H C ca fp) (fun s H C ca fp => he s H C ca fp) hs) fun E σ H ⟨w, S, δ, sat, sl, q⟩ => ?_
  show tLc (tDenI X.K cl W it) (tDenG X.K cl vs g) (tDenT X.K cl (fun _ _ _ _ => False) test) (tDen X.K cl (fun _ _ _ _ => False) f) (own.map (·.2)) σ H fun x H1 => gName i x σ H1 E.nx
  rw [hv]
  refine tdenLc (hF _ _ _ ⟨w, S, δ, sat, sl, ?_⟩)
  refine OkE.mono (OkE.thenS sl q) (fun x H1 ⟨w1, p, S1, l1, sat1, r1, q1⟩ => ?_) fun _ _ _ z => z
  exact q1 w1 H1 _ (Wd.le.refl _) sat1 ((sl.le l1).set r1 i)

/-! ### while -/
def whileS (t : FT) (body : FS) : Nat → Dl → Store → OutS
  | 0, _, _ => .stuck
  | n + 1, δ, S => match t δ S with
    | .ok true S1 => (match body δ S1 with
      | .nx δ2 S2 => whileS t body n δ2 S2
      | .ct δ2 S2 => whileS t body n δ2 S2
      | .bk δ2 S2 => .nx δ2 S2
      | o => o)
    | .ok false S1 => .nx δ S1
    | .exc C fs S1 => .exc C fs δ S1
    | .stuck => .stuck
/-- n: more than the turns (it may lean on the state ahead of the loop) -/
def sWhile (n : Dl → Store → Nat) (t : FT) (body : FS) : FS := fun δ S => whileS t body (n δ S) δ S
theorem den_while {c : Expr} {bd : List Stmt} {t : FT} {f : FS} {pos : Pos} (n : Dl → Store → Nat) (hp : PassesOwn (model X.prog X.w) X.A X.env X.xe) (hc : DenT X cl W c t) (hb : DenSs X cl W bd f) : DenS X cl W (.While c bd [] pos) (sWhile n t f) := by
  refine PS.imp (ps_while hp hc hb) fun D σ H ⟨w, S, δ, sat, sl, q⟩ => ?_
  unfold sWhile at q
  generalize n δ S = m at q
  refine ⟨fun m σ H => ∃ w S δ, Sat X.K cl w S H ∧ Slots X.K w σ δ ∧ OkS X.K cl w (whileS t f m δ S) D W, ⟨m, w, S, δ, sat, sl, q⟩, ?_⟩
  rintro m σ H ⟨w, S, δ, sat, sl, q⟩
  cases m with
  | zero => exact q.elim
  | succ m =>
    unfold whileS at q
    refine ⟨w, S, δ, sat, sl, ?_⟩
    split at q
    · rename_i S1 e1
      rw [e1]
      intro w1 H1 l1 s1
      refine ⟨fun σ' H' => ∃ w S δ, Sat X.K cl w S H' ∧ Slots X.K w σ' δ ∧ OkS X.K cl w (whileS t f m δ S) D W, fun σ' H' z => ⟨m, Nat.lt_succ_self _, z⟩, w1, S1, δ, s1, sl.le l1, ?_⟩
      have q := q.le l1
      cases e6 : f δ S1 with
      | nx δ6 S6 => rw [e6] at q; exact fun w6 H6 σ6 l6 s6 sl6 => ⟨w6, S6, δ6, s6, sl6, q.le l6⟩
      | ct δ6 S6 => rw [e6] at q; exact fun w6 H6 σ6 l6 s6 sl6 => ⟨w6, S6, δ6, s6, sl6, q.le l6⟩
      | bk δ6 S6 => rw [e6] at q; exact q
      | rt r6 S6 => rw [e6] at q; exact q
      | exc C fs δ6 S6 => rw [e6] at q; exact q
      | stuck => rw [e6] at q; exact q.elim
    · rename_i S1 e1
      rw [e1]
      intro w1 H1 l1 s1
      exact q w1 H1 σ l1 s1 (sl.le l1)
    · rename_i C fs S1 e1
      rw [e1]
      exact fun w1 H1 d l1 s1 x => q w1 H1 σ d l1 s1 (sl.le l1) x
    · exact q.elim
end
end Dn

/-! Dn, part 7: lists that change, stores, constants of the module, isinstance. -/
namespace Dn
open PySem PySem.Spec PyProof.Rows L2
section
variable {X : Cx} {cl : Str → Addr} {W : WX}
theorem OkE.ret0 {K : PySem.W.Frag} {cl : Str → Addr} {w : Wd} {S : Store} {H : Hp} {Q : VK} {E : XK} (q : OkE K cl w (.ok (.t .none) S) Q E) (s : Sat K cl w S H) : Q .non H := q.ret s Tr.non

/-! ### methods of built-in types -/
def isLst (S : Store) (r : Wv) : Bool := (seqL S r).isSome
def isStr : Wv → Bool
  | .t (.str _) => true
  | _ => false
/-- o.m(..): the receiver, its kind looked at, the arguments, then what is done -/
def cM (kind : Store → Wv → Bool) (g : Wv → List Wv → Store → Out Wv) (f : FE) (a : FA) : FE := fun δ S => (f δ S).bind fun p S1 => if kind S1 p = true then (a δ S1).bind fun rs S2 => g p rs S2 else .stuck
def MtOk (K : PySem.W.Frag) (cl : Str → Addr) (g : Wv → List Wv → Store → Out Wv) (r : V → List V → Hp → VK → Prop) : Prop :=
  ∀ (w : Wd) (S : Store) (H : Hp) (x : V) (vs : List V) (p : Wv) (rs : List Wv) (Q : VK) (E : XK), Sat K cl w S H → WR K w x p → WRs K w vs rs → OkE K cl w (g p rs S) Q E → r x vs H Q
def KindOk (K : PySem.W.Frag) (cl : Str → Addr) (T : String) (kind : Store → Wv → Bool) : Prop := ∀ (w : Wd) (S : Store) (H : Hp) (x : V) (p : Wv), Sat K cl w S H → WR K w x p → kind S p = true → tyV K T x H
theorem kind_list {K : PySem.W.Frag} : KindOk K cl "list" isLst := fun w S H x p s h e => by
  unfold isLst at e
  obtain ⟨ws, e⟩ := Option.isSome_iff_exists.mp e
  obtain ⟨a, vs, rfl, h1, _⟩ := seqL_ok s h e
  exact .inl ⟨rfl, vs, h1⟩
theorem kind_str {K : PySem.W.Frag} : KindOk K cl "str" (fun _ => isStr) := fun w S H x p s h e => by
  unfold isStr at e
  dsimp only at e
  split at e
  · cases Tr.asStr h; exact rfl
  · cases e
theorem den_bm {o e : Expr} {es : List Expr} {name : Str} {apos cpos : Pos} {T id : String} {r : V → List V → Hp → VK → Prop} {kind : Store → Wv → Bool} {g : Wv → List Wv → Store → Out Wv} {f : FE} {a : FA} (pa : PlainAttrs T) (slot : Slot T name id) (hty : typeOf (.builtin id) = pure (.type "method_descriptor")) (hm : MtR X id r)
    (hk : KindOk X.K cl T kind) (hg : MtOk X.K cl g r) (ho : DenE X cl W o f) (ha : DenA X cl W (e :: es) a) (hbase : attributeBase o name X.env (eval o X.env) = eval o X.env := by rfl)
    (hfew : ((backTo cpos (starEach (e :: es) X.env)).all (fun x => !x.1) && (backToKw cpos (keywordEach [] X.env)).all (fun x => x.1.isSome)
      && decide ((e :: es).length + ([] : List Keyword).length + (if ([] : List Keyword).isEmpty then 0 else 1) < 30)) = true := by rfl)
    (hline : (apos.endLine == cpos.line) = true := by rfl) (hs : starEach (e :: es) X.env = (false, eval e X.env) :: starEach es X.env := by rfl) (hplain : (backTo cpos (starEach es X.env)).any (·.1) = false := by rfl) : DenE X cl W (.Call (.Attribute o name apos) (e :: es) [] cpos) (cM kind g f a) := by
  refine PE.imp (pe_bm pa slot hty hm ho ha hbase hfew hline hs hplain) fun σ H Q ⟨w, S, δ, sat, sl, q⟩ => ⟨w, S, δ, sat, sl, OkE.mono (OkE.bind q) (fun x H1 ⟨w1, p, S1, l1, s1, r1, q1⟩ => ?_) fun _ _ _ z => z⟩
  split at q1
  · rename_i hkd
    refine ⟨hk w1 S1 H1 x p s1 r1 hkd, w1, S1, δ, s1, sl.le l1, OkA.mono (OkA.bindE q1) (fun vs H2 ⟨w2, rs, S2, l2, s2, r2, q2⟩ => ?_) fun _ _ _ z => z⟩
    exact hg w2 S2 H2 x vs p rs Q _ s2 (r1.le l2) r2 q2
  · exact q1.elim
def cM0 (kind : Store → Wv → Bool) (g : Wv → List Wv → Store → Out Wv) (f : FE) : FE := fun δ S => (f δ S).bind fun p S1 => if kind S1 p = true then g p [] S1 else .stuck
theorem den_bm0 {o : Expr} {name : Str} {apos cpos : Pos} {T id : String} {r : V → List V → Hp → VK → Prop} {kind : Store → Wv → Bool} {g : Wv → List Wv → Store → Out Wv} {f : FE} (pa : PlainAttrs T) (slot : Slot T name id) (hty : typeOf (.builtin id) = pure (.type "method_descriptor")) (hm : MtR X id r)
    (hk : KindOk X.K cl T kind) (hg : MtOk X.K cl g r) (ho : DenE X cl W o f) (hbase : attributeBase o name X.env (eval o X.env) = eval o X.env := by rfl) (hline : (apos.endLine == cpos.line) = true := by rfl) : DenE X cl W (.Call (.Attribute o name apos) [] [] cpos) (cM0 kind g f) := by
  refine PE.imp (pe_bm0 pa slot hty hm ho hbase hline) fun σ H Q ⟨w, S, δ, sat, sl, q⟩ => ⟨w, S, δ, sat, sl, OkE.mono (OkE.bind q) (fun x H1 ⟨w1, p, S1, l1, s1, r1, q1⟩ => ?_) fun _ _ _ z => z⟩
  split at q1
  · rename_i hkd
    exact ⟨hk w1 S1 H1 x p s1 r1 hkd, hg w1 S1 H1 x [] p [] Q _ s1 r1 .nil q1⟩
  · exact q1.elim
/-- append -/
def gApp (p : Wv) (rs : List Wv) (S : Store) : Out Wv := match p, rs with
  | .c k, [r] => match S[k]? with
    | some (.lst ws) => if ws.length < LIM then .ok (.t .none) (S.set k (.lst (ws ++ [r]))) else .stuck
    | _ => .stuck
  | _, _ => .stuck
theorem ok_app {K : PySem.W.Frag} : MtOk K cl gApp rAppend := by
  intro w S H x vs p rs Q E s hx hr h
  unfold gApp at h
  split at h
  · rename_i k r
    obtain ⟨hk, rfl⟩ := hx
    obtain ⟨y, rfl, hy⟩ := hr.one
    split at h
    · rename_i ws ec
      split at h
      · rename_i hl
        obtain ⟨z, us, ev, rv⟩ := s.cell k _ ec
        refine ⟨w.φ k, us, y, rfl, rfl, ev, by rw [Paired.length rv]; exact lim_lt hl, ?_⟩
        exact h.ret0 (s.setCell (c' := .lst (ws ++ [r])) ec rfl ⟨z, _, upd_same, rv.append (.cons hy .nil)⟩ rfl)
      · exact h.elim
    · exact h.elim
  · exact h.elim
theorem den_append {o e : Expr} {apos cpos : Pos} {f : FE} {a : FA} (ho : DenE X cl W o f) (ha : DenA X cl W [e] a) (hbase : attributeBase o "append" X.env (eval o X.env) = eval o X.env := by rfl)
    (hfew : ((backTo cpos (starEach [e] X.env)).all (fun x => !x.1) && (backToKw cpos (keywordEach [] X.env)).all (fun x => x.1.isSome)
      && decide ([e].length + ([] : List Keyword).length + (if ([] : List Keyword).isEmpty then 0 else 1) < 30)) = true := by rfl)
    (hline : (apos.endLine == cpos.line) = true := by rfl) (hs : starEach [e] X.env = (false, eval e X.env) :: starEach [] X.env := by rfl) (hplain : (backTo cpos (starEach [] X.env)).any (·.1) = false := by rfl) : DenE X cl W (.Call (.Attribute o "append" apos) [e] [] cpos) (cM isLst gApp f a) :=
  den_bm PySem.F.plainAttrs_list PySem.F.slot_list_append PySem.F.type_list_append mt_append kind_list ok_app ho ha hbase hfew hline hs hplain
/-- pop -/
def gPop (p : Wv) (rs : List Wv) (S : Store) : Out Wv := match p, rs with
  | .c k, [] => match S[k]? with
    | some (.lst ws) => match ws[ws.length - 1]? with
      | some r => .ok r (S.set k (.lst ws.dropLast))
      | none => .stuck
    | _ => .stuck
  | _, _ => .stuck
theorem WRs.dropLast {K : PySem.W.Frag} {w : Wd} {vs : List V} {ws : List Wv} (h : WRs K w vs ws) : WRs K w vs.dropLast ws.dropLast := by
  rw [List.dropLast_eq_take, List.dropLast_eq_take, Paired.length h]
  exact h.take _
theorem ok_pop {K : PySem.W.Frag} : MtOk K cl gPop rPop := by
  intro w S H x vs p rs Q E s hx hr h
  unfold gPop at h
  split at h
  · rename_i k
    obtain ⟨hk, rfl⟩ := hx
    cases hr
    split at h
    · rename_i ws ec
      split at h
      · rename_i r e
        obtain ⟨z, us, ev, rv⟩ := s.cell k _ ec
        obtain ⟨v, e1, e2⟩ := rv.get e
        refine ⟨w.φ k, us, v, rfl, rfl, ev, by rw [Paired.length rv]; exact e1, ?_⟩
        exact h.ret (s.setCell (c' := .lst ws.dropLast) ec rfl ⟨z, _, upd_same, rv.dropLast⟩ rfl) e2
      · exact h.elim
    · exact h.elim
  · exact h.elim
theorem den_pop {o : Expr} {apos cpos : Pos} {f : FE} (ho : DenE X cl W o f) (hbase : attributeBase o "pop" X.env (eval o X.env) = eval o X.env := by rfl) (hline : (apos.endLine == cpos.line) = true := by rfl) : DenE X cl W (.Call (.Attribute o "pop" apos) [] [] cpos) (cM0 isLst gPop f) :=
  den_bm0 PySem.F.plainAttrs_list PySem.F.slot_list_pop PySem.F.type_list_pop mt_pop kind_list ok_pop ho hbase hline
def gPopAt (p : Wv) (rs : List Wv) (S : Store) : Out Wv := match p, rs with
  | .c k, [.t (.int i)] => match S[k]? with
    | some (.lst ws) => match ixN ws.length i with
      | some j => if -1000000 < i ∧ i < 1000000 then (match ws[j]? with
        | some r => .ok r (S.set k (.lst (ws.eraseIdx j)))
        | none => .stuck) else .stuck
      | none => .stuck
    | _ => .stuck
  | _, _ => .stuck
theorem ok_popAt {K : PySem.W.Frag} : MtOk K cl gPopAt rPopAt := by
  intro w S H x vs p rs Q E s hx hr h
  unfold gPopAt at h
  split at h
  · rename_i k i
    obtain ⟨hk, rfl⟩ := hx
    obtain ⟨y, rfl, hy⟩ := hr.one
    cases Tr.asInt hy
    split at h
    · rename_i ws ec
      split at h
      · rename_i j ej
        split at h
        · rename_i hb
          split at h
          · rename_i r e
            obtain ⟨z, us, ev, rv⟩ := s.cell k _ ec
            obtain ⟨v, e1, e2⟩ := rv.get e
            refine ⟨w.φ k, us, i, j, v, rfl, rfl, ev, by omega, by omega, by rw [Paired.length rv]; exact (ixN_seq ej).1, e1, ?_⟩
            exact h.ret (s.setCell (c' := .lst (ws.eraseIdx j)) ec rfl ⟨z, _, upd_same, rv.eraseIdx j⟩ rfl) e2
          · exact h.elim
        · exact h.elim
      · exact h.elim
    · exact h.elim
  · exact h.elim
theorem den_popAt {o e : Expr} {apos cpos : Pos} {f : FE} {a : FA} (ho : DenE X cl W o f) (ha : DenA X cl W [e] a) (hbase : attributeBase o "pop" X.env (eval o X.env) = eval o X.env := by rfl)
    (hfew : ((backTo cpos (starEach [e] X.env)).all (fun x => !x.1) && (backToKw cpos (keywordEach [] X.env)).all (fun x => x.1.isSome)
      && decide ([e].length + ([] : List Keyword).length + (if ([] : List Keyword).isEmpty then 0 else 1) < 30)) = true := by rfl)
    (hline : (apos.endLine == cpos.line) = true := by rfl) (hs : starEach [e] X.env = (false, eval e X.env) :: starEach [] X.env := by rfl) (hplain : (backTo cpos (starEach [] X.env)).any (·.1) = false := by rfl) : DenE X cl W (.Call (.Attribute o "pop" apos) [e] [] cpos) (cM isLst gPopAt f a) :=
  den_bm PySem.F.plainAttrs_list PySem.F.slot_list_pop PySem.F.type_list_pop mt_popAt kind_list ok_popAt ho ha hbase hfew hline hs hplain

/-! ### several targets at once -/
def sPack (f : FA) (g : FGs) : FS := fun δ S => (f δ S).thenS δ fun rs S1 => match g rs δ S1 with
  | .ok δ1 S2 => if rs.length < LIM then .nx δ1 S2 else .stuck
  | _ => .stuck
theorem OkA.thenS {K : PySem.W.Frag} {w : Wd} {o : Out (List Wv)} {δ : Dl} {g : List Wv → Store → OutS} {E : Ends} {σ : Sg} (sl : Slots K w σ δ) (x : OkS K cl w (o.thenS δ g) E W) :
    OkA K cl w o (fun v H1 => ∃ w1 r S1, w.le w1 ∧ Sat K cl w1 S1 H1 ∧ WRs K w1 v r ∧ OkS K cl w1 (g r S1) E W) fun c d H' => W c d σ H' := by
  cases o with
  | ok r S => exact fun w1 H1 v l s rr => ⟨w1, r, S, l, s, rr, OkS.le l x⟩
  | exc C fs S => exact fun w1 H1 d l s r => x w1 H1 σ d l s (sl.le l) r
  | stuck => exact x
/-- (t1, t2, ..) = (e1, e2, ..), the tuple made and taken apart -/
theorem den_pack {vs : List Nat} {ts es : List Expr} {f : FA} {g : FGs} {k1 k2 n : Nat} {p1 p2 pos : Pos} (hc : X.calm = true) (ha : DenA X cl W es f) (hg : DenGs X cl vs ts g) (hn : (assignEach ts X.env).length = n) (hl : es.length = n) (hlen : ∀ δ S rs S1, f δ S = .ok rs S1 → rs.length = n) (hst : (assignEach ts X.env).findIdx? (·.1) = none := by rfl)
    (hs : swapsWithSole [.Tuple ts k1 p1] (.Tuple es k2 p2) pos.line X.env = pure false := by rfl) (hw : swappedStores [.Tuple ts k1 p1] (.Tuple es k2 p2) X.env = pure none := by rfl)
    (h1 : (assignEach [.Tuple ts k1 p1] X.env).map (·.2) = [assign (.Tuple ts k1 p1) X.env] := by rfl) : DenS X cl W (.Assign [.Tuple ts k1 p1] (.Tuple es k2 p2) pos) (sPack f g) := by
  refine PS.imp (ps_asg (pe_tup ha) (pg_tup hc hg hn hst) hs hw h1) fun E σ H ⟨w, S, δ, sat, sl, q⟩ => ⟨w, S, δ, sat, sl, ?_⟩
  cases e0 : f δ S with
  | exc C fs S1 => unfold sPack at q; rw [e0] at q; exact fun w1 H1 d l s r => q w1 H1 σ d l s (sl.le l) r
  | stuck => unfold sPack at q; rw [e0] at q; exact q
  | ok rs S1 =>
    unfold sPack at q
    rw [e0] at q
    intro w1 H1 us l1 s1 r1
    have q1 : OkS X.K cl w1 (match g rs δ S1 with
      | .ok δ1 S2 => if rs.length < LIM then .nx δ1 S2 else .stuck
      | _ => .stuck) E W := OkS.le l1 q
    split at q1
    · rename_i δ1 S2 e1
      split at q1
      · rename_i hlm
        refine ⟨by rw [Paired.length r1]; exact Nat.le_of_lt (lim_lt hlm), fun p hp => ?_⟩
        obtain ⟨l2, s2⟩ := s1.frozen hp (.tup us)
        refine ⟨p, us, rfl, SqT.of upd_same, (Paired.length r1).trans (hlen _ _ _ _ e0), _, S1, δ, rs, s2, (sl.le l1).le l2, WRs.le l2 r1, ?_⟩
        rw [e1]
        exact fun w3 H3 σ3 l3 s3 sl3 _ => q1 w3 H3 σ3 (l2.trans l3) s3 sl3
      · exact q1.elim
    · exact q1.elim
def sPar (i j : Nat) (f : FA) : FS := fun δ S => (f δ S).thenS δ fun rs S1 => match rs with
  | [a, b] => .nx ((δ.set i (some a)).set j (some b)) S1
  | _ => .stuck
theorem den_par (i j : Nat) {x y : Str} {a b : Expr} {f : FA} {px py pt pos : Pos} {kt k2 pt2} (hc : X.calm = true) (hN : X.N.Nodup) (hij : i ≠ j) (ha : DenA X cl W [a, b] f)
    (hw : swappedStores [.Tuple [.Name x px, .Name y py] kt pt] (.Tuple [a, b] k2 pt2) X.env = pure (some [x, y])) (hi : X.N[i]? = some x := by rfl) (hj : X.N[j]? = some y := by rfl)
    (hx : X.env.scope.names.lookup x = some .local := by rfl) (hy : X.env.scope.names.lookup y = some .local := by rfl) (hs : swapsWithSole [.Tuple [.Name x px, .Name y py] kt pt] (.Tuple [a, b] k2 pt2) pos.line X.env = pure false := by rfl) :
    DenS X cl W (.Assign [.Tuple [.Name x px, .Name y py] kt pt] (.Tuple [a, b] k2 pt2) pos) (sPar i j f) := by
  refine PS.imp (ps_par hc hN hi hj hij hx hy ha hw hs) fun E σ H ⟨w, S, δ, sat, sl, q⟩ => ⟨w, S, δ, sat, sl, ?_⟩
  refine OkA.mono (OkA.thenS sl q) (fun us H1 ⟨w1, rs, S1, l1, s1, r1, q1⟩ => ?_) fun _ _ _ z => z
  split at q1
  · obtain ⟨u, v, rfl, h1, h2⟩ := r1.two
    exact ⟨u, v, rfl, q1 w1 H1 _ (Wd.le.refl _) s1 (((sl.le l1).set h1 i).set h2 j)⟩
  · exact q1.elim

/-! ### op= -/
def sAug (i : Nat) (g : Int → Int → Int) (f : FE) : FS := fun δ S => match δ[i]? with
  | some (some (.t (.int a))) => (f δ S).thenS δ fun r S1 => match r with
    | .t (.int b) => .nx (δ.set i (some (.t (.int (g a b))))) S1
    | _ => .stuck
  | _ => .stuck
theorem den_aug (i : Nat) {x : Str} {e : Expr} {f : FE} {op : Operator} {g : Int → Int → Int} {pos pos' : Pos} (hN : X.N.Nodup) (ho : PIp X op (ipI g)) (he : DenE X cl W e f) (hi : X.N[i]? = some x := by rfl) (hx : Loc X.env.scope x := by first | exact Or.inl rfl | exact Or.inr rfl)
    (hf : X.fn x = true ∨ X.env.scope.names.lookup x = some .local := by first | exact .inl rfl | exact .inr rfl) : DenS X cl W (.AugAssign (.Name x pos') op e pos) (sAug i g f) := by
  refine PS.imp (ps_aug hN hi hx he ho hf) fun E σ H ⟨w, S, δ, sat, sl, q⟩ => ?_
  unfold sAug at q
  split at q
  · rename_i a ea
    obtain ⟨v, e1, e2⟩ := sl.get ea
    cases Tr.asInt e2
    refine ⟨_, e1, w, S, δ, sat, sl, OkE.mono (OkE.thenS sl q) (fun x H1 ⟨w1, p, S1, l1, sat1, r1, q1⟩ => ?_) fun _ _ _ z => z⟩
    split at q1
    · cases Tr.asInt r1
      exact ⟨_, _, rfl, rfl, q1 w1 H1 _ (Wd.le.refl _) sat1 ((sl.le l1).set (v := .int _) (r := .t (.int _)) (Tr.int _) i)⟩
    · exact q1.elim
  · exact q.elim

/-! ### constants of the module -/
theorem den_glob {x : Str} {v : V} {u : Value} {d : D} {pos : Pos} (hm : X.mg x = some u) (r : RelV v u) (hd : ∀ H, Tr X.K H v d) (hg : Gl X x := by rfl) (hdb : (x == ("__debug__" : Str)) = false := by decide) : DenE X cl W (.Name x pos) (cD d) := den_k (pe_glob hg hm r hdb) hd
/-- a tuple that the top has written -/
def TupC (K : PySem.W.Frag) (a : Addr) (vs : List V) : Prop := (∃ (o : Obj) (its : Array Value) (n : Nat), K.lookup a = some o ∧ o.cls = .type "tuple" ∧ o.dict = none ∧ o.data = .seq its n ∧ its.size ≤ sizeLine ∧ Vals vs its.toList)
theorem TupC.sq {K : PySem.W.Frag} {a : Addr} {vs : List V} (h : TupC K a vs) (H : Hp) : SqT K H a vs := let ⟨o, its, n, e1, e2, _, e3, e4, e5⟩ := h; .inr ⟨o, its, n, e1, e2, e3, e4, e5⟩
theorem trs_strs {K : PySem.W.Frag} {H : Hp} : ∀ ys : List Str, TrAll K H (ys.map V.str) (ys.map .str)
  | [] => .nil
  | y :: ys => .cons (.str y) (trs_strs ys)
theorem den_gtupS {x : Str} {a : Addr} {ys : List Str} {pos : Pos} (hm : X.mg x = some (.ref a)) (hT : TupC X.K a (ys.map V.str)) (hg : Gl X x := by rfl) (hdb : (x == ("__debug__" : Str)) = false := by decide) : DenE X cl W (.Name x pos) (cD (.tuple (ys.map .str))) :=
  den_glob hm (v := .ref a) rfl (fun H => .tup (hT.sq H) (trs_strs ys)) hg hdb
/-- NAME.index(e), NAME a tuple of texts of the top -/
def cIdxS (ys : List Str) (f : FA) : FE := fun δ S => (f δ S).bind fun rs S1 => match rs with
  | [.t (.str z)] => match ys.findIdx? (· == z) with
    | some j => okI j S1
    | none => .stuck
  | _ => .stuck
theorem den_tupIndex {x : Str} {a : Addr} {ys : List Str} {e : Expr} {p apos cpos : Pos} {f : FA} (hm : X.mg x = some (.ref a)) (hT : TupC X.K a (ys.map V.str)) (ha : DenA X cl W [e] f) (hg : Gl X x := by rfl) (hdb : (x == ("__debug__" : Str)) = false := by decide)
    (hbase : attributeBase (.Name x p) "index" X.env (eval (.Name x p) X.env) = eval (.Name x p) X.env := by rfl)
    (hfew : ((backTo cpos (starEach [e] X.env)).all (fun x => !x.1) && (backToKw cpos (keywordEach [] X.env)).all (fun x => x.1.isSome)
      && decide ([e].length + ([] : List Keyword).length + (if ([] : List Keyword).isEmpty then 0 else 1) < 30)) = true := by rfl)
    (hline : (apos.endLine == cpos.line) = true := by rfl) (hs : starEach [e] X.env = (false, eval e X.env) :: starEach [] X.env := by rfl) (hplain : (backTo cpos (starEach [] X.env)).any (·.1) = false := by rfl) : DenE X cl W (.Call (.Attribute (.Name x p) "index" apos) [e] [] cpos) (cIdxS ys f) := by
  refine PE.imp (pe_bm PySem.F.plainAttrs_tuple PySem.F.slot_tuple_index PySem.F.type_tuple_index mt_tup_index (pe_glob (v := .ref a) hg hm rfl hdb) ha hbase hfew hline hs hplain) fun σ H Q ⟨w, S, δ, sat, sl, q⟩ => ?_
  obtain ⟨o, its, n, e1, e2, e3, e4, e5, e6⟩ := id hT
  refine ⟨.inr (.inl ⟨rfl, o, e1, e2, e3⟩), w, S, δ, sat, sl, OkA.mono (OkA.bindE q) (fun vs H1 ⟨w1, rs, S1, l1, s1, r1, q1⟩ => ?_) fun _ _ _ z => z⟩
  split at q1
  · rename_i z
    obtain ⟨v, rfl, h⟩ := r1.one
    cases Tr.asStr h
    split at q1
    · rename_i j ej
      obtain ⟨hj, h1, h2⟩ := List.findIdx?_eq_some_iff_getElem.mp ej
      refine ⟨a, ys, z, j, rfl, rfl, hT.sq H1, ?_, fun m hm' hy => ?_, q1.ret s1 (Tr.int _)⟩
      · rw [List.getElem?_eq_getElem hj, eq_of_beq h1]
      · obtain ⟨hml, he⟩ := List.getElem?_eq_some_iff.mp hy
        have := h2 m hm'
        rw [he] at this
        simp at this
    · exact q1.elim
  · exact q1.elim
end
end Dn

/-! Dn, part 8: enumerate, zip, or by truth, texts of tuples backwards, o[i] op= e, isinstance. -/
namespace Dn
open PySem PySem.Spec PyProof.Rows L2

/-! ### pairs -/
def enumD : Nat → List D → List Wv
  | _, [] => []
  | i, d :: ds => .t (.tuple [.int (i : Nat), d]) :: enumD (i + 1) ds
theorem enumD_len : ∀ (ds : List D) (i : Nat), (enumD i ds).length = ds.length
  | [], _ => rfl
  | _ :: ds, i => congrArg (· + 1) (enumD_len ds (i + 1))
theorem enumD_at : ∀ (ds : List D) (i k : Nat), (enumD i ds)[k]? = ds[k]?.map fun d => .t (.tuple [.int ((i + k : Nat) : Int), d])
  | [], _, _ => by simp [enumD]
  | d :: ds, i, 0 => by simp [enumD]
  | d :: ds, i, k + 1 => by
    have := enumD_at ds (i + 1) k
    simp only [enumD, List.getElem?_cons_succ]
    rw [this, show i + 1 + k = i + (k + 1) by omega]
def zipD : List D → List D → List Wv
  | d :: ds, e :: es => .t (.tuple [d, e]) :: zipD ds es
  | _, _ => []
theorem zipD_len : ∀ (ds es : List D), (zipD ds es).length = min ds.length es.length
  | [], es => by simp [zipD]
  | _ :: _, [] => by simp [zipD]
  | _ :: ds, _ :: es => by simp [zipD, zipD_len ds es]
theorem zipD_at : ∀ (ds es : List D) (k : Nat), (zipD ds es)[k]? = match ds[k]?, es[k]? with
    | some d, some e => some (.t (.tuple [d, e]))
    | _, _ => none
  | [], es, k => by simp [zipD]
  | d :: ds, [], k => by
    simp only [zipD, List.getElem?_nil]
    split <;> simp_all
  | d :: ds, e :: es, 0 => by simp [zipD]
  | d :: ds, e :: es, k + 1 => by
    simp only [zipD, List.getElem?_cons_succ]
    exact zipD_at ds es k
section
variable {K : PySem.W.Frag} {cl : Str → Addr} {w : Wd}
theorem map_at {ds : List D} {ws : List Wv} (h : treesOf ws = some ds) (i : Nat) : ws[i]? = ds[i]?.map .t := by
  rw [treesOf_ok h, List.getElem?_map]
theorem pair_in {w1 : Wd} {S1 : Store} {H1 : Hp} {T : Addr} {x y : V} {d e : D} (s : Sat K cl w1 S1 H1) (hT : H1 T = none) (hx : Tr K w1.H0 x d) (hy : Tr K w1.H0 y e) :
    ∃ w2, w1.le w2 ∧ Sat K cl w2 S1 (upd H1 T (.tup [x, y])) ∧ WR K w2 (.ref T) (.t (.tuple [d, e])) := by
  obtain ⟨l, s'⟩ := s.frozen hT (.tup [x, y])
  exact ⟨_, l, s', .tup (SqT.of upd_same) (.cons (tr_same l.same hx) (.cons (tr_same l.same hy) .nil))⟩
theorem gives_enum {a : Addr} {s : Src} {ds : List D} (g : Gives K cl w s (Itl K a)) (e : treesOf s.items = some ds) : Gives K cl w ⟨enumD 0 ds, s.keep⟩ (Ite K a) := by
  intro i w1 S1 H1 l s1 st
  obtain ⟨g1, g2⟩ := g i w1 S1 H1 l s1 st
  refine ⟨fun r er => ?_, fun er => ?_⟩
  · have er : (enumD 0 ds)[i]? = some r := er
    rw [enumD_at] at er
    cases ed : ds[i]? with
    | none => rw [ed] at er; cases er
    | some d =>
      rw [ed] at er
      cases er
      obtain ⟨go, yl⟩ := g1 (.t d) (by rw [map_at e, ed]; rfl)
      refine ⟨go, fun x H2 y => ?_⟩
      obtain ⟨T, x0, rfl, hT, rfl, hx⟩ := y
      obtain ⟨w2, l2, s2, r2⟩ := yl x0 H1 ⟨rfl, hx⟩
      obtain ⟨w3, l3, s3, r3⟩ := pair_in s2 hT (Tr.int ((i : Nat) : Int)) r2
      exact ⟨w3, l2.trans l3, s3, by rw [Nat.zero_add]; exact r3⟩
  · have er : i = (enumD 0 ds).length := er
    rw [enumD_len] at er
    exact g2 (by rw [er, treesOf_ok e, List.length_map])
def Src.with (s s' : Src) (ws : List Wv) : Src := ⟨ws, s.keep ++ s'.keep⟩
theorem still_with {s s' : Src} {ws : List Wv} {S : Store} (h : (s.with s' ws).still S = true) : s.still S = true ∧ s'.still S = true := by
  unfold Src.with Src.still at h
  rw [List.all_append, Bool.and_eq_true] at h
  exact h
/-- two iterators side by side: what the rule for zip asks -/
theorem gives_zip {a b : Addr} {s s' : Src} {ds es : List D} (g : Gives K cl w s (Itl K a)) (g' : Gives K cl w s' (Itl K b)) (e : treesOf s.items = some ds) (e' : treesOf s'.items = some es) : Gives K cl w (s.with s' (zipD ds es)) (Itz K a b) := by
  intro i w1 S1 H1 l s1 st
  obtain ⟨st1, st2⟩ := still_with st
  obtain ⟨g1, g2⟩ := g i w1 S1 H1 l s1 st1
  refine ⟨fun r er => ?_, fun er => ?_⟩
  · have er : (zipD ds es)[i]? = some r := er
    rw [zipD_at] at er
    split at er
    · rename_i d z ed ez
      cases er
      obtain ⟨⟨xs, x, q1, q2⟩, yl⟩ := g1 (.t d) (by rw [map_at e, ed]; rfl)
      obtain ⟨⟨ys, y, q3, q4⟩, yl'⟩ := (g' i w1 S1 H1 l s1 st2).1 (.t z) (by rw [map_at e', ez]; rfl)
      refine ⟨⟨xs, ys, x, y, q1, q3, q2, q4⟩, fun v H2 u => ?_⟩
      obtain ⟨T, x0, y0, rfl, hT, rfl, hx, hy⟩ := u
      obtain ⟨w2, l2, s2, r2⟩ := yl x0 H1 ⟨rfl, hx⟩
      obtain ⟨w3, l3, s3, r3⟩ := ((g' i w2 S1 H1 (l.trans l2) s2 st2).1 (.t z) (by rw [map_at e', ez]; rfl)).2 y0 H1 ⟨rfl, hy⟩
      obtain ⟨w4, l4, s4, r4⟩ := pair_in s3 hT (r2.le l3) r3
      exact ⟨w4, l2.trans (l3.trans l4), s4, r4⟩
    · cases er
  · have er : i = (zipD ds es).length := er
    rw [zipD_len] at er
    have k1 : s.items.length = ds.length := by rw [treesOf_ok e, List.length_map]
    have k2 : s'.items.length = es.length := by rw [treesOf_ok e', List.length_map]
    have sq : ∀ {c : Addr} {t : Src} (gt : Gives K cl w t (Itl K c)), t.still S1 = true → i ≤ t.items.length → ∃ xs : List V, SqL K H1 c xs := fun {c t} gt stt hi => by
      by_cases hq : i < t.items.length
      · obtain ⟨xs, x, q1, _⟩ := ((gt i w1 S1 H1 l s1 stt).1 _ (List.getElem?_eq_getElem hq)).1
        exact ⟨xs, q1⟩
      · obtain ⟨xs, q1, _⟩ := (gt i w1 S1 H1 l s1 stt).2 (by omega)
        exact ⟨xs, q1⟩
    by_cases hq : i = s.items.length
    · obtain ⟨xs, q1, q2⟩ := g2 hq
      obtain ⟨ys, q3⟩ := sq g' st2 (by omega)
      exact ⟨xs, ys, q1, q3, .inl q2⟩
    · obtain ⟨ys, q1, q2⟩ := (g' i w1 S1 H1 l s1 st2).2 (by omega)
      obtain ⟨xs, q3⟩ := sq g st1 (by omega)
      exact ⟨xs, ys, q3, q1, .inr q2⟩
theorem gives_zipT {a b : Addr} {s s' : Src} {ds es : List D} (g : Gives K cl w s (Itt K a)) (g' : Gives K cl w s' (Itt K b)) (e : treesOf s.items = some ds) (e' : treesOf s'.items = some es) : Gives K cl w (s.with s' (zipD ds es)) (RZ.ItzT K a b) := by
  intro i w1 S1 H1 l s1 st
  obtain ⟨st1, st2⟩ := still_with st
  obtain ⟨g1, g2⟩ := g i w1 S1 H1 l s1 st1
  refine ⟨fun r er => ?_, fun er => ?_⟩
  · have er : (zipD ds es)[i]? = some r := er
    rw [zipD_at] at er
    split at er
    · rename_i d z ed ez
      cases er
      obtain ⟨⟨xs, x, q1, q2⟩, yl⟩ := g1 (.t d) (by rw [map_at e, ed]; rfl)
      obtain ⟨⟨ys, y, q3, q4⟩, yl'⟩ := (g' i w1 S1 H1 l s1 st2).1 (.t z) (by rw [map_at e', ez]; rfl)
      refine ⟨⟨xs, ys, x, y, q1, q3, q2, q4⟩, fun v H2 u => ?_⟩
      obtain ⟨T, x0, y0, rfl, hT, rfl, hx, hy⟩ := u
      obtain ⟨w2, l2, s2, r2⟩ := yl x0 H1 ⟨rfl, hx⟩
      obtain ⟨w3, l3, s3, r3⟩ := ((g' i w2 S1 H1 (l.trans l2) s2 st2).1 (.t z) (by rw [map_at e', ez]; rfl)).2 y0 H1 ⟨rfl, hy⟩
      obtain ⟨w4, l4, s4, r4⟩ := pair_in s3 hT (r2.le l3) r3
      exact ⟨w4, l2.trans (l3.trans l4), s4, r4⟩
    · cases er
  · have er : i = (zipD ds es).length := er
    rw [zipD_len] at er
    have k1 : s.items.length = ds.length := by rw [treesOf_ok e, List.length_map]
    have k2 : s'.items.length = es.length := by rw [treesOf_ok e', List.length_map]
    have sq : ∀ {c : Addr} {t : Src} (gt : Gives K cl w t (Itt K c)), t.still S1 = true → i ≤ t.items.length → ∃ xs : List V, SqT K H1 c xs := fun {c t} gt stt hi => by
      by_cases hq : i < t.items.length
      · obtain ⟨xs, x, q1, _⟩ := ((gt i w1 S1 H1 l s1 stt).1 _ (List.getElem?_eq_getElem hq)).1
        exact ⟨xs, q1⟩
      · obtain ⟨xs, q1, _⟩ := (gt i w1 S1 H1 l s1 stt).2 (by omega)
        exact ⟨xs, q1⟩
    by_cases hq : i = s.items.length
    · obtain ⟨xs, q1, q2⟩ := g2 hq
      obtain ⟨ys, q3⟩ := sq g' st2 (by omega)
      exact ⟨xs, ys, q1, q3, .inl q2⟩
    · obtain ⟨ys, q1, q2⟩ := (g' i w1 S1 H1 l s1 st2).2 (by omega)
      obtain ⟨xs, q3⟩ := sq g st1 (by omega)
      exact ⟨xs, ys, q3, q1, .inr q2⟩
end
section
variable {X : Cx} {cl : Str → Addr} {W : WX}
def gEnum (rs : List Wv) (S : Store) : Out Src := match rs with
  | [r] => if seqT r = none then (match srcOf r S with
    | .ok s S1 => (match treesOf s.items with
      | some ds => .ok ⟨enumD 0 ds, s.keep⟩ S1
      | none => .stuck)
    | _ => .stuck) else .stuck
  | _ => .stuck
theorem den_enum {e : Expr} {f : FA} {p pos tpos : Pos} {elts : List Expr} {kk : Nat} (hm : X.mg "enumerate" = none) (ha : DenA X cl W [e] f) (hg : Gl X "enumerate" := by rfl) (hs : starEach [e] X.env = [(false, eval e X.env)] := by rfl) :
    DenI X cl W (.Tuple elts kk tpos) (.Call (.Name "enumerate" p) [e] [] pos) (fA gEnum f) := by
  refine PI.imp (pi_enum hg hm ha hs) fun σ H R ⟨w, S, δ, sat, sl, q⟩ => ⟨w, S, δ, sat, sl, OkA.mono (OkA.bindG q) (fun vs H1 ⟨w1, rs, S1, l1, s1, r1, q1⟩ => ?_) fun _ _ _ z => z⟩
  unfold gEnum at q1
  split at q1
  · obtain ⟨v, rfl, h⟩ := r1.one
    split at q1
    · rename_i ht
      split at q1
      · rename_i s S2 e2
        cases srcOf_store e2
        split at q1
        · rename_i ds ed
          obtain ⟨a, rfl, z⟩ := srcOf_ok s1 h e2
          rcases z with ⟨⟨xs, ex⟩, g, _⟩ | ⟨_, _, z⟩
          · exact ⟨a, xs, rfl, ex, q1 w1 H1 (Wd.le.refl _) s1 w1 H1 _ (Wd.le.refl _) s1 (gives_enum g ed)⟩
          · rw [ht] at z; cases z
        · exact q1.elim
      · exact q1.elim
    · exact q1.elim
  · exact q1.elim
def gZip (rs : List Wv) (S : Store) : Out Src := match rs with
  | [r, r'] => if (seqT r).isSome = (seqT r').isSome then (match srcOf r S, srcOf r' S with
    | .ok s S1, .ok s' _ => (match treesOf s.items, treesOf s'.items with
      | some ds, some es => .ok (s.with s' (zipD ds es)) S1
      | _, _ => .stuck)
    | _, _ => .stuck) else .stuck
  | _ => .stuck
theorem den_zip {e e2 : Expr} {f : FA} {p pos tpos : Pos} {elts : List Expr} {kk : Nat} (hm : X.mg "zip" = none) (ha : DenA X cl W [e, e2] f) (hg : Gl X "zip" := by rfl)
    (hs : starEach [e, e2] X.env = (false, eval e X.env) :: starEach [e2] X.env := by rfl) (hpl : (backTo pos (starEach [e2] X.env)).any (·.1) = false := by rfl) :
    DenI X cl W (.Tuple elts kk tpos) (.Call (.Name "zip" p) [e, e2] [] pos) (fA gZip f) := by
  refine PI.imp (RZ.pi_zipA hg hm ha hs hpl) fun σ H R ⟨w, S, δ, sat, sl, q⟩ => ⟨w, S, δ, sat, sl, OkA.mono (OkA.bindG q) (fun vs H1 ⟨w1, rs, S1, l1, s1, r1, q1⟩ => ?_) fun _ _ _ z => z⟩
  unfold gZip at q1
  split at q1
  · obtain ⟨v, u, rfl, h, k⟩ := r1.two
    split at q1
    · rename_i ht
      split at q1
      · rename_i s S2 s' S3 e2 e3
        cases srcOf_store e2
        cases srcOf_store e3
        split at q1
        · rename_i ds es ed ee
          obtain ⟨a, rfl, z⟩ := srcOf_ok s1 h e2
          obtain ⟨b, rfl, z'⟩ := srcOf_ok s1 k e3
          rcases z with ⟨⟨xs, ex⟩, g, zn⟩ | ⟨⟨xs, ex⟩, g, zs⟩ <;> rcases z' with ⟨⟨ys, ey⟩, g', zn'⟩ | ⟨⟨ys, ey⟩, g', zs'⟩
          · exact ⟨a, b, xs, ys, rfl, .inl ⟨ex, ey, q1 w1 H1 (Wd.le.refl _) s1 w1 H1 _ (Wd.le.refl _) s1 (gives_zip g g' ed ee)⟩⟩
          · rw [zn, zs'] at ht; cases ht
          · rw [zs, zn'] at ht; cases ht
          · exact ⟨a, b, xs, ys, rfl, .inr ⟨ex, ey, q1 w1 H1 (Wd.le.refl _) s1 w1 H1 _ (Wd.le.refl _) s1 (gives_zipT g g' ed ee)⟩⟩
        · exact q1.elim
      · exact q1.elim
    · exact q1.elim
  · exact q1.elim

/-! ### or, and, not by truth -/
theorem truW_ok {w1 : Wd} {S1 S2 : Store} {H1 : Hp} {x : V} {p : Wv} {b : Bool} (s : Sat X.K cl w1 S1 H1) (r : WR X.K w1 x p) (e : truW p S1 = .ok b S2) : S2 = S1 ∧ TruV X.K x H1 b := by
  unfold truW at e
  split at e
  · cases e; cases r; exact ⟨rfl, rfl⟩
  · cases e; cases Tr.asBool r; exact ⟨rfl, rfl⟩
  · cases e; cases Tr.asInt r; exact ⟨rfl, rfl⟩
  · split at e
    · rename_i ws eq
      cases e
      obtain ⟨a, vs, rfl, h1, h2⟩ := seqA_ok s r eq
      have em : (!ws.isEmpty) = !vs.isEmpty := by cases h2 <;> rfl
      rw [em]
      rcases h1 with h1 | h1
      · exact ⟨rfl, .inl ⟨vs, h1, rfl⟩⟩
      · exact ⟨rfl, .inr (.inl ⟨vs, h1, rfl⟩)⟩
    · cases e
theorem truW_exc {p : Wv} {S S1 : Store} {C : Str} {fs : List (Str × D)} (h : truW p S = .exc C fs S1) : False := by
  unfold truW at h
  split at h <;> first | cases h | (split at h <;> cases h)
def cOrT (f g : FE) : FE := fun δ S => (f δ S).bind fun r S1 => match truW r S1 with
  | .ok true _ => .ok r S1
  | .ok false _ => g δ S1
  | _ => .stuck
theorem den_orT {a b : Expr} {rest : List Expr} {f g : FE} {pos : Pos} (h : DenE X cl W a f) (k : DenE X cl W (.BoolOp .Or (b :: rest) pos) g) : DenE X cl W (.BoolOp .Or (a :: b :: rest) pos) (cOrT f g) := by
  refine PE.imp (pe_orT h k) fun σ H Q ⟨w, S, δ, sat, sl, q⟩ => ⟨w, S, δ, sat, sl, OkE.mono (OkE.bind q) (fun x H1 ⟨w1, p, S1, l1, sat1, r1, q1⟩ => ?_) fun _ _ _ z => z⟩
  split at q1
  · rename_i S2 e
    obtain ⟨_, t⟩ := truW_ok sat1 r1 e
    exact ⟨true, t, iteT (q1 w1 H1 _ (Wd.le.refl _) sat1 r1)⟩
  · rename_i S2 e
    obtain ⟨_, t⟩ := truW_ok sat1 r1 e
    exact ⟨false, t, iteF ⟨w1, S1, δ, sat1, sl.le l1, q1⟩⟩
  · exact q1.elim
def cAndT (f g : FE) : FE := fun δ S => (f δ S).bind fun r S1 => match truW r S1 with
  | .ok true _ => g δ S1
  | .ok false _ => .ok r S1
  | _ => .stuck
theorem den_andT {a b : Expr} {rest : List Expr} {f g : FE} {pos : Pos} (h : DenE X cl W a f) (k : DenE X cl W (.BoolOp .And (b :: rest) pos) g) : DenE X cl W (.BoolOp .And (a :: b :: rest) pos) (cAndT f g) := by
  refine PE.imp (pe_andT h k) fun σ H Q ⟨w, S, δ, sat, sl, q⟩ => ⟨w, S, δ, sat, sl, OkE.mono (OkE.bind q) (fun x H1 ⟨w1, p, S1, l1, sat1, r1, q1⟩ => ?_) fun _ _ _ z => z⟩
  split at q1
  · rename_i S2 e
    obtain ⟨_, t⟩ := truW_ok sat1 r1 e
    exact ⟨true, t, iteT ⟨w1, S1, δ, sat1, sl.le l1, q1⟩⟩
  · rename_i S2 e
    obtain ⟨_, t⟩ := truW_ok sat1 r1 e
    exact ⟨false, t, iteF (q1 w1 H1 _ (Wd.le.refl _) sat1 r1)⟩
  · exact q1.elim
def cNotT (f : FE) : FE := fun δ S => (f δ S).bind fun r S1 => match truW r S1 with
  | .ok b _ => okB (!b) S1
  | _ => .stuck
theorem den_notT {a : Expr} {f : FE} {pos : Pos} (h : DenE X cl W a f) : DenE X cl W (.UnaryOp .Not a pos) (cNotT f) := by
  refine PE.imp (pe_notT h) fun σ H Q ⟨w, S, δ, sat, sl, q⟩ => ⟨w, S, δ, sat, sl, OkE.mono (OkE.bind q) (fun x H1 ⟨w1, p, S1, l1, sat1, r1, q1⟩ => ?_) fun _ _ _ z => z⟩
  split at q1
  · rename_i b S2 e
    obtain ⟨_, t⟩ := truW_ok sat1 r1 e
    exact ⟨b, t, q1 w1 H1 _ (Wd.le.refl _) sat1 (Tr.bl _)⟩
  · exact q1.elim

/-! ### o[i] op= e, of a cell -/
theorem get_cellP : PGet X (fun o i H Q => ∃ p xs k v, o = .ref p ∧ i = .int k ∧ SqL X.K H p xs ∧ atI xs k = some v ∧ Q v H) := by
  intro pins s σ H o i ov iv Q I ro ri h
  obtain ⟨p, xs, k, v, rfl, rfl, hq, he, q⟩ := h
  cases ro
  obtain ⟨t, rfl⟩ := ri
  obtain ⟨its, r, pl, hz⟩ := I.list hq
  obtain ⟨j, a1, a2, a3, a4, a5⟩ := atI_get he
  obtain ⟨u, eu, ru⟩ := r.get a2
  have hl := r.length
  have hn := line63
  by_cases h0 : 0 ≤ k
  · have hj : k.toNat = j := by
      rw [seqIndex_of h0 a5] at a1
      exact Option.some.inj a1
    exact wpAny_getItem_list pl.isList h0 (by omega) (by rw [hj]; simpa using eu) ⟨v, H, I, ru, q⟩
  · have hj : (k + (its.toArray.size : Int)).toNat = j := by
      rw [seqIndex_neg (by omega) a4] at a1
      rw [List.size_toArray, ← hl]
      exact Option.some.inj a1
    exact wpAny_getItem_list_neg pl.isList (by omega) (by rw [List.size_toArray] <;> omega) (by omega) (by rw [hj]; simpa using eu) ⟨v, H, I, ru, q⟩
def atC (r : Wv) (i : Int) (S : Store) : Option Wv := match seqL S r with
  | some ws => atI ws i
  | none => none
def setC (p : Wv) (i : Int) (r : Wv) (S : Store) : Option Store := match p with
  | .c k => match S[k]? with
    | some (.lst ws) => match ixN ws.length i with
      | some j => some (S.set k (.lst (ws.set j r)))
      | none => none
    | _ => none
  | _ => none
def sAugS (f g : FE) (op : Int → Int → Int) (h : FE) : FS := fun δ S => (f δ S).thenS δ fun p S1 => (g δ S1).thenS δ fun q S2 => match q with
  | .t (.int i) => match atC p i S2 with
    | some (.t (.int a)) => (h δ S2).thenS δ fun r S3 => match r with
      | .t (.int b) => match setC p i (.t (.int (op a b))) S3 with
        | some S4 => .nx δ S4
        | none => .stuck
      | _ => .stuck
    | _ => .stuck
  | _ => .stuck
theorem den_augS {o i e : Expr} {f g h : FE} {op : Operator} {opf : Int → Int → Int} {pos tpos : Pos} (ho : PIp X op (ipI opf)) (h1 : DenE X cl W o f) (h2 : DenE X cl W i g) (h3 : DenE X cl W e h)
    (ha : ∀ ov iv new, augStore i ov iv new = (do holding [new, ov, iv] (setItem ov iv new); release [new, ov, iv] []; pure .next) := by intros; rfl) : DenS X cl W (.AugAssign (.Subscript o i tpos) op e pos) (sAugS f g opf h) := by
  refine PS.imp (ps_augS h1 h2 get_cellP h3 ho set_list ha) fun E σ H ⟨w, S, δ, sat, sl, q⟩ => ⟨w, S, δ, sat, sl, ?_⟩
  refine OkE.mono (OkE.thenS sl q) (fun x H1 ⟨w1, p, S1, l1, s1, r1, q1⟩ => ?_) fun _ _ _ z => z
  refine ⟨w1, S1, δ, s1, sl.le l1, OkE.mono (OkE.thenS (sl.le l1) q1) (fun y H2 ⟨w2, p2, S2, l2, s2, r2, q2⟩ => ?_) fun _ _ _ z => z⟩
  split at q2
  · rename_i i0
    cases Tr.asInt r2
    split at q2
    · rename_i a0 ea
      unfold atC at ea
      split at ea
      · rename_i ws ew
        obtain ⟨pa, vs, rfl, hq, hr⟩ := seqL_ok s2 (r1.le l2) ew
        obtain ⟨v0, e0, rv⟩ := hr.at ea
        cases Tr.asInt rv
        refine ⟨pa, vs, _, _, rfl, rfl, hq, e0, w2, S2, δ, s2, sl.le (l1.trans l2), OkE.mono (OkE.thenS (sl.le (l1.trans l2)) q2) (fun z H3 ⟨w3, p3, S3, l3, s3, r3, q3⟩ => ?_) fun _ _ _ z => z⟩
        split at q3
        · rename_i b0
          cases Tr.asInt r3
          refine ⟨_, _, rfl, rfl, ?_⟩
          split at q3
          · rename_i S4 e4
            unfold setC at e4
            cases p with
            | t d => cases e4
            | c k =>
              dsimp only at e4
              have r5 := r1.le (l2.trans l3)
              obtain ⟨hk, ek⟩ := r5
              cases ek
              split at e4
              · rename_i ws4 ec
                split at e4
                · rename_i j ej
                  cases e4
                  obtain ⟨z4, us, ev, rv4⟩ := s3.cell k _ ec
                  refine ⟨_, us, _, j, rfl, rfl, ev, by rw [Paired.length rv4]; exact ej, ?_⟩
                  have s5 := s3.setCell (c' := .lst (ws4.set j (.t (.int (opf a0 b0))))) ec rfl ⟨z4, _, upd_same, WRs.set (v := .int (opf a0 b0)) (r := .t (.int (opf a0 b0))) (Tr.int _) j rv4⟩ rfl
                  exact q3 w3 _ σ (Wd.le.refl _) s5 (sl.le (l1.trans (l2.trans l3)))
                · cases e4
              · cases e4
          · exact q3.elim
        · exact q3.elim
      · cases ea
    · exact q2.elim
  · exact q2.elim

/-! ### isinstance -/
inductive Kd where
  | non | bl | int | str | lst | tup
deriving DecidableEq
def Kd.name : Kd → String
  | .non => "NoneType" | .bl => "bool" | .int => "int" | .str => "str" | .lst => "list" | .tup => "tuple"
def Kd.isK (a b : Kd) : Bool := a == b || (a == .bl && b == .int)
theorem kd_kit : ∀ a b : Kd, b ≠ .non → kitB a.name b.name = some (a.isK b) := by
  intro a b
  cases a <;> cases b <;> intro h <;> first | exact absurd rfl h | decide +kernel
def kdOf (S : Store) : Wv → Option Kd
  | .t .none => some .non
  | .t (.bool _) => some .bl
  | .t (.int _) => some .int
  | .t (.str _) => some .str
  | .t (.list _) => some .lst
  | .t (.tuple _) => some .tup
  | .t (.dict _) => none
  | .c k => match seqL S (.c k) with
    | some _ => some .lst
    | none => none
theorem tyx_list {K : PySem.W.Frag} {H : Hp} {a : Addr} {vs : List V} (h : SqL K H a vs) : TyX K H (.ref a) (.type "list") := by
  rcases h with (h | ⟨o, h⟩) | ⟨o, its, n, h, c, _⟩
  · exact .base (.lst h)
  · exact .base (.frz h)
  · exact .kList h c
theorem tyx_tup {K : PySem.W.Frag} {H : Hp} {a : Addr} {vs : List V} (h : SqT K H a vs) : TyX K H (.ref a) (.type "tuple") := by
  rcases h with (h | ⟨o, h⟩) | ⟨o, its, n, h, c, _⟩
  · exact .base (.tup h)
  · exact .fTuple h
  · exact .kTuple h c
theorem kdOf_ok {K : PySem.W.Frag} {w : Wd} {S : Store} {H : Hp} {x : V} {p : Wv} {k : Kd} (s : Sat K cl w S H) (r : WR K w x p) (e : kdOf S p = some k) : TyX K H x (.type k.name) := by
  unfold kdOf at e
  split at e
  · cases e; cases r; exact .base .non
  · cases e; cases r; exact .base (.bl _)
  · cases e; cases r; exact .base (.int _)
  · cases e; cases r; exact .base (.str _)
  · cases e
    obtain ⟨a, vs, rfl, h1, _⟩ := seqL_ok s r rfl
    exact tyx_list h1
  · cases e
    obtain ⟨a, vs, rfl, h1, _⟩ := seqT_ok s r rfl
    exact tyx_tup h1
  · cases e
  · split at e
    · rename_i ws ew
      cases e
      obtain ⟨a, vs, rfl, h1, _⟩ := seqL_ok s r ew
      exact tyx_list h1
    · cases e
def gIsi (ks : List Kd) (p : Wv) (S : Store) : Out Wv := match kdOf S p with
  | some k => okB (ks.any k.isK) S
  | none => .stuck
theorem boot_isi : bootBuiltins "isinstance" = some (.builtin "isinstance") := PyProof.Rows.boot_isinstance
theorem boot_kd (b : Kd) (h : b ≠ .non) : bootBuiltins (PySem.Str.ofString b.name) = some (.type b.name) := by
  cases b <;> first | exact absurd rfl h | decide +kernel
theorem den_isi1 (b : Kd) {x : Str} {e : Expr} {f : FE} {p px pos : Pos} (hx : bootBuiltins x = some (.type b.name)) (hm : X.mg "isinstance" = none) (hmx : X.mg x = none) (he : DenE X cl W e f) (hb : b ≠ .non := by decide) (hg : Gl X "isinstance" := by rfl) (hgx : Gl X x := by rfl)
    (hn : x ≠ "__name__" := by decide) (hdb : (x == ("__debug__" : Str)) = false := by decide) (hs : starEach [e, .Name x px] X.env = (false, eval e X.env) :: starEach [.Name x px] X.env := by rfl) (hpl : (backTo pos (starEach [.Name x px] X.env)).any (·.1) = false := by rfl)
    (hs2 : starEach [.Name x px] X.env = (false, eval (.Name x px) X.env) :: starEach [] X.env := by rfl) : DenE X cl W (.Call (.Name "isinstance" p) [e, .Name x px] [] pos) (c1 (gIsi [b]) f) := by
  refine PE.imp (pe_callB call_isi hg hm boot_isi (pa_cons he (pa_cons (pe_bltn (v := .ty b.name) hgx hmx hx rfl hn hdb) pa_nil hs2) hs) (by decide) (by decide) hs hpl) fun σ H Q h => ?_
  show tDen X.K cl W f σ H fun v H1 => rIsi X.K [v, .ty b.name] H1 Q
  refine tden1 (r := fun v H1 Q => rIsi X.K [v, .ty b.name] H1 Q) (fun w S H x p Q E s r o => ?_) h
  unfold gIsi at o
  split at o
  · rename_i k ek
    refine ⟨x, _, _, _, _, rfl, .ty _, kdOf_ok s r ek, kit_ty (kd_kit k b hb), ?_⟩
    have e1 : [b].any k.isK = k.isK b := by simp
    rw [e1] at o
    exact o.ret s (Tr.bl _)
  · exact o.elim
theorem den_isi2 (b c : Kd) {x y : Str} {e : Expr} {f : FE} {k : Nat} {p px py pt pos : Pos} (hx : bootBuiltins x = some (.type b.name)) (hy : bootBuiltins y = some (.type c.name)) (hm : X.mg "isinstance" = none) (hmx : X.mg x = none) (hmy : X.mg y = none) (he : DenE X cl W e f)
    (hb : b ≠ .non := by decide) (hc : c ≠ .non := by decide) (hg : Gl X "isinstance" := by rfl) (hgx : Gl X x := by rfl) (hgy : Gl X y := by rfl) (hn : x ≠ "__name__" := by decide) (hdb : (x == ("__debug__" : Str)) = false := by decide) (hn' : y ≠ "__name__" := by decide) (hdb' : (y == ("__debug__" : Str)) = false := by decide)
    (hs : starEach [e, .Tuple [.Name x px, .Name y py] k pt] X.env = (false, eval e X.env) :: starEach [.Tuple [.Name x px, .Name y py] k pt] X.env := by rfl) (hpl : (backTo pos (starEach [.Tuple [.Name x px, .Name y py] k pt] X.env)).any (·.1) = false := by rfl) 
    (hs2 : starEach [.Tuple [.Name x px, .Name y py] k pt] X.env = (false, eval (.Tuple [.Name x px, .Name y py] k pt) X.env) :: starEach [] X.env := by rfl) (hs3 : starEach [.Name x px, .Name y py] X.env = (false, eval (.Name x px) X.env) :: starEach [.Name y py] X.env := by rfl)
    (hs4 : starEach [.Name y py] X.env = (false, eval (.Name y py) X.env) :: starEach [] X.env := by rfl) : DenE X cl W (.Call (.Name "isinstance" p) [e, .Tuple [.Name x px, .Name y py] k pt] [] pos) (c1 (gIsi [b, c]) f) := by
  refine PE.imp (pe_callB call_isiT hg hm boot_isi (pa_cons he (pa_cons (pe_tup (pa_cons (pe_bltn (v := .ty b.name) hgx hmx hx rfl hn hdb) (pa_cons (pe_bltn (v := .ty c.name) hgy hmy hy rfl hn' hdb') pa_nil hs4) hs3)) pa_nil hs2) hs) (by decide) (by decide) hs hpl) fun σ H Q h => ?_
  show tDen X.K cl W f σ H fun v H1 => (2 ≤ sizeLine ∧ ∀ tp, H1 tp = none → rIsiT X.K [v, .ref tp] (upd H1 tp (.tup [.ty b.name, .ty c.name])) Q)
  refine tden1 (r := fun v H1 Q => (2 ≤ sizeLine ∧ ∀ tp, H1 tp = none → rIsiT X.K [v, .ref tp] (upd H1 tp (.tup [.ty b.name, .ty c.name])) Q)) (fun w S H x p Q E s r o => ?_) h
  unfold gIsi at o
  split at o
  · rename_i kk ek
    refine ⟨by rw [sizeLine_eq]; decide, fun tp ht => ?_⟩
    obtain ⟨l, s'⟩ := s.frozen ht (.tup [.ty b.name, .ty c.name])
    have k1 := kit_ty (K := X.K) (kd_kit kk b hb)
    have k2 := kit_ty (K := X.K) (kd_kit kk c hc)
    have ka : PySem.W.kitAny X.K (.type kk.name) [.type b.name, .type c.name] = some ([b, c].any kk.isK) := by
      refine kitAny_cons k1 (r := [b, c].any kk.isK) (fun z => kitAny_cons k2 (fun z2 => ?_) fun z2 => ?_) fun z => ?_
      · rw [kitAny_nil]; simp [z, z2]
      · simp [z2]
      · simp [z]
    refine ⟨x, tp, _, _, _, _, rfl, upd_same, .cons (.ty _) (.cons (.ty _) .nil), kdOf_ok s' (r.le l) ek, ka, ?_⟩
    exact o _ _ _ l s' (Tr.bl _)
  · exact o.elim
end
end Dn

/-! Dn, part 9: a tuple backwards. -/
namespace Dn
open PySem PySem.Spec PyProof.Rows L2
theorem all_of {α : Type} : ∀ xs : List α, ((List.range xs.length).filterMap fun k => xs[k]?) = xs
  | [] => rfl
  | x :: xs => by
    rw [List.length_cons, List.range_succ_eq_map, List.filterMap_cons]
    have e : (x :: xs)[0]? = some x := rfl
    rw [e, List.filterMap_map]
    exact congrArg (x :: ·) (all_of xs)
theorem filt_congr {α β : Type} {f g : α → Option β} : ∀ {l : List α}, (∀ x ∈ l, f x = g x) → l.filterMap f = l.filterMap g
  | [], _ => rfl
  | x :: l, h => by
    rw [List.filterMap_cons, List.filterMap_cons, h x List.mem_cons_self, filt_congr fun y hy => h y (List.mem_cons_of_mem _ hy)]
theorem back_run (xs : Array Value) : ((List.range xs.size).filterMap fun (k : Nat) => xs[(((xs.size : Nat) : Int) - 1 + (k : Int) * (-1)).toNat]?) = xs.toList.reverse := by
  have h := all_of xs.toList.reverse
  rw [List.length_reverse, Array.length_toList] at h
  refine (filt_congr fun k hk => ?_).trans h
  have hk := List.mem_range.mp hk
  rw [List.getElem?_reverse (by rw [Array.length_toList]; exact hk), Array.length_toList, Array.getElem?_toList]
  congr 1
  omega
section
variable {prog : Program} {w : World} {A : Around} {E : Value → Shared → Prop} {s : Shared}
theorem applied_back {sl : Addr} {vs : Value} {n : Nat} {R : Int × Int × Nat → Shared → Prop} (hs : s.heap.IsSliceOf sl .none .none vs) (ps : IsPart vs (some (-1))) (h : R (((n : Nat) : Int) - 1, -1, n) s) :
    wpAny (model prog w) A (Builtin.Slice.sliceApplied (.ref sl) (pure (n : Int))) R E s := by
  obtain ⟨ob, hob, hcb, hdb⟩ := id hs
  unfold Builtin.Slice.sliceApplied Builtin.Slice.sliceFields
  refine wpAny_bind (wpAny_bind (wpAny_field hob hdb (x := .none) rfl (wpAny_bind (wpAny_field hob hdb (x := .none) rfl (wpAny_bind (wpAny_field hob hdb (x := vs) rfl (wpAny_pure ?_)))))))
  refine wpAny_bind (HT.slicePart_ ps ?_)
  show wpAny _ _ (if ((-1 : Int) == 0) = true then _ else _) _ _ s
  rw [if_neg (by decide)]
  refine wpAny_bind (PyProof.Rows.slicePart_none (wpAny_bind (PyProof.Rows.slicePart_none (wpAny_bind (wpAny_pure ?_)))))
  have e : Builtin.Slice.sliceAdjust none none (-1) (n : Int) = ((n : Int) - 1, -1) := by
    unfold Builtin.Slice.sliceAdjust
    rfl
  show wpAny _ _ (match Builtin.Slice.sliceAdjust none none (-1) (n : Int) with | (lo, hi) => pure (lo, (-1 : Int), Builtin.Slice.slicePlaces lo hi (-1))) _ _ s
  rw [e]
  have e2 : Builtin.Slice.slicePlaces ((n : Int) - 1) (-1) (-1) = n := by
    unfold Builtin.Slice.slicePlaces
    rw [if_neg (by decide)]
    by_cases hn : n = 0
    · subst hn; rfl
    · rw [if_pos (by omega)]
      have : ((n : Int) - 1 - -1 - 1) / (- -1) + 1 = n := by
        rw [show (- -1 : Int) = 1 from rfl, Int.ediv_one]
        omega
      rw [this, Int.toNat_natCast]
  show wpAny _ _ (pure ((n : Int) - 1, (-1 : Int), Builtin.Slice.slicePlaces ((n : Int) - 1) (-1) (-1))) _ _ s
  rw [e2]
  exact wpAny_pure h
theorem getItem_back {t sl : Addr} {items : Array Value} {vs : Value} {R : Value → Shared → Prop} (ht : IsTup s.heap t items) (hs : s.heap.IsSliceOf sl .none .none vs) (ps : IsPart vs (some (-1)))
    (h : R (.ref s.heap.objs.size) { s with heap := s.heap.push { cls := .type "tuple", data := .seq items.toList.reverse.toArray } }) (hsz : items.size ≤ sizeLine) : wpAny (model prog w) A (getItem (.ref t) (.ref sl)) R E s := by
  have htake : sizeOk (.seq items.toList.reverse.toArray) := by
    show items.toList.reverse.toArray.size ≤ sizeLine
    rw [List.size_toArray, List.length_reverse, Array.length_toList]
    exact hsz
  obtain ⟨ob, hob, hcb, hdb⟩ := id hs
  have hTb : s.TypeIs (.ref sl) "slice" := ⟨ob, hob, hcb⟩
  unfold getItem
  try with_reducible refine wpAny_holding ?_
  first | refine wpAny_bind (wpAny_pure ?_) | skip
  refine wpAny_bind (wpAny_sequenceKey ht.typeIs (by decide) ?_)
  refine wpAny_bind (wpAny_callSpecial?_slot (name := Str.ofString "__getitem__") ht.typeIs PyProof.Rows.slot_tuple_getitem (wpAny_call_entry PyProof.Rows.slot_tuple_getitem ht.typeIs entry_tuple_getitem ?_ (args_tuple_getitem _ _)))
  show wpAny _ _ (Builtin.Tuple.tupleItemsOf (.ref t) >>= _) _ _ s
  refine wpAny_bind (PyProof.Rows.tupleItemsOf_ ht ?_)
  refine wpAny_bind (wpAny_typeOf hTb ?_)
  rw [if_pos (by decide)]
  refine wpAny_bind (applied_back hs ps ?_)
  have hno : ¬ (((((items.size : Nat) : Int) - 1) == 0 && (-1 : Int) == 1 && items.size == items.size) = true) := by
    intro z
    rw [Bool.and_eq_true, Bool.and_eq_true] at z
    exact absurd z.1.2 (by decide)
  show wpAny _ _ (if ((((items.size : Nat) : Int) - 1) == 0 && (-1 : Int) == 1 && items.size == items.size) = true then _ else _) _ _ s
  rw [if_neg hno, back_run]
  first
    | exact wpAny_bind (m := Builtin.Tuple.tupleExact _) (wpAny_newObj_type (wpAny_pure ⟨_, rfl, wpAny_pure h⟩) htake)
    | exact wpAny_bind (m := Builtin.Tuple.tupleExact _) (wpAny_newObj_type (wpAny_bind (wpAny_pure (wpAny_pure ⟨_, rfl, wpAny_pure h⟩))) htake)
    | exact wpAny_bind (wpAny_bind (m := Builtin.Tuple.tupleExact _) (wpAny_newObj_type (wpAny_pure (wpAny_pure ⟨_, rfl, wpAny_pure h⟩)) htake))
    | exact wpAny_bind (wpAny_bind (m := Builtin.Tuple.tupleExact _) (wpAny_newObj_type (wpAny_pure ⟨_, rfl, wpAny_pure h⟩) htake))
end
section
variable {X : Cx} {cl : Str → Addr} {W : WX}
def tBack (K : PySem.W.Frag) (te : TE) : TE := fun σ H Q => te σ H fun x H1 => ∃ a xs, x = .ref a ∧ SqT K H1 a xs ∧ ∀ p, H1 p = none → Q (.ref p) (upd H1 p (.tup xs.reverse))
theorem pe_back {e : Expr} {te : TE} {k : Nat} {p1 p2 p3 pos : Pos} (he : PE X e te) : PE X (.Subscript e (.Slice none none (some (.UnaryOp .USub (.Constant (.int 1) k p1) p2)) p3) pos) (tBack X.K te) := by
  refine ⟨fun pins s σ H Q I h => ?_⟩
  refine Subscript_ (thn (he.run pins s σ H _ I h) fun v s1 ⟨x, H1, I1, r1, z1⟩ => ?_)
  obtain ⟨a, xs, ex, hx, q⟩ := z1
  subst ex
  cases r1
  have hmi : PO X (some (.UnaryOp .USub (.Constant (.int 1) k p1) p2)) (tPart (tUn (rU fun i => .int (-i)) (tC (.int 1)))) := po_some (pe_un un_neg pe_int)
  refine wpAny_Slice (thn (po_none.run pins s1 σ H1 (fun o G => o = none ∧ G = H1) I1 ⟨rfl, rfl⟩) fun vl s2 ⟨l, H2, I2, pl, el, e2⟩ => ?_)
  subst el e2
  refine thn (po_none.run pins s2 σ H2 (fun o G => o = none ∧ G = H2) I2 ⟨rfl, rfl⟩) fun vu s3 ⟨u, H3, I3, pu, eu, e3⟩ => ?_
  subst eu e3
  refine thn (hmi.run pins s3 σ H3 (fun o G => o = some (-1) ∧ G = H3) I3 ⟨1, rfl, -1, rfl, rfl, rfl⟩) fun vs s4 ⟨o, H4, I4, ps, eo, e4⟩ => ?_
  subst eo e4
  cases pl
  cases pu
  have J : Inv X pins σ H4 { s4 with heap := s4.heap.push { cls := .type "slice", data := .fields #[.none, .none, vs] } } := I4.kept (t' := s4.toks) fun b ob z => Heap.get?_push_of_some _ z
  obtain ⟨its, r, ht, hz⟩ := J.tuple hx
  have hlen := r.length
  show wpAny (model X.prog X.w) X.A (subscriptTail e (.Slice none none (some (.UnaryOp .USub (.Constant (.int 1) k p1) p2)) p3) (.ref a) (.ref s4.heap.objs.size)) (EP X pins σ Q) X.xe { s4 with heap := s4.heap.push { cls := .type "slice", data := .fields #[.none, .none, vs] } }
  refine tail_any (ops := [.ref a, .ref s4.heap.objs.size]) ht.typeIs PyProof.Rows.slot_tuple_getitem.lookup ?_ (by with_unfolding_all rfl)
  refine getItem_back ht (Heap.IsSliceOf.new _ .none .none vs) ps ?_ (by rw [List.size_toArray]; omega)
  refine ⟨.ref _, _, J.laid (t' := s4.toks) (o := .tup xs.reverse) (fun b ob z => Heap.get?_push_of_some _ z) (Nat.le_refl _) ?_, rfl, q _ (J.hok.fresh (Nat.le_refl _))⟩
  exact ⟨by rw [List.length_reverse]; exact hz, _, r.reverse, IsTup.new _ _⟩
theorem TrAll.reverse {K : PySem.W.Frag} {H : Hp} : ∀ {vs : List V} {ds : List D}, TrAll K H vs ds → TrAll K H vs.reverse ds.reverse
  | _, _, .nil => .nil
  | _, _, .cons a b => by
    rw [List.reverse_cons, List.reverse_cons]
    exact (TrAll.reverse b).append (.cons a .nil)
def gBack (p : Wv) (S : Store) : Out Wv := match p with
  | .t (.tuple ds) => .ok (.t (.tuple ds.reverse)) S
  | _ => .stuck
theorem den_back {e : Expr} {f : FE} {k : Nat} {p1 p2 p3 pos : Pos} (he : DenE X cl W e f) : DenE X cl W (.Subscript e (.Slice none none (some (.UnaryOp .USub (.Constant (.int 1) k p1) p2)) p3) pos) (c1 gBack f) := by
  refine PE.imp (pe_back he) fun σ H Q h => ?_
  refine tden1 (r := fun x H1 Q => ∃ a xs, x = .ref a ∧ SqT X.K H1 a xs ∧ ∀ p, H1 p = none → Q (.ref p) (upd H1 p (.tup xs.reverse))) (fun w S H x p Q E s r o => ?_) h
  unfold gBack at o
  split at o
  · obtain ⟨a, vs, rfl, h1, h2⟩ := seqT_ok s r rfl
    exact ⟨a, vs, rfl, h1, fun p hp => o.retTup s hp h2.reverse⟩
  · exact o.elim
end
end Dn

/-! Dn, part 10: an own error over RuntimeError whose __init__ calls RuntimeError.__init__ and stores one field. -/
namespace PySem
namespace ReX
open PySem.W PySem.Calls PyProof.Rows PySem.HandSPX
abbrev reTail : List Value := [.type "RuntimeError", .type "Exception", .type "BaseException", .type "object"]
section
open Builtin Builtin.ObjectAttr
variable {prog : Program} {w : World} {A : Around} {E : Value → Shared → Prop} {R : Result → Shared → Prop} {hp : Heap} {gg : Array GenState} {dr : Drawn} {t : Nat} {os : OsState}
/-- x.name = v, x a new one of such a class: its dict is laid -/
theorem re_osa {K : W.Frag} {name : Str} {tk : Tok} {v : Value} {e C : Addr} {fv : Array Value} {cd : ClassData}
    (hk : K.In hp) (he : hp.get? e = some { cls := .ref C, data := .fields fv }) (hcd : W.clsIn K C = some cd) (hmr : cd.mro = .ref C :: reTail) (hh : cd.hasDict = true) (hno : W.findIn K (.ref C) name = some none)
    (fin : ∀ h' tk' dx, (∀ b o, b ≠ e → hp.get? b = some o → h'.get? b = some o) → hp.objs.size ≤ dx → dx ≠ e → h'.get? e = some { cls := .ref C, dict := some dx, data := .fields fv } →
      h'.Ns1 dx (fun y => if y = name then some v else none) → R (.ok (.ret .none)) ⟨h', gg, dr, tk', os⟩) :
    codeAny (model prog w) A (.call (.builtin "object.__setattr__") ⟨[.ref e, .str name tk, v], []⟩) R ⟨hp, gg, dr, t, os⟩ := by
  have J : W.InstAt hp e { cls := .ref C, data := .fields fv } C none := ⟨he, rfl, rfl, trivial⟩
  have S9 := F.store_object
  have hob : cd.mro.contains (.type "object") = true := by
    rw [hmr, List.contains_cons, show reTail.contains (.type "object") = true from by decide +kernel, Bool.or_true]
  have hne : cd.mro.isEmpty = false := by rw [hmr] <;> rfl
  have hes : e ≠ hp.objs.size := Nat.ne_of_lt (Heap.lt_size he)
  have isO : W.Looks (model prog w) hp (isInstance (.ref e) (.type "object")) true := J.type.andThen (W.looks_mroIn hk (by unfold W.mroIn; rw [hcd, Option.bind_some, if_neg (by rw [hne]; decide), hob]))
  refine codeAny_call_builtin S9.slot.plain S9.entry (@W.check_slot (model prog w) _ _ ⟨hp, gg, dr, t, os⟩ "object.__setattr__" "object" "__setattr__" (.ref e) [.str name tk, v] [] _ S9.kind S9.split isO (S9.args (.ref e) (.str name tk) v) ?_)
  have lm : W.Looks (model prog w) hp (mroOf (.ref C)) cd.mro := (W.looks_clsIn hk hcd).andThen .now
  have lt : W.Looks (model prog w) hp (storeTaker? none) none := .now
  have lc : W.Looks (model prog w) hp (classData C) cd := W.looks_clsIn hk hcd
  rw [W.osa_eq, refuse_eq]
  refine wpAny_bind (wpAny_bind (J.type.at (wpAny_bind (lm.at ?_))))
  rw [hmr, refuseLoop_ref, F.store_RuntimeError.passes (.ref e)]
  refine wpAny_pure (wpAny_bind (J.type.at (wpAny_bind ((W.looks_findIn hk hno).at (wpAny_bind (lt.at ?_))))))
  show wpAny _ _ (storeInOwnDict (.ref e) (.ref C) (.str name tk) name v false) _ _ _
  obtain ⟨nm, bs, mro, ns, qn, hd, sn, sb, ab, col, del⟩ := cd
  dsimp only at hh
  subst hh
  unfold storeInOwnDict ownDictForStores
  repeat (first | with_reducible refine store_in_new ?_ ?_ | with_reducible refine wpAny_loadPart_at he ?_ | with_reducible refine lc.at ?_ | wp_step)
  · exact ⟨_, #[], _, (Heap.get?_update_ne _ _ _ _ hes.symm).trans (Heap.get?_push_at rfl rfl), rfl, fun z hz => absurd hz (by simp), fun _ => rfl⟩
  · intro h' tk' ns' sb'
    have he1 : (hp.push { cls := .type "dict", data := .dict #[] }).get? e = some { cls := .ref C, data := .fields fv } := Heap.get?_push_of_some _ he
    refine fin h' tk' hp.objs.size (fun b o hb ho => ?_) (Nat.le_refl _) hes.symm ?_ ns'
    · exact (sb'.2 b (Nat.ne_of_lt (Heap.lt_size ho))).trans ((Heap.get?_update_ne _ _ _ _ hb).trans (Heap.get?_push_of_some _ ho))
    · exact (sb'.2 e hes).trans (Heap.get?_update_self _ he1 rfl)
end

theorem ty_RE : typeOf (.type "RuntimeError") = pure (.type "type") := by kernel_rfl
end ReX
end PySem
namespace Dn
open PySem PySem.Spec PyProof.Rows L2

/-! ### the class, as the top has written it -/
structure ReC (K : PySem.W.Frag) (C : Addr) : Prop where
  cls : ∃ nm q N bs sn sub ab col dd k0 k1 k2 k3 k5, K.lookup C = some (excClassObj nm q C N bs PySem.ReX.reTail true sn sub ab col dd k0 k1 k2 k3 k5 "RuntimeError.__new__")
  sa : PySem.W.findIn K (.ref C) "__setattr__" = some (some (.builtin "object.__setattr__"))
  exC : PySem.W.subIn K (.ref C) (.type "BaseException") = some true
  tyC : PySem.W.typeIn K (.ref C) = some (.type "type")
  kC : PySem.W.keepIn K (.ref C) = true
section
variable {X : Cx} {pins : List (Addr × Obj)} {σ : Sg} {H : Hp} {s : Shared} {a C : Addr} {fld : Str} {y : V} {u : Value} {E : Value → Shared → Prop} {A : Around}
/-- self.fld = y on the new one -/
theorem re_store {R : Unit → Shared → Prop} (T : ReC X.K C) (I : Inv X pins σ H s) (ea : H a = some (exo a C none)) (hno : PySem.W.findIn X.K (.ref C) fld = some none) (ry : RelV y u)
    (fin : ∀ dx s', H dx = none → dx ≠ a → Inv X pins σ (upd (upd H dx (exd dx [(fld, y)])) a (exo a C (some dx))) s' → R () s') : wpAny (model X.prog X.w) A (setAttr (.ref a) fld u) R E s := by
  obtain ⟨nm, qn, N, bs, sn, sub, ab, col, dd, k0, k1, k2, k3, k5, hC⟩ := T.cls
  have hcl : PySem.W.clsIn X.K C = some { name := nm, bases := bs, mro := .ref C :: PySem.ReX.reTail, ns := N, qualname := qn, hasDict := true, slotNames := sn, subclasses := sub, abstract := ab, collection := col, hasDel := false } := by unfold PySem.W.clsIn; rw [hC] <;> rfl
  obtain ⟨t1, hoa⟩ := exo_at I.hok ea
  obtain ⟨hp, gs, dr, tk, os⟩ := s
  refine PySem.W.set_plain I.kIn (ox := { cls := .ref C, dict := none, data := .fields #[.ref t1, .none, .none, .none, .bool false, .none] }) (od := none) ⟨hoa, rfl, rfl, trivial⟩ T.sa ?_
  refine PySem.ReX.re_osa I.kIn hoa hcl rfl rfl hno (fun h2 tk2 dx keep dn dne hx hn => ?_)
  have hnd : H dx = none := I.hok.fresh dn
  have nd : ∀ {b : Addr} {ob : Obj}, hp.get? b = some ob → b ≠ dx := fun {b ob} z => Nat.ne_of_lt (Nat.lt_of_lt_of_le (Heap.lt_size z) dn)
  have na : ∀ {b : Addr}, H b = none → b ≠ a := fun {b} n z => by
    rw [z, ea] at n
    cases n
  have U : Un X.fs [] H (upd (upd H dx (exd dx [(fld, y)])) a (exo a C (some dx))) hp h2 := {
    keep := fun b ob z n _ _ => keep b ob (na n) z
    slot := fun b ob z n _ _ => ⟨ob.slots, keep b ob (na n) z⟩
    free := fun b ob z n _ => by rw [upd_ne (na n), upd_ne (nd z)]; exact n
    there := fun b ob z _ => by
      by_cases hb : b = a
      · exact ⟨_, by rw [hb]; exact hx⟩
      · exact ⟨ob, keep b ob hb z⟩
    tups := fun b xs z => by rw [upd_ne (at_ne ea z exo_tup), upd_ne (ne_of_none z hnd)]; exact z
    frzs := fun b ob v z => by rw [upd_ne (at_ne ea z exo_frz), upd_ne (ne_of_none z hnd)]; exact z
    tbls := fun b ps z => ⟨#[], by rw [upd_ne (at_ne ea z exo_tbl), upd_ne (ne_of_none z hnd), z]; simp⟩ }
  refine fin dx _ hnd dne (I.un (t' := tk2) U fun b ob z => ?_)
  by_cases hb : b = a
  · subst hb
    rw [upd_same] at z
    cases z
    exact exo_ok hx
  · rw [upd_ne hb] at z
    by_cases hd : b = dx
    · subst hd
      rw [upd_same] at z
      cases z
      exact exd_ok hn (relO_put (fs := []) ry fun g => True.intro)
    · rw [upd_ne hd] at z
      exact (I.hok b ob z).stay (fun c v hc x => keep c v (by
          rcases hc with hc | hc
          · rw [hc]
            exact hb
          · exact at_ne ea hc exo_own) x)
        (fun c hc => by rw [upd_ne (at_ne ea hc exo_own), upd_ne (ne_of_none hc hnd)]; exact hc) (fun c xs hc => by rw [upd_ne (at_ne ea hc exo_tup), upd_ne (ne_of_none hc hnd)]; exact hc)
/-- RuntimeError.__init__(self, ..) -/
theorem re_init {us : List Value} {R : Value → Shared → Prop} (T : ReC X.K C) (I : Inv X pins σ H s) (ea : H a = some (exo a C none)) (hl : us.length ≤ sizeLine) (fin : ∀ s', Inv X pins σ H s' → R .none s') :
    wpAny (model X.prog X.w) A (call (.builtin "RuntimeError.__init__") (.ref a :: us)) R E s := by
  obtain ⟨nm, qn, N, bs, sn, sub, ab, col, dd, k0, k1, k2, k3, k5, hC⟩ := T.cls
  obtain ⟨t1, hoa⟩ := exo_at I.hok ea
  obtain ⟨hp, gs, dr, tk, os⟩ := s
  refine wpAny_call (PySem.HandSPX.init_base F.excBase_RuntimeError (fun _ => rfl) (I.kIn _ _ hC) hoa hl fun h2 t2 keep hx => ?_)
  have J := I.write (t' := tk) (x := a) (e := a) (o := exo a C none) (by rw [ea]; exact True.intro) (.inl rfl) keep ⟨_, hx⟩ (exo_ok hx)
  have eu : upd H a (exo a C none) = H := by
    funext b
    by_cases hb : b = a
    · rw [hb, upd_same, ea]
    · rw [upd_ne hb]
  rw [eu] at J
  exact fin _ J
end
/-! ### the readings -/
def tReI (K : PySem.W.Frag) (ta : TA) : TE := fun σ H Q => ta σ H fun vs H1 => ∃ (a C : Addr) (ws : List V), vs = .ref a :: ws ∧ ws.length ≤ 1000 ∧ ReC K C ∧ H1 a = some (exo a C none) ∧ Q .non H1
def tReS (K : PySem.W.Frag) (fld : Str) (to te : TE) : TS := fun D σ H => te σ H fun y H1 => to σ H1 fun x H2 => ∃ a C : Addr, x = .ref a ∧ ReC K C ∧ PySem.W.findIn K (.ref C) fld = some none ∧
  H2 a = some (exo a C none) ∧ ∀ dx, H2 dx = none → dx ≠ a → D.nx σ (upd (upd H2 dx (exd dx [(fld, y)])) a (exo a C (some dx)))
/-- what __init__ keeps -/
def spReI (K : PySem.W.Frag) (fld : Str) : Sp := fun vs H Q _ => ∃ (a C : Addr) (v : V), vs = [.ref a, v] ∧ ReC K C ∧ PySem.W.findIn K (.ref C) fld = some none ∧ H a = some (exo a C none) ∧
  ∀ dx, H dx = none → dx ≠ a → Q .non (upd (upd H dx (exd dx [(fld, v)])) a (exo a C (some dx)))
section
variable {X : Cx} {o e : Expr} {es : List Expr} {to te : TE} {ta : TA} {fld : Str} {p p' p1 p2 pos : Pos}
theorem pe_reI {pl : Sem Bool} (hg : Gl X "RuntimeError") (hm : X.mg "RuntimeError" = none) (vV : PySem.W.findCls X.K (.type "RuntimeError") (.type "type") "__init__" = some (.val (.builtin "RuntimeError.__init__"))) (ha : PA X (e :: es) ta)
    (hc : eval (.Call (.Attribute (.Name "RuntimeError" p1) "__init__" p2) (e :: es) [] pos) X.env = (do
      let ob ← eval (.Name "RuntimeError" p1) X.env
      standAt p2.atName
      let (m, fst) ← holding [ob] (getMethod ob "__init__" pl)
      callWith pos m fst (backTo pos (starEach (e :: es) X.env)) (backToKw pos (keywordEach [] X.env))) := by rfl)
    (he : starEach (e :: es) X.env = (false, eval e X.env) :: starEach es X.env := by rfl) (hpl : (backTo pos (starEach es X.env)).any (·.1) = false := by rfl) :
    PE X (.Call (.Attribute (.Name "RuntimeError" p1) "__init__" p2) (e :: es) [] pos) (tReI X.K ta) := by
  refine ⟨fun pins s σ H Q I h => ?_⟩
  refine PySem.W.methodCall_KW (ld_blt I hg hm PyProof.Rows.Boot.«RuntimeError» ?_ (by decide) (by decide)) hc
  obtain ⟨m, fr⟩ := I.fr
  refine PySem.W.method_type fr I.ok.mod.kin PySem.ReX.ty_RE (by decide +kernel) vV (by decide +kernel) ?_
  show wpAny _ _ (callWith pos (Value.builtin "RuntimeError.__init__") [] (backTo pos (starEach (e :: es) X.env)) []) _ _ _
  refine PyProof.Rows.callWith_method1 (thn (ha.run pos pins _ σ H _ (I.tok _) h) fun us s1 ⟨vs, H1, I1, r1, a, C, ws, ev, hl, T, ea, q⟩ => ?_) he hpl
  subst ev
  cases r1 with
  | @cons _ w0 _ wr ra rest =>
    obtain rfl : w0 = Value.ref a := ra
    have hlen : wr.length ≤ sizeLine := by
      rw [← Paired.length rest, sizeLine_eq]
      omega
    exact re_init T I1 ea hlen fun s' J => ⟨.non, H1, J, rfl, q⟩
theorem ps_reS (ho : PE X o to) (he : PE X e te) (hs : swapsWith e (some (.Attribute o fld p')) pos.line X.env = pure false := by rfl) : PS X (.Assign [.Attribute o fld p'] e pos) (tReS X.K fld to te) := by
  refine ⟨fun pins s σ H D I h => ?_⟩
  refine plainObj_wpAny_Assign_Attribute (thn (he.run pins s σ H _ I h) fun v s1 ⟨y, H1, I1, r1, q1⟩ => thn (ho.run pins s1 σ H1 _ I1 q1) fun u s2 ⟨x, H2, I2, r2, a, C, ex, T, hno, ea, q⟩ => ?_) hs
  subst ex
  obtain rfl : u = Value.ref a := r2
  exact re_store T I2 ea hno r1 fun dx s' n ne J => ⟨σ, _, J, q dx n ne⟩
/-- C(e) -/
def tMkRe (C : Addr) (fld : Str) (ta : TA) : Sg → Hp → XK → Prop := fun σ H Q => ta σ H fun vs H1 => ∃ v, vs = [v] ∧ ∀ d, H1 d = none → Q (.ref C) (some d) (upd H1 d (.xd [(fld, v)]))
theorem pmk_re {CX : CXT} {x : Str} {C fI : Addr} {k : Nat} {fd : FuncData} {ps : List Str} (T : ReC X.K C) (hno : PySem.W.findIn X.K (.ref C) fld = some none) (iC : PySem.W.findIn X.K (.ref C) "__init__" = some (some (.ref fI))) (tI : PySem.W.typeIn X.K (.ref fI) = some (.type "function"))
    (F1 : FnOk X.prog X.w X.K X.mg X.base CX k fI fd ps (spReI X.K fld)) (hr : Room (k + 1) X.A) (hb : Binds X.K fd ps []) (hx : Passes CX X (fun _ _ _ => False)) (hg : Gl X x) (hm : X.mg x = some (.ref C)) (ha : PA X [e] ta)
    (hdb : (x == ("__debug__" : Str)) = false := by decide) (he : starEach [e] X.env = (false, eval e X.env) :: starEach [] X.env := by rfl) (hpl : (backTo pos (starEach [] X.env)).any (·.1) = false := by rfl) :
    PMk X (.Call (.Name x p) [e] [] pos) (tMkRe C fld ta) := by
  intro pins s σ H Q I h
  obtain ⟨nm, qn, N, bs, sn, sub, ab, col, dd, k0, k1, k2, k3, k5, hC⟩ := T.cls
  refine wpAny_Call_Name_kw (ld_glob I hg hm ?_ hdb)
  refine PySem.W.callWith_K (h₀ := X.base) I.ok.mod.kin T.kC (thn (ha.run pos pins s σ H _ I h) fun us s1 ⟨vs, H1, I1, r1, v, ev, q1⟩ => ⟨I1.kIn, ?_⟩) he hpl
  subst ev
  obtain ⟨u1, rfl, ru⟩ := vals1 r1
  show wpAny _ _ (call (.ref C) [u1]) _ _ _
  obtain ⟨hp, gs, dr, tk, os⟩ := s1
  have hsz : hp.objs.size ≤ hp.objs.size + 1 := Nat.le_succ _
  have hn : H1 (hp.objs.size + 1) = none := I1.hok.fresh hsz
  have keep : ∀ b ob, hp.get? b = some ob → ((hp.push (PySem.W.kdv_tup [u1])).push (PySem.HandSPX.excO C hp.objs.size)).get? b = some ob := fun b ob z => Heap.get?_push_of_some _ (Heap.get?_push_of_some _ z)
  have hget : ((hp.push (PySem.W.kdv_tup [u1])).push (PySem.HandSPX.excO C hp.objs.size)).get? (hp.objs.size + 1) = some (PySem.HandSPX.excO C hp.objs.size) := by heap_get
  have J : Inv X pins σ (upd H1 (hp.objs.size + 1) (exo (hp.objs.size + 1) C none)) ⟨(hp.push (PySem.W.kdv_tup [u1])).push (PySem.HandSPX.excO C hp.objs.size), gs, dr, tk, os⟩ :=
    I1.laid (t' := tk) (a := hp.objs.size + 1) (o := exo (hp.objs.size + 1) C none) (h' := (hp.push (PySem.W.kdv_tup [u1])).push (PySem.HandSPX.excO C hp.objs.size)) keep hsz (exo_ok hget)
  have r2 : Vals [V.ref (hp.objs.size + 1), v] [Value.ref (hp.objs.size + 1), u1] := .cons rfl (.cons ru .nil)
  have hus : [u1].length ≤ sizeLine := by
    rw [sizeLine_eq]
    exact (by decide : 1 ≤ 16777216)
  have hq : spReI X.K fld [V.ref (hp.objs.size + 1), v] (upd H1 (hp.objs.size + 1) (exo (hp.objs.size + 1) C none))
      (fun z H2 => z = .non ∧ ∃ d : Addr, H2 (hp.objs.size + 1) = some (exo (hp.objs.size + 1) C (some d)) ∧ H2 d = some (exd d [(fld, v)]) ∧ H1 d = none ∧ Q (.ref C) (some d) (upd (del H2 (hp.objs.size + 1)) d (.xd [(fld, v)]))) (fun _ _ _ => False) := by
    refine ⟨_, C, v, rfl, T, hno, upd_same, fun dx n ne => ⟨rfl, dx, upd_same, ?_, ?_, ?_⟩⟩
    · rw [upd_ne ne, upd_same]
    · rw [upd_ne ne] at n; exact n
    · have n1 : H1 dx = none := by rw [upd_ne ne] at n; exact n
      have ee : upd (del (upd (upd (upd H1 (hp.objs.size + 1) (exo (hp.objs.size + 1) C none)) dx (exd dx [(fld, v)])) (hp.objs.size + 1) (exo (hp.objs.size + 1) C (some dx))) (hp.objs.size + 1)) dx (.xd [(fld, v)]) = upd H1 dx (.xd [(fld, v)]) := by
        funext b
        by_cases hb : b = dx
        · rw [hb, upd_same, upd_same]
        · rw [upd_ne hb, upd_ne hb]
          by_cases hc : b = hp.objs.size + 1
          · rw [hc, del_same, hn]
          · rw [del_ne hc, upd_ne hc, upd_ne hb, upd_ne hc]
      rw [ee]
      exact q1 dx n1
  have hl : [Value.ref (hp.objs.size + 1), u1].length = ps.length := F1.len _ _ _ _ hq
  refine wpAny_call (PySem.HandSPX.call_own F.excBase_RuntimeError (fun _ => rfl) (I1.kIn _ _ hC) (PySem.W.looks_findIn I1.kIn iC) (fun self => PySem.W.bind_fn I1.kIn self tI) hus
    (codeAny_mono (F1.run _ X.stack _ _ ⟨[Value.ref (hp.objs.size + 1), u1], []⟩ [Value.ref (hp.objs.size + 1), u1] _ _ (fun _ _ _ => False) (hr.make C [u1] []) (J.env0.make C [u1] []) (hb _ [Value.ref (hp.objs.size + 1), u1] J.kIn hl) r2 hq) fun r s' hq' => ?_))
  cases r with
  | error er => exact hx pins σ _ _ er s' J hq'
  | ok fl =>
    cases fl with
    | ret z =>
      obtain ⟨v2, H2, os2, bare2, un2, hok2, rv, ev, d, ea, ed, hd1, q2⟩ := hq'
      subst ev
      obtain ⟨h2, g2, d2, t2, os'⟩ := s'
      exact ⟨rv, mk_end (raises_own T.exC T.tyC) I1 hsz keep un2 hok2 os2 bare2 ea ed hd1 q2⟩
    | next => exact False.elim hq'
    | brk => exact False.elim hq'
    | cont => exact False.elim hq'
end
end Dn

/-! Dn, part 11: raise of such an error; try, the error kept; its field; isinstance of it. -/
namespace Dn
open PySem PySem.Spec PyProof.Rows L2
theorem exk_ok {P : Program} {w : World} {H : Hp} {h : Heap} {a : Addr} {cls : Value} {d : Option Addr} {oe : Obj} {vs : Array Value} (e : h.get? a = some oe) (z : Zc cls d oe) (k : oe.data = .fields vs) : ObjOk P w H h a (exk a cls d) :=
  ⟨⟨oe, vs, e, z, k⟩, ⟨oe, e⟩, fun _ _ ⟨o, v, q, r⟩ kp => ⟨o, v, kp o q, r⟩⟩
theorem exk_at {P : Program} {w : World} {H : Hp} {h : Heap} {a : Addr} {cls : Value} {d : Option Addr} (hok : HOk P w H h) (e : H a = some (exk a cls d)) : ∃ (oe : Obj) (vs : Array Value), h.get? a = some oe ∧ Zc cls d oe ∧ oe.data = .fields vs := by
  have x : ObjOk P w H h a (.ext fun h => ∃ (oe : Obj) (vs : Array Value), h.get? a = some oe ∧ Zc cls d oe ∧ oe.data = .fields vs) := hok a _ e
  exact x.1
section
variable {X : Cx} {pins : List (Addr × Obj)} {σ : Sg} {H : Hp} {s sI : Shared} {a : Addr}
/-- an object that nobody had tracked is tracked -/
theorem track {φ : Heap → Prop} (I : Inv X pins σ H s) (J : Inv X pins σ H sI) (hx : X.ex = []) (hn : sI.heap.get? a = none) (na : H a = none) (nL : a ≠ X.env.locals) (new : ObjOk X.prog X.w (upd H a (.ext φ)) s.heap a (.ext φ)) : Inv X pins σ (upd H a (.ext φ)) s := by
  have n0 : X.s_0.heap.get? a = none := by
    cases e : X.s_0.heap.get? a with
    | none => rfl
    | some ob =>
      obtain ⟨o2, e2⟩ := J.base.there a ob e (by rw [hx]; exact fun z => nomatch z)
      rw [hn] at e2
      cases e2
  have ne0 : ∀ {b ob}, X.s_0.heap.get? b = some ob → b ≠ a := fun {b ob} e z => by
    rw [z, n0] at e
    cases e
  have neI : ∀ {b ob}, sI.heap.get? b = some ob → b ≠ a := fun {b ob} e z => by
    rw [z, hn] at e
    cases e
  refine ⟨I.ok, I.os, I.bare, ⟨I.base.keep, I.base.slot, fun b ob e n hb => ?_, I.base.there, fun b xs e => ?_, fun b ob u e => ?_, fun b ps e => ?_⟩, I.loc, I.cell, ?_, fun x c e => ?_, fun p hp => ?_, ?_, I.len⟩
  · rw [upd_ne (ne0 e)]
    exact I.base.free b ob e n hb
  · have z := I.base.tups b xs e
    rw [upd_ne (ne_of_none z na)]
    exact z
  · have z := I.base.frzs b ob u e
    rw [upd_ne (ne_of_none z na)]
    exact z
  · obtain ⟨m, z⟩ := I.base.tbls b ps e
    exact ⟨m, by rw [upd_ne (ne_of_none z na)]; exact z⟩
  · rw [upd_ne (Ne.symm nL)]
    exact I.free
  · obtain ⟨v, ob, z, _⟩ := J.cell x c e
    rw [upd_ne (neI z)]
    exact I.freeC x c e
  · obtain ⟨e, n, ne, nf, k⟩ := I.pin p hp
    obtain ⟨e', _⟩ := J.pin p hp
    exact ⟨e, by rw [upd_ne (neI e')]; exact n, ne, nf, k⟩
  · exact I.hok.laidN (fun _ _ z => z) na new
theorem to_suite (I : Inv X pins σ H s) (c : Addr) : Inv (X.suite c (X.pn ++ pins)) [] σ H s :=
  ⟨I.ok.suite _ _, I.os, I.bare, I.base, I.loc, I.cell, I.free, I.freeC, fun p hp => I.pin p (by rw [List.append_nil] at hp; exact hp), I.hok, I.len⟩
theorem of_suite {c : Addr} {pn' : List (Addr × Obj)} (I : Inv (X.suite c (X.pn ++ pins)) pn' σ H s) (ok : X.Ok) : Inv X pins σ H s :=
  ⟨ok, I.os, I.bare, I.base, I.loc, I.cell, I.free, I.freeC, fun p hp => I.pin p (List.mem_append_left _ hp), I.hok, I.len⟩
end
/-- what a clause 'except x as n' asks, the error tracked from then on -/
def wKeep (K : PySem.W.Frag) (c : Value) (i : Nat) (ts : Addr → TS) (Wout : WX) (D : Ends) : WX := fun cls d σ H =>
  ∃ b, PySem.W.exmOne K cls c = some b ∧ (b = true → ∀ a, H a = none → ts a { nx := fun σ' H' => D.nx (σ'.set i none) H', rt := D.rt, bk := fun σ' H' => D.bk (σ'.set i none) H', ct := fun σ' H' => D.ct (σ'.set i none) H' } (σ.set i (some (.ref a))) (upd H a (exk a cls d))) ∧
    (b = false → Wout cls d σ H)
section
variable {X : Cx} {x n : Str} {c : Value} {i : Nat} {body suite : List Stmt} {b₀ : Stmt} {np pos pos' : Pos} {tb : WX → TS} {ts : Addr → TS} {Wout : WX}
theorem ps_try_keep (hst : X.stack = X.env :: X.outer) (hf : X.env.frame = some X.env.locals) (hex : X.ex = []) (hN : X.N.Nodup) (hi : X.N[i]? = some n) (hln : X.env.kindOf n = some .local) (hc : Names X x c) (tk : Takes X Wout)
    (hb : ∀ (W : WX) (pn : List (Addr × Obj)) (xe : Value → Shared → Prop), Takes (X.tr pn xe) W → PassesOwn (model X.prog X.w) X.A X.env xe → PSs (X.tr pn xe) body (tb W))
    (hsu : ∀ (a : Addr) (pn : List (Addr × Obj)), PSs (X.suite a pn) (b₀ :: suite) (ts a)) :
    PS X (.Try body [.ExceptHandler (some (.Name x np)) (some n) (b₀ :: suite) pos'] [] [] pos) (fun D σ H => tb (wKeep X.K c i ts Wout D) D σ H) := by
  refine ⟨fun pins s σ H D I h => ?_⟩
  have ok0 := I.ok
  have frA : X.A.frames = some (X.env :: X.outer) := by rw [ok0.frames, hst]
  have locN : Loc X.env.scope n := .inl hln
  refine wpAny_Try_except ?_
  refine wpAny_mono ((hb (wKeep X.K c i ts Wout D) (X.pn ++ pins) (fun u s₁ => wpAny (model X.prog X.w) X.A (noteFrame u X.env) (fun _ s₂ => wpAny (model X.prog X.w) X.A (setFlight u none) (fun _ s₃ =>
    wpAny (model X.prog X.w) X.A (handleBy u X.env [.ExceptHandler (some (.Name x np)) (some n) (b₀ :: suite) pos']) (SP X pins D) X.xe s₃) X.xe s₂) X.xe s₁) (fun u s' air => ?_) PassesOwn.looking).run [] s σ H D (I.toTry _) h) (fun f s1 hsp => ?_) (fun _ _ z => z)
  · obtain ⟨a, B, sI, pins', σ', H', cls, d, rfl, J', nb, up, sky, na, os, ag, b, hb1, hyes, hno⟩ := air
    have J : Inv X pins σ' H' sI := J'.ofTry ok0
    have sky2 : Sky B (X.env :: X.outer) a (Zc cls d) X.env.locals s'.heap := by rw [← hst]; exact sky
    show wpAny (model X.prog X.w) X.A (noteFrame (.ref a) X.env) _ _ _
    refine Sky.land Zc.steady frA hf sky2 fun h3 fl3 up3 => ?_
    have J3 : Inv X pins σ' H' { s' with heap := h3 } := J.landed nb fl3.1 (up.trans up3) os ag
    obtain ⟨oe3, vs3, he3, hz3, hd3⟩ := fl3.there
    have notFrame : ∀ {hh : Heap} {ob : Obj} {vs : Array Value}, hh.FunFrames B (X.env :: X.outer) → hh.get? a = some ob → ob.data = .fields vs → a ∉ frs (X.env :: X.outer) := fun {hh ob vs} ff e dd hm => by
      obtain ⟨_, o', e', hnf⟩ := ff.mem hm
      rw [e] at e'
      cases e'
      exact hnf _ dd
    have nfr := notFrame fl3.2.2.1 he3 hd3
    have nL : a ≠ X.env.locals := fun z => nfr (List.mem_filterMap.mpr ⟨X.env, List.mem_cons_self, by rw [hf, z]⟩)
    have hnI : sI.heap.get? a = none := by
      cases e : sI.heap.get? a with
      | none => rfl
      | some ob =>
        have z := nb a ob e (by rw [hst]; exact nfr)
        rw [fl3.2.1] at z
        cases z
    have S3 := to_suite J3 a
    refine wpAny_handleBy_cons (codeAny_handlers_test ?_) (by intro q; cases q)
    have lty : PySem.W.Looks (model X.prog X.w) h3 (typeOf (.ref a)) cls := fun A Q E s kp q => wpAny_typeOf_ref (kp _ _ he3) (by rw [hz3.1]; exact q)
    have lmt := PySem.W.exm_one (M := model X.prog X.w) (J3.kIn) lty hb1
    have test : ∀ {Q : Value → Shared → Prop} {E : Value → Shared → Prop}, Q c { s' with heap := h3 } → wpAny (model X.prog X.w) (X.A.mark (some (.ref a))) (eval (.Name x np) X.env) Q E { s' with heap := h3 } := fun {Q E} q => by
      obtain ⟨hg, hdbg, hm | ⟨hm, hv, hnn⟩⟩ := hc
      · exact ld_glob (X := X.suite a (X.pn ++ pins)) S3 hg hm q hdbg
      · exact ld_blt (X := X.suite a (X.pn ++ pins)) S3 hg hm hv q hnn hdbg
    refine test (lmt.here ?_)
    cases b with
    | true =>
      refine codeAny_handlers_suite_as ?_
      refine HandSPX.lands_againZ fl3 fun h4 fl4 up4 => ?_
      have J4 : Inv X pins σ' H' { s' with heap := h4 } := J.landed nb fl4.1 ((up.trans up3).trans up4) os ag
      obtain ⟨oe4, vs4, he4, hz4, hd4⟩ := fl4.there
      have S4 := to_suite (track J4 J hex hnI na nL (exk_ok he4 hz4 hd4)) a
      refine store_ok (X := X.suite a (X.pn ++ pins)) (v := .ref a) S4 hN hi locN rfl (fun s5 S5 => ?_) (.inr hln)
      refine wpAny_mono ((hsu a (X.pn ++ pins)).run [] s5 _ _ _ S5 (hyes rfl a na)) (fun f s6 hsp => ?_) (fun _ _ z => False.elim z)
      have ends : ∀ {σ6 : Sg} {H6 : Hp} {Q : Shared → Prop}, Inv (X.suite a (X.pn ++ pins)) [] σ6 H6 s6 → (∀ s7, Inv X pins (σ6.set i none) H6 s7 → Q s7) →
          wpAny (model X.prog X.w) X.A (do bindName X.env n .none; unbindBehindTheSuite X.env n pos') (fun _ s7 => Q s7) X.xe s6 := fun {σ6 H6 Q} S6 hq => gone_ok (of_suite S6 ok0) hN hi hln hq
      cases f with
      | next =>
        obtain ⟨σ6, H6, S6, z6⟩ := hsp
        exact ends S6 fun s7 J7 => ⟨_, _, J7, z6⟩
      | brk =>
        obtain ⟨σ6, H6, S6, z6⟩ := hsp
        exact ends S6 fun s7 J7 => ⟨_, _, J7, z6⟩
      | cont =>
        obtain ⟨σ6, H6, S6, z6⟩ := hsp
        exact ends S6 fun s7 J7 => ⟨_, _, J7, z6⟩
      | ret u =>
        obtain ⟨v6, σ6, H6, S6, r6, z6⟩ := hsp
        exact ends S6 fun s7 J7 => ⟨_, _, _, J7, r6, z6⟩
    | false =>
      show wpAny _ X.A (handleBy (.ref a) X.env []) _ _ _
      refine wpAny_handleBy_nil ?_
      obtain ⟨k1, k2, k3, oe, vs, T, oT, ts', he, hz, hd, h1, hr⟩ := id fl3
      unfold PySem.passOn
      refine wpAny_bind (wpAny_field he hd h1 ?_)
      rw [if_neg (show ¬ ((Value.ref T == Value.none) = true) from by simp)]
      have out : wpAny (model X.prog X.w) X.A (setFlight (.ref a) X.env.frame) (fun _ s4 => wpAny (model X.prog X.w) X.A (throw (.ref a) : Sem Flow) (SP X pins D) X.xe s4) X.xe { s' with heap := h3 } := by
        rw [hf]
        refine HandSPX.setFlight_upZ fl3 fun h4 hh4 up4 => wpAny_throw (tk _ _ ?_)
        exact ⟨a, B, sI, pins, σ', H', cls, d, rfl, J, nb, (up.trans up3).trans up4, .inr (.inr (by rw [hst]; exact hh4)), na, os, ag, hno rfl⟩
      first
        | exact wpAny_bind (wpAny_pure (wpAny_bind out))
        | exact wpAny_bind out
  · cases f with
    | next =>
      obtain ⟨σ', H', J', z⟩ := hsp
      exact wpAny_execs_nil ⟨σ', H', J'.ofTry ok0, z⟩
    | brk =>
      obtain ⟨σ', H', J', z⟩ := hsp
      exact ⟨σ', H', J'.ofTry ok0, z⟩
    | cont =>
      obtain ⟨σ', H', J', z⟩ := hsp
      exact ⟨σ', H', J'.ofTry ok0, z⟩
    | ret u =>
      obtain ⟨v, σ', H', J', r, z⟩ := hsp
      exact ⟨v, σ', H', J'.ofTry ok0, r, z⟩
end
end Dn

/-! Dn, part 12: raise, try with the error kept, its field, isinstance of it. -/
namespace Dn
open PySem PySem.Spec PyProof.Rows L2
section
variable {K : PySem.W.Frag} {cl : Str → Addr} {w : Wd} {S : Store} {H : Hp}
/-- something that stands for ever is given a cell -/
theorem Sat.pushFrz (s : Sat K cl w S H) {p : Addr} {c : Cell} (lc : c.live = false) (hc : CellOk K cl (w.push p) H p c) : Sat K cl (w.push p) (S ++ [c]) H := by
  have get : ∀ k d, (S ++ [c])[k]? = some d → (k < S.length ∧ S[k]? = some d) ∨ (k = S.length ∧ d = c) := fun k d e => by
    by_cases hk : k < S.length
    · rw [List.getElem?_append_left hk] at e
      exact .inl ⟨hk, e⟩
    · rw [List.getElem?_append_right (by omega)] at e
      have h0 : k - S.length = 0 := by
        have := (List.getElem?_eq_some_iff.mp e).1
        simp at this
        omega
      rw [h0] at e
      simp at e
      exact .inr ⟨by omega, e.symm⟩
  refine ⟨s.same, by rw [List.length_append, ← s.n]; rfl, fun k d e => ?_, fun i j x y e1 e2 h1 h2 h => ?_⟩
  · rcases get k d e with ⟨hk, e'⟩ | ⟨hk, hd⟩
    · rw [(w.push_le p).φ k (by rw [s.n]; exact hk)]
      exact (s.cell k d e').stay (w.push_le p) (fun _ => rfl) fun h => ((s.cell k d e').at0 h).1
    · subst hd
      rw [show (w.push p).φ k = p by rw [hk, ← s.n]; exact w.push_at p]
      exact hc
  · rcases get i x e1 with ⟨hi, f1⟩ | ⟨hi, f1⟩
    · rcases get j y e2 with ⟨hj, f2⟩ | ⟨hj, f2⟩
      · rw [(w.push_le p).φ i (by rw [s.n]; exact hi), (w.push_le p).φ j (by rw [s.n]; exact hj)] at h
        exact s.inj i j x y f1 f2 h1 h2 h
      · subst f2
        rw [lc] at h2
        cases h2
    · subst f1
      rw [lc] at h1
      cases h1
/-- a caught error is laid into the store -/
theorem Sat.caught (s : Sat K cl w S H) {a : Addr} {d : Option Addr} {C : Str} {fs : List (Str × D)} (na : H a = none) (x : XdAt K w.H0 d fs) :
    ∃ w2, w.le w2 ∧ Sat K cl w2 (S ++ [.exn C fs]) (upd H a (exk a (.ref (cl C)) d)) ∧ WR K w2 (.ref a) (.c S.length) := by
  obtain ⟨l, s1⟩ := s.frozen na (exk a (.ref (cl C)) d)
  have l2 := Wd.push_le ⟨upd w.H0 a (exk a (.ref (cl C)) d), w.φ, w.n⟩ a
  refine ⟨_, l.trans l2, s1.pushFrz (p := a) rfl ⟨d, upd_same, xdAt_same l.same x⟩, ?_, ?_⟩
  · show S.length < w.n + 1
    rw [s.n]
    exact Nat.lt_succ_self _
  · show V.ref a = V.ref ((Wd.push ⟨upd w.H0 a (exk a (.ref (cl C)) d), w.φ, w.n⟩ a).φ S.length)
    rw [← s.n]
    exact congrArg V.ref (Wd.push_at ⟨upd w.H0 a (exk a (.ref (cl C)) d), w.φ, w.n⟩ a).symm
end
section
variable {X : Cx} {cl : Str → Addr} {W : WX}
/-! ### raise -/
def sRaise (C fld : Str) (f : FA) : FS := fun δ S => (f δ S).thenS δ fun rs S1 => match rs with
  | [.t d] => .exc C [(fld, d)] δ S1
  | _ => .stuck
theorem den_raise {CX : CXT} {x fld : Str} {fI : Addr} {k : Nat} {fd : FuncData} {ps : List Str} {e : Expr} {f : FA} {p pos pos2 : Pos} (hc : X.calm = true) (tk : Takes X W) (T : ReC X.K (cl x)) (hno : PySem.W.findIn X.K (.ref (cl x)) fld = some none) (iC : PySem.W.findIn X.K (.ref (cl x)) "__init__" = some (some (.ref fI))) (tI : PySem.W.typeIn X.K (.ref fI) = some (.type "function"))
    (F1 : FnOk X.prog X.w X.K X.mg X.base CX k fI fd ps (spReI X.K fld)) (hr : Room (k + 1) X.A) (hb : Binds X.K fd ps []) (hx : Passes CX X (fun _ _ _ => False)) (hm : X.mg x = some (.ref (cl x))) (ha : DenA X cl W [e] f) (hg : Gl X x := by rfl)
    (hdb : (x == ("__debug__" : Str)) = false := by decide) (he : starEach [e] X.env = (false, eval e X.env) :: starEach [] X.env := by rfl) (hpl : (backTo pos (starEach [] X.env)).any (·.1) = false := by rfl) :
    DenS X cl W (.Raise (some (.Call (.Name x p) [e] [] pos)) none pos2) (sRaise x fld f) := by
  refine PS.imp (ps_raise hc tk (pmk_re T hno iC tI F1 hr hb hx hg hm ha hdb he hpl)) fun E σ H ⟨w, S, δ, sat, sl, q⟩ => ⟨w, S, δ, sat, sl, ?_⟩
  refine OkA.mono (OkA.thenS sl q) (fun us H1 ⟨w1, rs, S1, l1, s1, r1, q1⟩ => ?_) fun _ _ _ z => z
  split at q1
  · rename_i d
    obtain ⟨v, rfl, hv⟩ := r1.one
    refine ⟨v, rfl, fun dx hd => ?_⟩
    obtain ⟨l2, s2⟩ := s1.frozen hd (.xd [(fld, v)])
    exact q1 _ _ σ (some dx) l2 s2 ((sl.le l1).le l2) ⟨dx, _, rfl, upd_same, .cons ⟨rfl, tr_same l2.same hv⟩ .nil⟩
  · exact q1.elim
/-! ### try -/
def sTry (body : FS) (cat : Str → Option Bool) (i : Nat) (h : FS) : FS := fun δ S => match body δ S with
  | .exc C fs δ1 S1 => (match cat C with
    | some true => (match h (δ1.set i (some (.c S1.length))) (S1 ++ [.exn C fs]) with
      | .nx δ2 S2 => .nx (δ2.set i none) S2
      | .bk δ2 S2 => .bk (δ2.set i none) S2
      | .ct δ2 S2 => .ct (δ2.set i none) S2
      | .rt r S2 => .rt r S2
      | _ => .stuck)
    | some false => .exc C fs δ1 S1
    | none => .stuck)
  | o => o
theorem den_try (i : Nat) {x n : Str} {c : Value} {body suite : List Stmt} {b₀ : Stmt} {np pos pos' : Pos} {f h : FS} (cat : Str → Option Bool) (hst : X.stack = X.env :: X.outer) (hf : X.env.frame = some X.env.locals) (hex : X.ex = []) (hN : X.N.Nodup) (hc : Names X x c) (tk : Takes X W)
    (hcat : ∀ C b, cat C = some b → PySem.W.exmOne X.K (.ref (cl C)) c = some b)
    (hb : ∀ (W : WX) (pn : List (Addr × Obj)) (xe : Value → Shared → Prop), Takes (X.tr pn xe) W → PassesOwn (model X.prog X.w) X.A X.env xe → DenSs (X.tr pn xe) cl W body f)
    (hsu : ∀ (a : Addr) (pn : List (Addr × Obj)), DenSs (X.suite a pn) cl (fun _ _ _ _ => False) (b₀ :: suite) h) (hi : X.N[i]? = some n := by rfl) (hln : X.env.kindOf n = some .local := by rfl) :
    DenS X cl W (.Try body [.ExceptHandler (some (.Name x np)) (some n) (b₀ :: suite) pos'] [] [] pos) (sTry f cat i h) := by
  refine PS.imp (ps_try_keep (tb := fun W => tDenS X.K cl W f) (ts := fun _ => tDenS X.K cl (fun _ _ _ _ => False) h) hst hf hex hN hi hln hc tk hb hsu) fun D σ H ⟨w, S, δ, sat, sl, q⟩ => ⟨w, S, δ, sat, sl, ?_⟩
  unfold sTry at q
  cases e : f δ S with
  | nx δ1 S1 => rw [e] at q; exact q
  | rt r S1 => rw [e] at q; exact q
  | bk δ1 S1 => rw [e] at q; exact q
  | ct δ1 S1 => rw [e] at q; exact q
  | stuck => rw [e] at q; exact q
  | exc C fs δ1 S1 =>
    rw [e] at q
    intro w1 H1 σ1 d l1 s1 sl1 xa
    dsimp only at q
    cases ec : cat C with
    | none => rw [ec] at q; exact q.elim
    | some b =>
      rw [ec] at q
      refine ⟨b, hcat C b ec, fun eb a na => ?_, fun eb => ?_⟩
      · subst eb
        obtain ⟨w2, l2, s2, r2⟩ := Sat.caught (C := C) s1 na xa
        refine ⟨w2, _, _, s2, (sl1.le l2).set r2 i, ?_⟩
        have q := q.le (l1.trans l2)
        cases e9 : h (δ1.set i (some (.c S1.length))) (S1 ++ [.exn C fs]) with
        | nx δ2 S2 => simp only [e9] at q; exact fun w6 H6 σ6 l6 s6 sl6 => q w6 H6 _ l6 s6 (sl6.unset i)
        | bk δ2 S2 => simp only [e9] at q; exact fun w6 H6 σ6 l6 s6 sl6 => q w6 H6 _ l6 s6 (sl6.unset i)
        | ct δ2 S2 => simp only [e9] at q; exact fun w6 H6 σ6 l6 s6 sl6 => q w6 H6 _ l6 s6 (sl6.unset i)
        | rt r S2 => simp only [e9] at q; exact q
        | exc C2 fs2 δ2 S2 => simp only [e9] at q; exact q.elim
        | stuck => simp only [e9] at q; exact q.elim
      · subst eb
        exact q w1 H1 σ1 d l1 s1 sl1 xa
/-! ### its field -/
def gExF (C fld : Str) (p : Wv) (S : Store) : Out Wv := match p with
  | .c k => match S[k]? with
    | some (.exn C' fs) => if C' = C then (match fs.lookup fld with
      | some d => .ok (.t d) S
      | none => .stuck) else .stuck
    | _ => .stuck
  | _ => .stuck
theorem look_put {α : Type} (f g : Str) (y : α) (fs : List (Str × α)) : ((f, y) :: fs).lookup g = if g = f then some y else fs.lookup g := by
  by_cases h : g = f
  · subst h
    simp [List.lookup]
  · have e : (g == f) = false := by simpa using h
    rw [if_neg h]
    simp [List.lookup, e]
theorem paired_look {K : PySem.W.Frag} {H : Hp} {fld : Str} {d : D} : ∀ {vs : List (Str × V)} {fs : List (Str × D)}, Paired (fun p q => p.1 = q.1 ∧ Tr K H p.2 q.2) vs fs → fs.lookup fld = some d → ∃ v, vs.lookup fld = some v ∧ Tr K H v d
  | _, _, .nil, e => by cases e
  | (f, v) :: vs, (g, z) :: fs, .cons h k, e => by
    obtain ⟨h1, h2⟩ := h
    dsimp only at h1 h2
    subst h1
    rw [look_put] at e ⊢
    by_cases c : fld = f
    · rw [if_pos c] at e ⊢
      cases e
      exact ⟨v, rfl, h2⟩
    · rw [if_neg c] at e ⊢
      exact paired_look k e
/-- the field of a kept error -/
def tExK (K : PySem.W.Frag) (C : Addr) (fld : Str) (te : TE) : TE := fun σ H Q => te σ H fun x H1 => ∃ (a dd : Addr) (vs : List (Str × V)) (v : V), x = .ref a ∧ H1 a = some (exk a (.ref C) (some dd)) ∧ H1 dd = some (.xd vs) ∧ vs.lookup fld = some v ∧ Q v H1
theorem pe_exK {C : Addr} {e : Expr} {te : TE} {pos : Pos} {fld : Str} (T : XfC X.K C) (hno : PySem.W.findIn X.K (.ref C) fld = some none) (he : PE X e te) (hb : attributeBase e fld X.env (eval e X.env) = eval e X.env := by rfl) : PE X (.Attribute e fld pos) (tExK X.K C fld te) := by
  refine ⟨fun pins s σ H Q I h => ?_⟩
  refine attr_of hb (thn (he.run pins s σ H _ I h) fun u s1 hh => ?_)
  obtain ⟨x, H1, I1, rx, a, dd, vs, v, ex, ea, ed, lk, q⟩ := hh
  subst ex
  obtain rfl : u = Value.ref a := rx
  obtain ⟨oe, fv, hoe, hz, hdat⟩ := exk_at I1.hok ea
  have hxd : ObjOk X.prog X.w H1 s1.heap dd (.xd vs) := I1.hok dd _ ed
  obtain ⟨mA, hns, hr⟩ := hxd
  obtain ⟨od, ho, hl⟩ := lookIn_ns hns
  obtain ⟨w, hw, rw'⟩ := RelO.some_of (v := v) (o := mA fld) (by rw [← lk]; exact hr fld)
  have J : PySem.W.InstAt s1.heap a oe C (some od) := ⟨hoe, hz.1, by unfold PySem.W.notCls; rw [hdat] <;> rfl, by rw [hz.2]; exact ho⟩
  exact HandSPX.exc_get I1.kIn J T.ga T.gg T.exC (PySem.W.findObj_own T.hdC hno rfl (by rw [hl, hw])) (handed_of rw') ⟨v, H1, I1.tok _, rw', q⟩
theorem den_exF {x fld : Str} {e : Expr} {f : FE} {pos : Pos} (T : XfC X.K (cl x)) (hno : PySem.W.findIn X.K (.ref (cl x)) fld = some none) (he : DenE X cl W e f) (hb : attributeBase e fld X.env (eval e X.env) = eval e X.env := by rfl) : DenE X cl W (.Attribute e fld pos) (c1 (gExF x fld) f) := by
  refine PE.imp (pe_exK T hno he hb) fun σ H Q h => ?_
  refine tden1 (r := fun x1 H1 Q => ∃ (a dd : Addr) (vs : List (Str × V)) (v : V), x1 = .ref a ∧ H1 a = some (exk a (.ref (cl x)) (some dd)) ∧ H1 dd = some (.xd vs) ∧ vs.lookup fld = some v ∧ Q v H1) (fun w S H x1 p Q E s r o => ?_) h
  unfold gExF at o
  split at o
  · rename_i k
    obtain ⟨hk, rfl⟩ := r
    split at o
    · rename_i C' fs ec
      split at o
      · rename_i eC
        subst eC
        split at o
        · rename_i d ed
          obtain ⟨dx, h1, h2⟩ := s.cell k _ ec
          cases fs with
          | nil => cases ed
          | cons p0 r0 =>
            obtain ⟨dd, vs, rfl, h3, h4⟩ := h2
            obtain ⟨v, lv, tv⟩ := paired_look h4 ed
            exact ⟨_, dd, vs, v, rfl, s.same _ _ h1, s.same _ _ h3, lv, o.ret s tv⟩
        · exact o.elim
      · exact o.elim
    · exact o.elim
  · exact o.elim
/-! ### isinstance(error, T) -/
def gIsEx (C : Str) (b : Bool) (p : Wv) (S : Store) : Out Wv := match p with
  | .c k => match S[k]? with
    | some (.exn C' _) => if C' = C then okB b S else .stuck
    | _ => .stuck
  | _ => .stuck
/-- isinstance of a kept error: one class -/
theorem call_isiEx {C : Addr} (T : ExcC X.K C) : CallR X (.builtin "isinstance") (fun xs H Q => ∃ (a : Addr) (d : Option Addr) (c : V) (u : Value) (b : Bool), xs = [.ref a, c] ∧ H a = some (exk a (.ref C) d) ∧ (d = none ∨ ∃ dd vs, d = some dd ∧ H dd = some (.xd vs)) ∧ ClsV c u ∧ PySem.W.kitOne X.K (.ref C) u = some b ∧ Q (.bl b) H) := by
  intro pins s σ H xs us Q I r h
  obtain ⟨a, d, c, u, b, rfl, ea, hd, k, e, q⟩ := h
  obtain ⟨u1, u2, rfl, r1, r2⟩ := vals2 r
  have e2 := k.eq r2
  subst e2
  cases r1
  obtain ⟨oe, fv, hoe, hz, hdat⟩ := exk_at I.hok ea
  have hcl : (PySem.W.clsIn X.K C).isSome = true := by
    obtain ⟨cd, hc, _⟩ := PySem.W.any_some T.hd
    rw [hc] <;> rfl
  have J : ∃ od, PySem.W.InstAt s.heap a oe C od := by
    rcases hd with rfl | ⟨dd, vs, rfl, ed⟩
    · exact ⟨none, hoe, hz.1, by unfold PySem.W.notCls; rw [hdat] <;> rfl, by rw [hz.2]; trivial⟩
    · have hxd : ObjOk X.prog X.w H s.heap dd (.xd vs) := I.hok dd _ ed
      obtain ⟨mA, hns, hr⟩ := hxd
      obtain ⟨od, ho, hl⟩ := lookIn_ns hns
      exact ⟨some od, hoe, hz.1, by unfold PySem.W.notCls; rw [hdat] <;> rfl, by rw [hz.2]; exact ho⟩
  obtain ⟨od, J⟩ := J
  exact PySem.W.kia_one (PySem.W.kitx_exc hcl T.hg T.hk T.hs T.ha T.hn T.ht T.hm) I.kIn J e (fun z => nomatch z) fun tk => ⟨.bl b, H, I.tok tk, rfl, q⟩
theorem den_isEx (C : Str) {x : Str} {u : Value} {v : V} {b : Bool} {e : Expr} {f : FE} {p px pos : Pos} (T : ExcC X.K (cl C)) (hv : PE X (.Name x px) (tC v)) (hcv : ClsV v u) (hk : PySem.W.kitOne X.K (.ref (cl C)) u = some b) (hm : X.mg "isinstance" = none) (he : DenE X cl W e f) (hg : Gl X "isinstance" := by rfl)
    (hs : starEach [e, .Name x px] X.env = (false, eval e X.env) :: starEach [.Name x px] X.env := by rfl) (hpl : (backTo pos (starEach [.Name x px] X.env)).any (·.1) = false := by rfl)
    (hs2 : starEach [.Name x px] X.env = (false, eval (.Name x px) X.env) :: starEach [] X.env := by rfl) : DenE X cl W (.Call (.Name "isinstance" p) [e, .Name x px] [] pos) (c1 (gIsEx C b) f) := by
  refine PE.imp (pe_callB (call_isiEx T) hg hm boot_isi (pa_cons he (pa_cons hv pa_nil hs2) hs) (by decide) (by decide) hs hpl) fun σ H Q h => ?_
  refine tden1 (r := fun x1 H1 Q => ∃ (a : Addr) (d : Option Addr) (c : V) (u : Value) (b : Bool), [x1, v] = [.ref a, c] ∧ H1 a = some (exk a (.ref (cl C)) d) ∧ (d = none ∨ ∃ dd vs, d = some dd ∧ H1 dd = some (.xd vs)) ∧ ClsV c u ∧ PySem.W.kitOne X.K (.ref (cl C)) u = some b ∧ Q (.bl b) H1) (fun w S H x1 p Q E s r o => ?_) h
  unfold gIsEx at o
  split at o
  · rename_i k
    obtain ⟨hk2, rfl⟩ := r
    split at o
    · rename_i C' fs ec
      split at o
      · rename_i eC
        subst eC
        obtain ⟨dx, h1, h2⟩ := s.cell k _ ec
        refine ⟨_, dx, v, u, b, rfl, s.same _ _ h1, ?_, hcv, hk, o.ret s (Tr.bl _)⟩
        cases fs with
        | nil => exact .inl h2
        | cons p0 r0 =>
          obtain ⟨dd, vs, rfl, h3, h4⟩ := h2
          exact .inr ⟨dd, vs, rfl, s.same _ _ h3⟩
      · exact o.elim
    · exact o.elim
  · exact o.elim
end
end Dn

/-! Dn, part 13: defs of the top by names; the end of a law. -/
namespace Dn
open PySem PySem.Spec PyProof.Rows L2
abbrev clK (K : PySem.W.Frag) : Str → Addr := He.ga K
/-- the function object of the top's def x -/
def FdAt (K : PySem.W.Frag) (x : Str) (fd : FuncData) : Prop := ∃ oc od osl, K.lookup (He.ga K x) = some ⟨oc, od, .func fd, osl⟩
theorem FdAt.eq {K : PySem.W.Frag} {x : Str} {fd fd' : FuncData} (h : FdAt K x fd) (h' : FdAt K x fd') : fd = fd' := by
  obtain ⟨a, b, c, e⟩ := h
  obtain ⟨a', b', c', e'⟩ := h'
  rw [e] at e'
  injection e' with e'
  injection e' with _ _ e' _
  injection e' with e'
theorem fdAt_of {K : PySem.W.Frag} {x qual : Str} {pa : Arguments} {bd : List Stmt} {sc : Scope} {dvs : List V} {kws : List (Str × V)} {fd : FuncData} (F : FunD K x qual pa bd sc dvs kws (He.ga K x) fd) : FdAt K x fd := by
  obtain ⟨oc, od, dV, kV, doc, pm, an, cdv, ct, osl, e, lk, _⟩ := F.ex
  exact ⟨oc, od, osl, lk⟩
/-- the top's def x keeps F -/
def Def (P : Program) (wd : World) (K : PySem.W.Frag) (mg : Str → Option Value) (base : Heap) (x : Str) (k n : Nat) (ps : List Str) (F : FC) : Prop :=
  ∃ fd, FdAt K x fd ∧ Binds K fd ps [] ∧ PySem.W.keepIn K (.ref (He.ga K x)) = true ∧ mg x = some (.ref (He.ga K x)) ∧ FnOk P wd K mg base (L2.CX P wd) k (He.ga K x) fd ps (spDen K (clK K) n F)
/-- what the head says of a def of the top -/
def Txt (K : PySem.W.Frag) (mg : Str → Option Value) (x : Str) (st : Stmt) : Prop := mg x = some (.ref (He.ga K x)) ∧ ∃ fd, FunD K x x (defArgs st) (defBody st) (defScope st) [] [] (He.ga K x) fd
section
variable {P : Program} {wd : World} {K : PySem.W.Frag} {mg : Str → Option Value} {base : Heap}
theorem mkDef {x : Str} {st : Stmt} {N ps : List Str} {k n : Nat} {f : FS} (T : Txt K mg x st) (S : FnScope N ps (defScope st)) (hn : n = ps.length)
    (hb : ∀ (kV doc pm : Value) (an : Option Addr) (cdv ct : Value) (us : List Value), us.length = ps.length → bindArgs (PySem.W.fnOf x x (defArgs st) (defBody st) (defScope st) .none kV doc pm an cdv ct) ⟨us, []⟩ = pure (ps.zip us))
    (hd : ∀ (cdv : Value) (A : Around) (outer : List Env) (s : Shared) (H : Hp) (E : XK), Room k (A.deeper (envOfC x (defScope st) s.heap.objs.size (He.ga K x) cdv)) →
      DenSs (cxOf (L2.CX P wd) P wd K mg base N x (defScope st) (He.ga K x) cdv A outer s H E) (clK K) (fun c d _ H' => E c d H') (defBody st) f) : Def P wd K mg base x (k + 1) n ps (bodyF N.length f) := by
  obtain ⟨hm, fd, F⟩ := T
  exact ⟨fd, fdAt_of F, F.bindsN hb, F.kp, hm, F.ok (CX := L2.CX P wd) S (fun vs H Q E h => h.1.trans hn) fun cdv A outer s H vs Q E hr h => ⟨_, hd cdv A outer s H E hr, den_body h⟩⟩
/-- a body whose store is not cut -/
def bodyU (N : Nat) (f : FS) : FC := fun rs S => (f (rs.map some ++ List.replicate (N - rs.length) none) S).fin
theorem den_bodyU {K : PySem.W.Frag} {cl : Str → Addr} {N : List Str} {f : FS} {vs : List V} {H : Hp} {Q : VK} {E : XK} {n : Nat} (h : spDen K cl n (bodyU N.length f) vs H Q E) :
    tDenS K cl (fun c d _ H' => E c d H') f { nx := fun _ H' => Q .non H', rt := Q } (L2.start N vs) H := by
  obtain ⟨_, w, S, rs, sat, r, q⟩ := h
  refine ⟨w, S, _, sat, start_slots r, ?_⟩
  unfold bodyU at q
  generalize f (rs.map some ++ List.replicate (N.length - rs.length) none) S = o at q
  cases o with
  | nx δ S1 => exact fun w1 H1 σ1 l1 s1 _ => q w1 H1 _ l1 s1 Tr.non
  | rt r S1 => exact q
  | bk δ S1 => exact q.elim
  | ct δ S1 => exact q.elim
  | exc C fs δ S1 => exact fun w1 H1 σ1 d l1 s1 _ x => q w1 H1 d l1 s1 x
  | stuck => exact q.elim
theorem mkDefU {x : Str} {st : Stmt} {N ps : List Str} {k n : Nat} {f : FS} (T : Txt K mg x st) (S : FnScope N ps (defScope st)) (hn : n = ps.length)
    (hb : ∀ (kV doc pm : Value) (an : Option Addr) (cdv ct : Value) (us : List Value), us.length = ps.length → bindArgs (PySem.W.fnOf x x (defArgs st) (defBody st) (defScope st) .none kV doc pm an cdv ct) ⟨us, []⟩ = pure (ps.zip us))
    (hd : ∀ (cdv : Value) (A : Around) (outer : List Env) (s : Shared) (H : Hp) (E : XK), Room k (A.deeper (envOfC x (defScope st) s.heap.objs.size (He.ga K x) cdv)) →
      DenSs (cxOf (L2.CX P wd) P wd K mg base N x (defScope st) (He.ga K x) cdv A outer s H E) (clK K) (fun c d _ H' => E c d H') (defBody st) f) : Def P wd K mg base x (k + 1) n ps (bodyU N.length f) := by
  obtain ⟨hm, fd, F⟩ := T
  exact ⟨fd, fdAt_of F, F.bindsN hb, F.kp, hm, F.ok (CX := L2.CX P wd) S (fun vs H Q E h => h.1.trans hn) fun cdv A outer s H vs Q E hr h => ⟨_, hd cdv A outer s H E hr, den_bodyU h⟩⟩
theorem Def.imp {x : Str} {k n : Nat} {ps : List Str} {F G : FC} (h : Def P wd K mg base x k n ps F) (e : ∀ rs S, F rs S = G rs S) : Def P wd K mg base x k n ps G := by
  have z : F = G := funext fun rs => funext fun S => e rs S
  rw [← z]
  exact h
/-- a def of which nothing is asked -/
theorem def_stuck {x : Str} {st : Stmt} {k n : Nat} {ps : List Str} (T : Txt K mg x st) (hn : n = ps.length)
    (hb : ∀ (kV doc pm : Value) (an : Option Addr) (cdv ct : Value) (us : List Value), us.length = ps.length → bindArgs (PySem.W.fnOf x x (defArgs st) (defBody st) (defScope st) .none kV doc pm an cdv ct) ⟨us, []⟩ = pure (ps.zip us)) : Def P wd K mg base x k n ps (fun _ _ => .stuck) := by
  obtain ⟨hm, fd, F⟩ := T
  refine ⟨fd, fdAt_of F, F.bindsN hb, F.kp, hm, ⟨fun vs H Q E h => h.1.trans hn, fun A outer s H args us vs Q E _ _ _ _ h => ?_⟩⟩
  obtain ⟨_, w, S, rs, _, _, q⟩ := h
  exact q.elim
end
section
variable {X : Cx} {W : WX}
theorem den_callD {k n : Nat} {ps : List Str} {F : FC} {x : Str} {p pos : Pos} {e : Expr} {es : List Expr} {g : FA} (G : Def X.prog X.w X.K X.mg X.base x k n ps F) (hr : Room k X.A) (tk : Takes X W) (ha : DenA X (clK X.K) W (e :: es) g) (hg : Gl X x := by rfl) (hdb : (x == ("__debug__" : Str)) = false := by decide)
    (he : starEach (e :: es) X.env = (false, eval e X.env) :: starEach es X.env := by rfl) (hpl : (backTo pos (starEach es X.env)).any (·.1) = false := by rfl) : DenE X (clK X.K) W (.Call (.Name x p) (e :: es) [] pos) (cCall n F g) := by
  obtain ⟨fd, _, b, kp, hm, G⟩ := G
  exact den_call G hr hm kp b tk ha hg hdb he hpl
theorem takes_none {X : Cx} : Takes X (fun _ _ _ _ => False) := fun _ _ ⟨_, _, _, _, _, _, _, _, _, _, _, _, _, _, _, _, w⟩ => w.elim
theorem OkE.unx {K : PySem.W.Frag} {cl : Str → Addr} {w : Wd} {o : Out Wv} {Q : VK} {E E' : XK} (h : OkE K cl w o.nox Q E) : OkE K cl w o Q E' := by
  cases o with
  | ok r S => exact h
  | exc C fs S => exact h.elim
  | stuck => exact h.elim
def cCall0 (F : FC) : FE := fun _ S => (F [] S).nox
theorem den_callD0 {k : Nat} {F : FC} {x : Str} {p pos : Pos} (G : Def X.prog X.w X.K X.mg X.base x k 0 [] F) (hr : Room k X.A) (hg : Gl X x := by rfl) (hdb : (x == ("__debug__" : Str)) = false := by decide) : DenE X (clK X.K) W (.Call (.Name x p) [] [] pos) (cCall0 F) := by
  obtain ⟨fd, _, b, kp, hm, G⟩ := G
  refine PE.imp (pe_call0 (E := fun _ _ _ => False) G hr hg hm kp b .nil (passes_call takes_none fun _ _ _ _ z => z.elim) hdb) fun σ H Q ⟨w, S, δ, sat, sl, q⟩ => ?_
  exact ⟨rfl, w, S, [], sat, .nil, q.unx⟩
end
end Dn
/-! ### freezing, the store left as it is -/
namespace Dn
open PySem PySem.Spec PyProof.Rows L2
def outFrzU (o : Out Wv) : Out Wv := match o with
  | .ok r S1 => match frz 4 S1 r with
    | some (d, S2) => .ok (.t d) S2
    | none => .stuck
  | .exc C fs S1 => .exc C fs S1
  | .stuck => .stuck
def cFrzU (f : FE) : FE := fun δ S => outFrzU (f δ S)
section
variable {X : Cx} {cl : Str → Addr} {W : WX}
theorem tdenFrzU {K : PySem.W.Frag} {f : FE} {σ : Sg} {H : Hp} {Q : VK} (h : tDen K cl W (cFrzU f) σ H Q) : tDen K cl W f σ H Q := by
  obtain ⟨w, S, δ, sat, sl, q⟩ := h
  refine ⟨w, S, δ, sat, sl, ?_⟩
  unfold cFrzU outFrzU at q
  split at q
  · rename_i r S1 e1
    rw [e1]
    split at q
    · rename_i d S2 e2
      intro w1 H1 v l1 s1 r1
      obtain ⟨w2, F, g⟩ := frz_ok 4 w1 S1 H1 r d S2 s1 e2 ⟨v, r1⟩
      exact q w2 H1 v (l1.trans F.le) F.sat (g v r1)
    · exact q.elim
  · rename_i C fs S1 e1
    rw [e1]
    exact q
  · exact q.elim
theorem den_frzU {e : Expr} {f : FE} (h : DenE X cl W e f) : DenE X cl W e (cFrzU f) := PE.imp h fun _ _ _ z => tdenFrzU z
end
end Dn

/-! Dn, part 14: facts of classes and tables as Bools; the end of a law by what its function gives. -/
namespace Dn
open PySem PySem.Spec PyProof.Rows L2
/-! ### facts -/
def reClsB (K : PySem.W.Frag) (C : Addr) : Bool := match K.lookup C with
  | some ⟨.type c, _, .cls cd, sl⟩ => (match sl.toList with
    | [_, _, _, _, some (.builtin n), _] => decide (c = "type") && (decide (n = "RuntimeError.__new__") && (decide (cd.mro = .ref C :: PySem.ReX.reTail) && (!cd.hasDel && cd.hasDict)))
    | _ => false)
  | _ => false
theorem reClsB_ok {K : PySem.W.Frag} {C : Addr} (h : reClsB K C = true) : ∃ nm q N bs sn sub ab col dd k0 k1 k2 k3 k5, K.lookup C = some (excClassObj nm q C N bs PySem.ReX.reTail true sn sub ab col dd k0 k1 k2 k3 k5 "RuntimeError.__new__") := by
  unfold reClsB at h
  split at h
  · rename_i c dd cd sl ho
    split at h
    · rename_i k0 k1 k2 k3 n k5 hs
      simp only [Bool.and_eq_true, decide_eq_true_eq, Bool.not_eq_true'] at h
      obtain ⟨rfl, rfl, hm, hdel, hdict⟩ := h
      obtain ⟨nm, bs, mro, ns, qn, hd, sn, sub, ab, col, del⟩ := cd
      dsimp only at hm hdel hdict
      subst hm hdel hdict
      have hsl : sl = #[k0, k1, k2, k3, some (.builtin "RuntimeError.__new__"), k5] := by
        obtain ⟨l⟩ := sl
        simp only at hs
        rw [hs]
      subst hsl
      exact ⟨nm, qn, ns, bs, sn, sub, ab, col, dd, k0, k1, k2, k3, k5, ho⟩
    · cases h
  · cases h
/-- an own error class x over RuntimeError, its field fld -/
structure NbC (K : PySem.W.Frag) (x fld : Str) : Prop where
  re : ReC K (He.ga K x)
  hno : PySem.W.findIn K (.ref (He.ga K x)) fld = some none
  iC : PySem.W.findIn K (.ref (He.ga K x)) "__init__" = some (some (.ref (He.ma K (He.ga K x) "__init__")))
  tI : PySem.W.typeIn K (.ref (He.ma K (He.ga K x) "__init__")) = some (.type "function")
  xf : XfC K (He.ga K x)
  isC : ExcC K (He.ga K x)
  cat : PySem.W.exmOne K (.ref (He.ga K x)) (.ref (He.ga K x)) = some true
  kRT : PySem.W.kitOne K (.ref (He.ga K x)) (.type "RuntimeError") = some true
def nbB (K : PySem.W.Frag) (x fld : Str) : Bool := reClsB K (He.ga K x) && (decide (PySem.W.findIn K (.ref (He.ga K x)) "__setattr__" = some (some (.builtin "object.__setattr__"))) && (decide (PySem.W.subIn K (.ref (He.ga K x)) (.type "BaseException") = some true) && (decide (PySem.W.typeIn K (.ref (He.ga K x)) = some (.type "type")) && (PySem.W.keepIn K (.ref (He.ga K x))
  && (decide (PySem.W.findIn K (.ref (He.ga K x)) fld = some none) && (decide (PySem.W.findIn K (.ref (He.ga K x)) "__init__" = some (some (.ref (He.ma K (He.ga K x) "__init__")))) && (decide (PySem.W.typeIn K (.ref (He.ma K (He.ga K x) "__init__")) = some (.type "function"))
  && (xfB K (He.ga K x) && (decide (PySem.W.findIn K (.ref (He.ga K x)) "__class__" = some (some (.builtin "object.__class__"))) && (decide (PySem.W.specialIn K (.builtin "object.__class__") "__get__" = some (some (.builtin "getset_descriptor.__get__"))) && (decide (PySem.W.takesIn K (.builtin "object.__class__") = some true)
  && (decide (PySem.W.mroIn K (He.ga K x) (.type "object") = some true) && (decide (PySem.W.exmOne K (.ref (He.ga K x)) (.ref (He.ga K x)) = some true) && decide (PySem.W.kitOne K (.ref (He.ga K x)) (.type "RuntimeError") = some true))))))))))))))
theorem nbB_ok {K : PySem.W.Frag} {x fld : Str} (h : nbB K x fld = true) : NbC K x fld := by
  unfold nbB at h
  simp only [Bool.and_eq_true, decide_eq_true_eq] at h
  obtain ⟨h1, h2, h3, h4, h5, h6, h7, h8, h9, h10, h11, h12, h13, h14, h15⟩ := h
  have x9 := xfB_ok h9
  exact ⟨⟨reClsB_ok h1, h2, h3, h4, h5⟩, h6, h7, h8, x9, ⟨x9.ga, x9.gg, x9.exC, x9.hdC, h10, h11, h12, h13⟩, h14, h15⟩
/-- a tuple of texts of the top -/
def tupSB (K : PySem.W.Frag) (x : Str) (ys : List Str) : Bool := match K.lookup (He.ga K x) with
  | some ⟨.type c, none, .seq its _, _⟩ => decide (c = "tuple") && (decide (its.size ≤ sizeLine) && He.relAll (ys.map V.str) its.toList)
  | _ => false
theorem tupSB_ok {K : PySem.W.Frag} {x : Str} {ys : List Str} (h : tupSB K x ys = true) : TupC K (He.ga K x) (ys.map V.str) := by
  unfold tupSB at h
  split at h
  · rename_i c its n sl ho
    simp only [Bool.and_eq_true, decide_eq_true_eq] at h
    obtain ⟨rfl, h2, h3⟩ := h
    exact ⟨_, its, n, ho, rfl, rfl, rfl, h2, He.relAll_ok h3⟩
  · cases h
theorem hu64 {k : Nat} {A : Around} (r : Room k A) : A.units + 64 < cLine := by have := r.un; omega
theorem hu65 {k : Nat} {A : Around} (r : Room k A) : A.units + 65 < cLine := by have := r.un; omega
/-! ### small things that the printed derivations name -/
def blkB (N : List Str) (sc scope : Scope) (own : List (Str × Nat)) : Bool := decide (scope.kind = .function) && (decide (∀ y ∈ scope.names, scope.names.lookup y.1 = some y.2) && (decide (∀ p ∈ own, N[p.2]? = some p.1)
  && (decide (∀ y ∈ scope.names, y.2 = .free → sc.names.lookup y.1 = some .cell ∨ sc.names.lookup y.1 = some .free) && decide (∀ y ∈ scope.names, y.2 = .local ∨ y.2 = .cell → y.1 ∈ own.map (·.1) ∨ y.1 ∉ N))))
theorem blk_ok {N : List Str} {sc scope : Scope} {own : List (Str × Nat)} (h : blkB N sc scope own = true) : BlkOk N sc scope own := by
  unfold blkB at h
  simp only [Bool.and_eq_true, decide_eq_true_eq] at h
  exact ⟨h.1, h.2.1, h.2.2.1, h.2.2.2.1, h.2.2.2.2⟩
theorem cat_one {K : PySem.W.Frag} {x C : Str} {b : Bool} (h : PySem.W.exmOne K (.ref (He.ga K x)) (.ref (He.ga K x)) = some true) (e : (if C = x then some true else none) = some b) : PySem.W.exmOne K (.ref (clK K C)) (.ref (He.ga K x)) = some b := by
  by_cases c : C = x
  · rw [if_pos c] at e
    cases e
    rw [c]
    exact h
  · rw [if_neg c] at e
    cases e
/-- __init__ of such a class: the body's reading -/
theorem reI_pure {K : PySem.W.Frag} {fld : Str} {vs : List V} {H : Hp} {Q : VK} {E : XK} {v0 : V} (h : spReI K fld vs H Q E) :
    tSeq (tDrop (tReI K (tCons (tVar 0) (tCons (tC v0) tNil)))) (tReS K fld (tVar 0) (tVar 1)) { nx := fun _ H' => Q .non H', rt := Q } (L2.start ["self", fld] vs) H := by
  obtain ⟨a, C, v, rfl, T, hno, ea, q⟩ := h
  exact ⟨_, rfl, a, C, [v0], rfl, (by show 1 ≤ 1000; decide), T, ea, _, rfl, _, rfl, a, C, rfl, T, hno, ea, q⟩
/-! ### the end -/
theorem walk_den {l : PySem.W.OpenLaw} {n k : Nat} {q : Program} {loose : List Str} {XP : (Str → Option Value) → Heap → Prop} {YP : World → Heap → Prop} {d : DefRec} {x : Str}
    (hn : l.most = some n) (hn2 : n ≤ sizeLine) (hdf : d.params.defaults = []) (hr : Room k callerA)
    (F : ∀ (w : World) (mg : Str → Option Value) (fa : Addr) (h : Heap), YP w h → h.Ns mainGlobals mg → mg d.name = some (.ref fa) →
      ∃ (K : PySem.W.Frag) (fd : FuncData) (Fc : FC), K.In h ∧ (∀ (s : Shared) (u : Value), BindsTo s fd ⟨[u], []⟩ [(x, u)]) ∧
        (∀ ns : List Int, ns.length ≤ n → (∀ z ∈ ns, Builtin.Int.intBits z ≤ 1048576) → ∃ S', Fc [.c 0] [.scr ns] = .ok (.t (.bool true)) S') ∧
        ∀ base : Heap, K.In base → base.Ns mainGlobals mg → FnOk l.prog w K mg base (L2.CX l.prog w) k fa fd [x] (spDen K (clK K) 1 Fc)) :
    PySem.W.WalkO q loose XP YP l.row.toRowW d [] (fun f vs => PySem.call f vs) := by
  refine Att.attach_callB hn hdf fun w s₀ s₁ mg mb fa o pm cd doc a vs ns G Y ho hd hcd hmg hobj hints hlen hbits hg => ?_
  obtain ⟨K, fd, Fc, KX, hb, hF, hG⟩ := F w mg fa _ Y G.T.g hmg
  refine law_call KX G.T.g G.T.b G.T.builtins G.T.nolimit hg hobj hints (Nat.le_trans hlen hn2) hr hG hb (fun H hO hS => ?_) fun H e s' z => ?_
  · obtain ⟨S', e⟩ := hF ns hlen hbits
    have wr : ∀ l : List Int, WRs K ⟨H, fun _ => a, 1⟩ (l.map V.int) (l.map fun i => .t (.int i)) := fun l => by
      induction l with
      | nil => exact .nil
      | cons i l ih => exact .cons (Tr.int i) ih
    refine ⟨rfl, ⟨H, fun _ => a, 1⟩, [.scr ns], [.c 0], ⟨Same.refl _, rfl, fun k c e => ?_, fun i j c d e1 e2 h1 h2 h => ?_⟩, .cons ⟨Nat.zero_lt_one, rfl⟩ .nil, ?_⟩
    · cases k with
      | zero =>
        cases e
        exact ⟨_, hS, wr ns⟩
      | succ k => cases e
    · cases i with
      | zero =>
        cases e1
        cases h1
      | succ i => cases e1
    · rw [e]
      intro w' H' v l s r
      cases r
      rfl
  · obtain ⟨_, _, _, _, _, _, _, _, _, _, _, _, z⟩ := z
    exact z
end Dn

/-! Dn, part 15: what the pieces compute, as rules for simp. -/
namespace Dn
open PySem PySem.Spec PyProof.Rows L2
section
variable {α β : Type} {δ : Dl} {S S1 : Store} {f g h : FE} {r : Wv}
@[simp] theorem bind_ok {a : α} {k : α → Store → Out β} : (Out.ok a S).bind k = k a S := rfl
@[simp] theorem bind_exc {C : Str} {fs : List (Str × D)} {k : α → Store → Out β} : (Out.exc C fs S : Out α).bind k = .exc C fs S := rfl
@[simp] theorem bind_stuck {k : α → Store → Out β} : (Out.stuck : Out α).bind k = .stuck := rfl
@[simp] theorem then_ok {a : α} {k : α → Store → OutS} : (Out.ok a S).thenS δ k = k a S := rfl
@[simp] theorem then_exc {C : Str} {fs : List (Str × D)} {k : α → Store → OutS} : (Out.exc C fs S : Out α).thenS δ k = .exc C fs δ S := rfl
@[simp] theorem then_stuck {k : α → Store → OutS} : (Out.stuck : Out α).thenS δ k = .stuck := rfl
theorem ev_var {i : Nat} (e : δ[i]? = some (some r)) : cVar i δ S = .ok r S := by unfold cVar; rw [e]
@[simp] theorem ev_var0 {l : Dl} : cVar 0 (some r :: l) S = .ok r S := rfl
@[simp] theorem ev_varS {i : Nat} {o : Option Wv} {l : Dl} : cVar (i + 1) (o :: l) S = cVar i l S := rfl
@[simp] theorem ev_D {d : D} : cD d δ S = .ok (.t d) S := rfl
@[simp] theorem ev_c2 {o : Wv → Wv → Store → Out Wv} : c2 o f g δ S = (f δ S).bind fun x S1 => (g δ S1).bind fun y S2 => o x y S2 := rfl
@[simp] theorem ev_c1 {o : Wv → Store → Out Wv} : c1 o f δ S = (f δ S).bind fun x S1 => o x S1 := rfl
@[simp] theorem ev_ix : cIx f g δ S = (f δ S).bind fun x S1 => (g δ S1).bind fun y S2 => gIx x y S2 := rfl
@[simp] theorem ev_if {t : FT} : cIf t f g δ S = (t δ S).bind fun b S1 => if b = true then f δ S1 else g δ S1 := rfl
@[simp] theorem ev_fB : fB f δ S = (f δ S).bind boolOf := rfl
@[simp] theorem ev_bool {b : Bool} : boolOf (.t (.bool b)) S = .ok b S := rfl
@[simp] theorem ev_fNot {t : FT} : fNot t δ S = (t δ S).bind fun b S => .ok (!b) S := rfl
@[simp] theorem ev_fAnd {t u : FT} : fAnd t u δ S = (t δ S).bind fun b S1 => if b = true then u δ S1 else .ok false S1 := rfl
@[simp] theorem ev_fOr {t u : FT} : fOr t u δ S = (t δ S).bind fun b S1 => if b = true then .ok true S1 else u δ S1 := rfl
@[simp] theorem ev_fTru : fTru f δ S = (f δ S).bind truW := rfl
@[simp] theorem ev_aNil : aNil δ S = .ok [] S := rfl
@[simp] theorem ev_aCons {a : FA} : aCons f a δ S = (f δ S).bind fun r S1 => (a δ S1).bind fun rs S2 => .ok (r :: rs) S2 := rfl
@[simp] theorem ev_cA {k : List Wv → Store → Out Wv} {a : FA} : cA k a δ S = (a δ S).bind k := rfl
@[simp] theorem ev_fA {k : List Wv → Store → Out α} {a : FA} : fA k a δ S = (a δ S).bind k := rfl
@[simp] theorem ev_call {n : Nat} {F : FC} {a : FA} : cCall n F a δ S = (a δ S).bind fun rs S1 => if rs.length = n then F rs S1 else .stuck := rfl
@[simp] theorem ev_call0 {F : FC} : cCall0 F δ S = (F [] S).nox := rfl
@[simp] theorem ev_noxOk {a : α} : (Out.ok a S).nox = .ok a S := rfl
@[simp] theorem ev_frz : cFrz f δ S = outFrz S (f δ S) := rfl
@[simp] theorem ev_frzU : cFrzU f δ S = outFrzU (f δ S) := rfl
@[simp] theorem ev_sNil : sNil δ S = .nx δ S := rfl
@[simp] theorem ev_seq {a b : FS} : sSeq a b δ S = (match a δ S with
  | .nx δ' S' => b δ' S'
  | o => o) := rfl
@[simp] theorem ev_sSet {i : Nat} : sSet i f δ S = (f δ S).thenS δ fun r S1 => .nx (δ.set i (some r)) S1 := rfl
@[simp] theorem ev_sDrop : sDrop f δ S = (f δ S).thenS δ fun _ S1 => .nx δ S1 := rfl
@[simp] theorem ev_sRet : sRet f δ S = (f δ S).thenS δ fun r S1 => .rt r S1 := rfl
@[simp] theorem ev_sIf {t : FT} {a b : FS} : sIf t a b δ S = (t δ S).thenS δ fun c S1 => if c = true then a δ S1 else b δ S1 := rfl
@[simp] theorem ev_sAsg {k : FG} : sAsg f k δ S = (f δ S).thenS δ fun r S1 => (match k r δ S1 with
  | .ok δ1 S2 => .nx δ1 S2
  | _ => .stuck) := rfl
@[simp] theorem ev_tgName {i : Nat} : tgName i r δ S = .ok (δ.set i (some r)) S := rfl
@[simp] theorem ev_tgsNil : tgsNil [] δ S = .ok δ S := rfl
@[simp] theorem ev_tgsCons {k : FG} {ks : FGs} {rs : List Wv} : tgsCons k ks (r :: rs) δ S = (k r δ S).bind fun δ1 S1 => ks rs δ1 S1 := rfl
@[simp] theorem ev_sFor {it : FI} {k : FG} {b : FS} : sFor it k b δ S = (it δ S).thenS δ fun s S1 => loopS s k b s.items δ S1 := rfl
@[simp] theorem ev_fSeq : fSeq f δ S = (f δ S).bind srcOf := rfl
@[simp] theorem fin_nx : (OutS.nx δ S).fin = .ok (.t .none) S := rfl
@[simp] theorem fin_rt : (OutS.rt r S).fin = .ok r S := rfl
@[simp] theorem fin_exc {C : Str} {fs : List (Str × D)} : (OutS.exc C fs δ S).fin = .exc C fs S := rfl
@[simp] theorem ev_sub {i j : Int} : gSub (.t (.int i)) (.t (.int j)) S = .ok (.t (.int (i - j))) S := rfl
@[simp] theorem ev_add {i j : Int} : gAdd (.t (.int i)) (.t (.int j)) S = .ok (.t (.int (i + j))) S := rfl
@[simp] theorem ev_lt {i j : Int} : gLt (.t (.int i)) (.t (.int j)) S = .ok (.t (.bool (decide (i < j)))) S := rfl
@[simp] theorem ev_le {i j : Int} : gLe (.t (.int i)) (.t (.int j)) S = .ok (.t (.bool (decide (i ≤ j)))) S := rfl
@[simp] theorem ev_gt {i j : Int} : gGt (.t (.int i)) (.t (.int j)) S = .ok (.t (.bool (decide (j < i)))) S := rfl
@[simp] theorem ev_ge {i j : Int} : gGe (.t (.int i)) (.t (.int j)) S = .ok (.t (.bool (decide (j ≤ i)))) S := rfl
theorem ev_mul {i j : Int} (h : i.natAbs.log2 + j.natAbs.log2 < 100000000) : gMul (.t (.int i)) (.t (.int j)) S = .ok (.t (.int (i * j))) S := by
  show (if i.natAbs.log2 + j.natAbs.log2 < 100000000 then okI (i * j) S else .stuck) = _
  rw [if_pos h] <;> rfl
theorem ev_div {i j : Int} (h : j ≠ 0 ∧ j.natAbs.log2 < 9000) : gDiv (.t (.int i)) (.t (.int j)) S = .ok (.t (.int (i.fdiv j))) S := by
  show (if j ≠ 0 ∧ j.natAbs.log2 < 9000 then okI (i.fdiv j) S else .stuck) = _
  rw [if_pos h] <;> rfl
theorem ev_mod {i j : Int} (h : j ≠ 0) : gMod (.t (.int i)) (.t (.int j)) S = .ok (.t (.int (i.fmod j))) S := by
  show (if j ≠ 0 then okI (i.fmod j) S else .stuck) = _
  rw [if_pos h] <;> rfl
/-- numbers below 2 ^ a have few digits -/
theorem log_lt {n a : Nat} (h : n < 2 ^ a) (ha : 0 < a) : n.log2 < a := PySem.Flt.log2_lt_of ha h
theorem mul_small {i j : Int} {a b : Nat} (hi : i.natAbs < 2 ^ a) (hj : j.natAbs < 2 ^ b) (ha : 0 < a) (hb : 0 < b) (h : a + b ≤ 100000000) : i.natAbs.log2 + j.natAbs.log2 < 100000000 := by
  have x := log_lt hi ha
  have y := log_lt hj hb
  omega
/-- an item of a cell -/
theorem ix_cell {k : Nat} {ws : List Wv} {i : Int} (e : S[k]? = some (.lst ws)) (v : atI ws i = some r) : gIx (.c k) (.t (.int i)) S = .ok r S := by
  have z : seqA S (.c k) = some ws := by simp [seqA, seqL, e]
  unfold gIx
  dsimp only
  rw [z]
  dsimp only
  rw [v]
end
end Dn

/-! Dn, part 16: comprehensions and loops whose pieces leave the store as it is. -/
namespace Dn
open PySem PySem.Spec PyProof.Rows L2
theorem app_at {S : Store} {c : Cell} : (S ++ [c])[S.length]? = some c := by simp
theorem app_set {S : Store} {c d : Cell} : (S ++ [c]).set S.length d = S ++ [d] := by simp
theorem still_nil {its : List Wv} {S : Store} : (⟨its, []⟩ : Src).still S = true := rfl
theorem compL_pure {its : List Wv} {tg : FG} {elt : FE} {k : Nat} {δ : Dl} {v : Wv → Wv} : ∀ (items : List Wv) (S : Store) (acc : List Wv), S[k]? = some (.lst acc) → acc.length + items.length < LIM →
    (∀ r ∈ items, ∀ T, ∃ δ1, tg r δ T = .ok δ1 T ∧ elt δ1 T = .ok (v r) T) → compL ⟨its, []⟩ tg fYes elt k δ items S = .ok (.c k) (S.set k (.lst (acc ++ items.map v)))
  | [], S, acc, e, _, _ => by
    unfold compL
    rw [still_nil, if_pos rfl, List.map_nil, List.append_nil]
    congr 1
    obtain ⟨h1, h2⟩ := List.getElem?_eq_some_iff.mp e
    rw [← h2]
    exact (List.set_getElem_self h1).symm
  | r :: rs, S, acc, e, hl, h => by
    obtain ⟨δ1, h1, h2⟩ := h r List.mem_cons_self S
    have hk := (List.getElem?_eq_some_iff.mp e).1
    unfold compL
    rw [still_nil, if_pos rfl, h1]
    dsimp only [fYes]
    rw [h2]
    dsimp only
    rw [e]
    dsimp only
    rw [List.length_cons] at hl
    rw [if_pos (by omega)]
    rw [compL_pure rs (S.set k (.lst (acc ++ [v r]))) (acc ++ [v r]) (List.getElem?_set_self hk) (by rw [List.length_append, List.length_singleton]; omega) (fun x hx => h x (List.mem_cons_of_mem _ hx)), List.set_set, List.append_assoc]
    rfl
theorem comp_pure {it : FI} {vs : List Nat} {tg : FG} {elt : FE} {δ : Dl} {S S1 : Store} {items : List Wv} (v : Wv → Wv) (hi : it δ S = .ok ⟨items, []⟩ S1) (hl : items.length < LIM)
    (h : ∀ r ∈ items, ∀ T, ∃ δ1, tg r (wipeD δ vs) T = .ok δ1 T ∧ elt δ1 T = .ok (v r) T) : cCompC it vs tg fYes elt δ S = .ok (.c S1.length) (S1 ++ [.lst (items.map v)]) := by
  have e : cCompC it vs tg fYes elt δ S = compL ⟨items, []⟩ tg fYes elt S1.length (wipeD δ vs) items (S1 ++ [.lst []]) := by
    unfold cCompC
    rw [hi]
    rfl
  have q := compL_pure (its := items) (tg := tg) (elt := elt) (k := S1.length) (δ := wipeD δ vs) (v := v) items (S1 ++ [Cell.lst []]) [] app_at (by simpa using hl) h
  rw [e, q, List.nil_append, app_set]
/-- the general turn: an invariant of the store -/
theorem compL_inv {its : List Wv} {tg : FG} {elt : FE} {k M : Nat} {δ : Dl} {P : Nat → Store → Prop} {V : Wv → Prop} : ∀ (items : List Wv) (n : Nat) (S : Store) (acc : List Wv), n + items.length ≤ M → P n S → S[k]? = some (.lst acc) → acc.length + items.length < LIM →
    (∀ n r T acc', n < M → r ∈ items → P n T → T[k]? = some (.lst acc') → ∃ δ1 y T', tg r δ T = .ok δ1 T ∧ elt δ1 T = .ok y T' ∧ V y ∧ T'[k]? = some (.lst acc') ∧ P (n + 1) (T'.set k (.lst (acc' ++ [y])))) →
    ∃ ys T, compL ⟨its, []⟩ tg fYes elt k δ items S = .ok (.c k) T ∧ ys.length = items.length ∧ (∀ y ∈ ys, V y) ∧ T[k]? = some (.lst (acc ++ ys)) ∧ P (n + items.length) T
  | [], n, S, acc, _, p, e, _, _ => by
    refine ⟨[], S, ?_, rfl, fun y h => (nomatch h), by rw [List.append_nil]; exact e, p⟩
    unfold compL
    rw [still_nil, if_pos rfl]
  | r :: rs, n, S, acc, hM, p, e, hl, h => by
    rw [List.length_cons] at hM
    obtain ⟨δ1, y, T', h1, h2, h3, h4, h5⟩ := h n r S acc (by omega) List.mem_cons_self p e
    have hk := (List.getElem?_eq_some_iff.mp h4).1
    rw [List.length_cons] at hl
    obtain ⟨ys, T, q1, q2, q3, q4, q5⟩ := compL_inv (its := its) rs (n + 1) (T'.set k (.lst (acc ++ [y]))) (acc ++ [y]) (by omega) h5 (List.getElem?_set_self hk) (by rw [List.length_append, List.length_singleton]; omega) (fun n x T a hn hx => h n x T a hn (List.mem_cons_of_mem _ hx))
    refine ⟨y :: ys, T, ?_, by rw [List.length_cons, List.length_cons, q2], fun z hz => ?_, by rw [q4, List.append_assoc]; rfl, by rw [List.length_cons, show n + (rs.length + 1) = n + 1 + rs.length by omega]; exact q5⟩
    · unfold compL
      rw [still_nil, if_pos rfl, h1]
      dsimp only [fYes]
      rw [h2]
      dsimp only
      rw [h4]
      dsimp only
      rw [if_pos (by omega)]
      exact q1
    · rcases List.mem_cons.mp hz with e9 | e9
      · rw [e9]
        exact h3
      · exact q3 z e9
theorem comp_inv {it : FI} {vs : List Nat} {tg : FG} {elt : FE} {δ : Dl} {S S1 : Store} {items : List Wv} {P : Nat → Store → Prop} {V : Wv → Prop} (hi : it δ S = .ok ⟨items, []⟩ S1) (hl : items.length < LIM) (p : P 0 (S1 ++ [.lst []]))
    (h : ∀ n r T acc', n < items.length → r ∈ items → P n T → T[S1.length]? = some (.lst acc') → ∃ δ1 y T', tg r (wipeD δ vs) T = .ok δ1 T ∧ elt δ1 T = .ok y T' ∧ V y ∧ T'[S1.length]? = some (.lst acc') ∧ P (n + 1) (T'.set S1.length (.lst (acc' ++ [y])))) :
    ∃ ys T, cCompC it vs tg fYes elt δ S = .ok (.c S1.length) T ∧ ys.length = items.length ∧ (∀ y ∈ ys, V y) ∧ T[S1.length]? = some (.lst ys) ∧ P items.length T := by
  have e : cCompC it vs tg fYes elt δ S = compL ⟨items, []⟩ tg fYes elt S1.length (wipeD δ vs) items (S1 ++ [.lst []]) := by
    unfold cCompC
    rw [hi]
    rfl
  obtain ⟨ys, T, q1, q2, q3, q4, q5⟩ := compL_inv (its := items) (M := items.length) items 0 (S1 ++ [.lst []]) [] (by omega) p app_at (by simpa using hl) h
  rw [e]
  exact ⟨ys, T, q1, q2, q3, q4, by rw [Nat.zero_add] at q5; exact q5⟩
theorem seqL_app {S : Store} {ws : List Wv} : seqL (S ++ [.lst ws]) (.c S.length) = some ws := by
  unfold seqL
  dsimp only
  rw [app_at]
theorem seqA_app {S : Store} {ws : List Wv} : seqA (S ++ [.lst ws]) (.c S.length) = some ws := by
  unfold seqA
  rw [seqL_app]
theorem frzs_trees {f : Store → Wv → Option (D × Store)} (hf : ∀ S d, f S (.t d) = some (d, S)) (S : Store) : ∀ ds : List D, frzs f S (ds.map .t) = some (ds, S)
  | [] => rfl
  | d :: ds => by
    rw [List.map_cons]
    unfold frzs
    rw [hf]
    dsimp only
    rw [frzs_trees hf S ds]
theorem frz_app {S : Store} {ds : List D} : frz 4 (S ++ [.lst (ds.map .t)]) (.c S.length) = some (.list ds, S ++ [.frz (.list ds)]) := by
  show frz (3 + 1) _ _ = _
  unfold frz
  rw [app_at]
  dsimp only
  rw [frzs_trees (fun S d => by cases S <;> rfl) _ ds]
  dsimp only
  rw [app_at, if_pos rfl, app_set]
/-- a store that grew, cut -/
theorem cutS_app {S G : Store} : cutS S (S ++ G) = S := by
  unfold cutS
  split
  · rename_i h
    have : G = [] := by
      rw [List.length_append] at h
      exact List.eq_nil_of_length_eq_zero (by omega)
    rw [this, List.append_nil]
  · rw [List.take_left, if_pos rfl]
    split <;> rfl
theorem cutS_self {S : Store} : cutS S S = S := by
  unfold cutS
  rw [if_pos rfl]
theorem cut_ok {S G : Store} {d : D} : (Out.ok (Wv.t d) (S ++ G)).cut S = .ok (.t d) S := by
  show Out.ok (Wv.t d) (cutS S (S ++ G)) = _
  rw [cutS_app]
theorem cut_ok0 {S : Store} {d : D} : (Out.ok (Wv.t d) S).cut S = .ok (.t d) S := by
  show Out.ok (Wv.t d) (cutS S S) = _
  rw [cutS_self]
/-- a store whose old cells may have changed, cut -/
theorem cutS_part {S T G : Store} (hl : T.length = S.length) (hb : T.all (Cell.bnd S.length) = true) : cutS S (T ++ G) = T := by
  unfold cutS
  split
  · rename_i h
    have : G = [] := by
      rw [List.length_append] at h
      exact List.eq_nil_of_length_eq_zero (by omega)
    rw [this, List.append_nil]
  · have e : (T ++ G).take S.length = T := by rw [← hl]; exact List.take_left
    rw [e, if_pos ⟨by rw [List.length_append]; omega, hb⟩]
theorem treesOf_maps {α : Type} (f : α → D) (l : List α) : treesOf (l.map fun x => Wv.t (f x)) = some (l.map f) := by
  have h := treesOf_map (l.map f)
  rw [List.map_map] at h
  exact h
theorem boolsOf_true : ∀ l : List Wv, (∀ r ∈ l, r = Wv.t (.bool true)) → ∃ bs, boolsOf l = some bs ∧ bs.all id = true
  | [], _ => ⟨[], rfl, rfl⟩
  | r :: l, h => by
    obtain ⟨bs, e, a⟩ := boolsOf_true l fun x hx => h x (List.mem_cons_of_mem _ hx)
    rw [h r List.mem_cons_self]
    refine ⟨true :: bs, ?_, by simpa using a⟩
    show (boolsOf l).map (true :: ·) = _
    rw [e]
    rfl
end Dn

namespace K43
open PySem PySem.Spec PyProof.Rows L2 Dn
def top (i : Nat) : Stmt := PySem.Challenge.pw_crosslocks_k43_refusals_however_handed_i.main.body.getD i (.Pass ⟨0, 0, 0, 0⟩)
def sInit_NoBoat : Stmt := match top 6 with
  | .ClassDef (body := b) .. => b.getD 0 (.Pass ⟨0, 0, 0, 0⟩)
  | _ => .Pass ⟨0, 0, 0, 0⟩
/-- what the head says -/
structure Env (K : PySem.W.Frag) (mg : Str → Option Value) : Prop where
  t_as_standing : Txt K mg "as_standing" (top 4)
  t_ends_of : Txt K mg "ends_of" (top 8)
  t_part_of : Txt K mg "part_of" (top 9)
  t_is_let : Txt K mg "is_let" (top 10)
  t_with_more : Txt K mg "with_more" (top 11)
  t_gone : Txt K mg "gone" (top 12)
  t_gone_all : Txt K mg "gone_all" (top 13)
  t_went : Txt K mg "went" (top 14)
  t_paid_by : Txt K mg "paid_by" (top 17)
  t__law_box : Txt K mg "_law_box" (top 19)
  t__law_take : Txt K mg "_law_take" (top 20)
  t__law_cells : Txt K mg "_law_cells" (top 21)
  t__law_same : Txt K mg "_law_same" (top 22)
  t__law_heard : Txt K mg "_law_heard" (top 24)
  t__law_by_hand_right : Txt K mg "_law_by_hand_right" (top 25)
  t__law_right : Txt K mg "_law_right" (top 26)
  t_law : Txt K mg "law" (top 27)
  n_RuntimeError : mg "RuntimeError" = none
  n_abs : mg "abs" = none
  n_all : mg "all" = none
  n_bool : mg "bool" = none
  n_enumerate : mg "enumerate" = none
  n_int : mg "int" = none
  n_isinstance : mg "isinstance" = none
  n_len : mg "len" = none
  n_list : mg "list" = none
  n_range : mg "range" = none
  n_str : mg "str" = none
  n_tuple : mg "tuple" = none
  n_zip : mg "zip" = none
  s_RED : ∃ t, mg "RED" = some (.str "red" t)
  s_BLUE : ∃ t, mg "BLUE" = some (.str "blue" t)
  m_WATERS : mg "WATERS" = some (.ref (He.ga K "WATERS"))
  t_WATERS : TupC K (He.ga K "WATERS") ((["red", "blue"] : List Str).map V.str)
  m_NoBoat : mg "NoBoat" = some (.ref (He.ga K "NoBoat"))
  c_NoBoat : NbC K "NoBoat" "going"
  i_NoBoat : ∃ fd, FunD K "__init__" "NoBoat.__init__" (defArgs (sInit_NoBoat)) (defBody (sInit_NoBoat)) (defScope (sInit_NoBoat)) [] [] (He.ma K (He.ga K "NoBoat") "__init__") fd
section
variable {P : Program} {wd : World} {K : PySem.W.Frag} {mg : Str → Option Value} {base : Heap}
theorem S_NoBoat_init : FnScope ["self", "going"] ["self", "going"] (defScope sInit_NoBoat) := ⟨rfl, rfl, rfl, by decide +kernel, rfl, by decide +kernel, by decide +kernel⟩
theorem d_NoBoat_init (T : Env K mg) : ∃ fd, Binds K fd ["self", "going"] [] ∧ FnOk P wd K mg base CX0 2 (He.ma K (He.ga K "NoBoat") "__init__") fd ["self", "going"] (spReI K "going") := by
  obtain ⟨fd, F⟩ := T.i_NoBoat
  refine ⟨fd, F.bindsN (fun _ _ _ _ _ _ us hl => match us, hl with | [_, _], _ => rfl), F.ok (CX := CX0) S_NoBoat_init (fun vs H Q E h => ?_) fun cdv A outer s H vs Q E hr h => ⟨_, ?_, reI_pure (v0 := .str "refused") h⟩⟩
  · obtain ⟨_, _, _, rfl, _⟩ := h
    rfl
  · exact pss_cons (ps_expr (pe_reI rfl T.n_RuntimeError (by rfl) (by exact (pa_cons (pv 0) (pa_cons pe_str pa_nil))))) (pss_one (ps_reS (pv 0) (pv 1)))
/-! as_standing -/
theorem S_as_standing : FnScope ["standing", "reds", "blues", "locks"] ["standing"] (defScope (top 4)) := ⟨rfl, rfl, rfl, by decide +kernel, rfl, by decide +kernel, by decide +kernel⟩
def B_as_standing : FS := (sSeq (sAsg (cVar 0) (tgTup 3 (tgsCons (tgName 1) (tgsCons (tgName 2) (tgsCons (tgName 3) tgsNil))))) (sRet (cA gTup (aCons (cA gTuple (aCons (cVar 1) aNil)) (aCons (cA gTuple (aCons (cVar 2) aNil)) (aCons (cA gTuple (aCons (cVar 3) aNil)) aNil))))))
def F_as_standing : FC := bodyU 4 B_as_standing
theorem d_as_standing (T : Env K mg) : Def P wd K mg base "as_standing" 2 1 ["standing"] F_as_standing := by
  refine mkDefU (k := 1) (f := B_as_standing) (N := ["standing", "reds", "blues", "locks"]) T.t_as_standing S_as_standing rfl (fun _ _ _ _ _ _ us hl => match us, hl with | [_], _ => by kernel_rfl) fun cdv A outer s H E hr => ?_
  unfold B_as_standing
  exact (den_scons (den_asg (vs := [1, 2, 3]) (den_var 0) (den_gtup rfl (den_gscons (den_gname 1 S_as_standing.nd) (den_gscons (den_gname 2 S_as_standing.nd) (den_gscons (den_gname 3 S_as_standing.nd) den_gsnil)))))
      (den_sone (den_ret (den_tup (den_acons (den_bl1 bl_tuple T.n_tuple (den_acons (den_var 1) den_anil)) (den_acons (den_bl1 bl_tuple T.n_tuple (den_acons (den_var 2) den_anil)) (den_acons (den_bl1 bl_tuple T.n_tuple (den_acons (den_var 3) den_anil)) den_anil)))))))
/-! ends_of -/
theorem S_ends_of : FnScope ["canal", "standing", "going", "ends", "lock", "water"] ["canal", "standing", "going"] (defScope (top 8)) := ⟨rfl, rfl, rfl, by decide +kernel, rfl, by decide +kernel, by decide +kernel⟩
def B_ends_of : FS := (sSeq (sAsg (cVar 2) (tgTup 2 (tgsCons (tgName 4) (tgsCons (tgName 5) tgsNil)))) (sSeq (sSet 3 (cIf (fB (c2 gEq (cVar 5) (cD (.str "red")))) (cSlG gSl (cIx (cIx (cVar 0) (cD (.int 2))) (cVar 4)) oNone (oSome (cD (.int 2)))) (cSlG gSl (cIx (cIx (cVar 0) (cD (.int 2))) (cVar 4)) (oSome (cD (.int 2))) oNone))) (sRet (cIf (fB (c2 gEq (cIx (cIx (cVar 1) (cD (.int 2))) (cVar 4)) (cD (.int 0)))) (cA gTuple (aCons (cVar 3) aNil)) (c1 gBack (cA gTuple (aCons (cVar 3) aNil)))))))
def F_ends_of : FC := bodyU 6 B_ends_of
theorem d_ends_of (T : Env K mg) : Def P wd K mg base "ends_of" 2 3 ["canal", "standing", "going"] F_ends_of := by
  refine mkDefU (k := 1) (f := B_ends_of) (N := ["canal", "standing", "going", "ends", "lock", "water"]) T.t_ends_of S_ends_of rfl (fun _ _ _ _ _ _ us hl => match us, hl with | [_, _, _], _ => by kernel_rfl) fun cdv A outer s H E hr => ?_
  unfold B_ends_of
  exact (den_scons (den_asg (vs := [4, 5]) (den_var 2) (den_gtup rfl (den_gscons (den_gname 4 S_ends_of.nd) (den_gscons (den_gname 5 S_ends_of.nd) den_gsnil))))
      (den_scons (den_set 3 (den_ifexp (den_tcmp (cmp_eq (hu64 hr)) (den_var 5) (let ⟨t, e⟩ := T.s_RED; den_glob e (v := .str "red") ⟨t, rfl⟩ fun _ => .str _)) (den_sl (den_ix (den_ix (den_var 0) den_int) (den_var 4)) den_onone (den_osome den_int)) (den_sl (den_ix (den_ix (den_var 0) den_int) (den_var 4)) (den_osome den_int) den_onone)) S_ends_of.nd)
      (den_sone (den_ret (den_ifexp (den_tcmp (cmp_eq (hu64 hr)) (den_ix (den_ix (den_var 1) den_int) (den_var 4)) den_int) (den_bl1 bl_tuple T.n_tuple (den_acons (den_var 3) den_anil)) (den_back (den_bl1 bl_tuple T.n_tuple (den_acons (den_var 3) den_anil))))))))
/-! part_of -/
theorem S_part_of : FnScope ["water"] ["water"] (defScope (top 9)) := ⟨rfl, rfl, rfl, by decide +kernel, rfl, by decide +kernel, by decide +kernel⟩
def B_part_of : FS := (sRet (cIdxS ["red", "blue"] (aCons (cVar 0) aNil)))
def F_part_of : FC := bodyU 1 B_part_of
theorem d_part_of (T : Env K mg) : Def P wd K mg base "part_of" 2 1 ["water"] F_part_of := by
  refine mkDefU (k := 1) (f := B_part_of) (N := ["water"]) T.t_part_of S_part_of rfl (fun _ _ _ _ _ _ us hl => match us, hl with | [_], _ => by kernel_rfl) fun cdv A outer s H E hr => ?_
  unfold B_part_of
  exact (den_sone (den_ret (den_tupIndex (ys := ["red", "blue"]) T.m_WATERS T.t_WATERS (den_acons (den_var 0) den_anil))))
/-! is_let -/
theorem S_is_let : FnScope ["canal", "standing", "going"] ["canal", "standing", "going"] (defScope (top 10)) := ⟨rfl, rfl, rfl, by decide +kernel, rfl, by decide +kernel, by decide +kernel⟩
def B_is_let : FS := (sRet (c2 gGt (cIx (cIx (cVar 1) (cCall 1 F_part_of (aCons (cIx (cVar 2) (cD (.int 1))) aNil))) (cIx (cCall 3 F_ends_of (aCons (cVar 0) (aCons (cVar 1) (aCons (cVar 2) aNil)))) (cD (.int 0)))) (cD (.int 0))))
def F_is_let : FC := bodyU 3 B_is_let
theorem d_is_let (T : Env K mg) : Def P wd K mg base "is_let" 3 3 ["canal", "standing", "going"] F_is_let := by
  refine mkDefU (k := 2) (f := B_is_let) (N := ["canal", "standing", "going"]) T.t_is_let S_is_let rfl (fun _ _ _ _ _ _ us hl => match us, hl with | [_, _, _], _ => by kernel_rfl) fun cdv A outer s H E hr => ?_
  unfold B_is_let
  exact (den_sone (den_ret (den_cmp cmp_gt (den_ix (den_ix (den_var 1) (den_callD (d_part_of T) (hr.mono (by decide)) takes_body (den_acons (den_ix (den_var 2) den_int) den_anil))) (den_ix (den_callD (d_ends_of T) (hr.mono (by decide)) takes_body (den_acons (den_var 0) (den_acons (den_var 1) (den_acons (den_var 2) den_anil)))) den_int)) den_int)))
/-! with_more -/
theorem S_with_more : FnScope ["numbers", "place", "more"] ["numbers", "place", "more"] (defScope (top 11)) := ⟨rfl, rfl, rfl, by decide +kernel, rfl, by decide +kernel, by decide +kernel⟩
def B_with_more : FS := (sRet (c2 gAdd (c2 gAdd (cA gTuple (aCons (cSlG gSl (cVar 0) oNone (oSome (cVar 1))) aNil)) (cA gTup (aCons (c2 gAdd (cIx (cVar 0) (cVar 1)) (cVar 2)) aNil))) (cA gTuple (aCons (cSlG gSl (cVar 0) (oSome (c2 gAdd (cVar 1) (cD (.int 1)))) oNone) aNil))))
def F_with_more : FC := bodyU 3 B_with_more
theorem d_with_more (T : Env K mg) : Def P wd K mg base "with_more" 2 3 ["numbers", "place", "more"] F_with_more := by
  refine mkDefU (k := 1) (f := B_with_more) (N := ["numbers", "place", "more"]) T.t_with_more S_with_more rfl (fun _ _ _ _ _ _ us hl => match us, hl with | [_, _, _], _ => by kernel_rfl) fun cdv A outer s H E hr => ?_
  unfold B_with_more
  exact (den_sone (den_ret (den_add (den_add (den_bl1 bl_tuple T.n_tuple (den_acons (den_sl (den_var 0) den_onone (den_osome (den_var 1))) den_anil)) (den_tup (den_acons (den_add (den_ix (den_var 0) (den_var 1)) (den_var 2)) den_anil))) (den_bl1 bl_tuple T.n_tuple (den_acons (den_sl (den_var 0) (den_osome (den_add (den_var 1) den_int)) den_onone) den_anil)))))
/-! gone -/
theorem S_gone : FnScope ["canal", "standing", "going", "parts", "place", "lock", "water", "first", "last"] ["canal", "standing", "going"] (defScope (top 12)) := ⟨rfl, rfl, rfl, by decide +kernel, rfl, by decide +kernel, by decide +kernel⟩
def B_gone : FS := (sSeq (sIf (fNot (fB (cCall 3 F_is_let (aCons (cVar 0) (aCons (cVar 1) (aCons (cVar 2) aNil)))))) (sRaise "NoBoat" "going" (aCons (cA gTuple (aCons (cVar 2) aNil)) aNil)) sNil) (sSeq (sAsg (cVar 2) (tgTup 2 (tgsCons (tgName 5) (tgsCons (tgName 6) tgsNil)))) (sSeq (sAsg (cCall 3 F_ends_of (aCons (cVar 0) (aCons (cVar 1) (aCons (cVar 2) aNil)))) (tgTup 2 (tgsCons (tgName 7) (tgsCons (tgName 8) tgsNil)))) (sSeq (sSet 3 (cA gListC (aCons (cCall 1 F_as_standing (aCons (cVar 1) aNil)) aNil))) (sSeq (sSet 4 (cCall 1 F_part_of (aCons (cVar 6) aNil))) (sSeq (sAsg (cCall 3 F_with_more (aCons (cCall 3 F_with_more (aCons (cIx (cVar 3) (cVar 4)) (aCons (cVar 7) (aCons (c1 gNeg (cD (.int 1))) aNil)))) (aCons (cVar 8) (aCons (cD (.int 1)) aNil)))) (tgSub (cVar 3) (cVar 4))) (sSeq (sAsg (cCall 3 F_with_more (aCons (cIx (cVar 3) (cD (.int 2))) (aCons (cVar 5) (aCons (c2 gSub (cD (.int 1)) (c2 gMul (cD (.int 2)) (cIx (cIx (cVar 3) (cD (.int 2))) (cVar 5)))) aNil)))) (tgSub (cVar 3) (cD (.int 2)))) (sRet (cA gTuple (aCons (cVar 3) aNil))))))))))
def F_gone : FC := bodyU 9 B_gone
theorem d_gone (T : Env K mg) : Def P wd K mg base "gone" 4 3 ["canal", "standing", "going"] F_gone := by
  refine mkDefU (k := 3) (f := B_gone) (N := ["canal", "standing", "going", "parts", "place", "lock", "water", "first", "last"]) T.t_gone S_gone rfl (fun _ _ _ _ _ _ us hl => match us, hl with | [_, _, _], _ => by kernel_rfl) fun cdv A outer s H E hr => ?_
  unfold B_gone
  exact (den_scons (den_if (den_tnot (den_tval (den_callD (d_is_let T) (hr.mono (by decide)) takes_body (den_acons (den_var 0) (den_acons (den_var 1) (den_acons (den_var 2) den_anil)))))) (den_sone (let ⟨_, b, G⟩ := d_NoBoat_init (P := P) (wd := wd) (base := base) T; den_raise rfl takes_body T.c_NoBoat.re T.c_NoBoat.hno T.c_NoBoat.iC T.c_NoBoat.tI G (hr.mono (by decide)) b pass0 T.m_NoBoat (den_acons (den_bl1 bl_tuple T.n_tuple (den_acons (den_var 2) den_anil)) den_anil))) den_snil)
      (den_scons (den_asg (vs := [5, 6]) (den_var 2) (den_gtup rfl (den_gscons (den_gname 5 S_gone.nd) (den_gscons (den_gname 6 S_gone.nd) den_gsnil))))
      (den_scons (den_asg (vs := [7, 8]) (den_callD (d_ends_of T) (hr.mono (by decide)) takes_body (den_acons (den_var 0) (den_acons (den_var 1) (den_acons (den_var 2) den_anil)))) (den_gtup rfl (den_gscons (den_gname 7 S_gone.nd) (den_gscons (den_gname 8 S_gone.nd) den_gsnil))))
      (den_scons (den_set 3 (den_bl1 bl_listC T.n_list (den_acons (den_callD (d_as_standing T) (hr.mono (by decide)) takes_body (den_acons (den_var 1) den_anil)) den_anil)) S_gone.nd)
      (den_scons (den_set 4 (den_callD (d_part_of T) (hr.mono (by decide)) takes_body (den_acons (den_var 6) den_anil)) S_gone.nd)
      (den_scons (den_asg (vs := []) (den_callD (d_with_more T) (hr.mono (by decide)) takes_body (den_acons (den_callD (d_with_more T) (hr.mono (by decide)) takes_body (den_acons (den_ix (den_var 3) (den_var 4)) (den_acons (den_var 7) (den_acons (den_neg den_int) den_anil)))) (den_acons (den_var 8) (den_acons den_int den_anil)))) (den_gsub (den_var 3) (den_var 4)))
      (den_scons (den_asg (vs := []) (den_callD (d_with_more T) (hr.mono (by decide)) takes_body (den_acons (den_ix (den_var 3) den_int) (den_acons (den_var 5) (den_acons (den_sub den_int (den_mul den_int (den_ix (den_ix (den_var 3) den_int) (den_var 5)))) den_anil)))) (den_gsub (den_var 3) den_int))
      (den_sone (den_ret (den_bl1 bl_tuple T.n_tuple (den_acons (den_var 3) den_anil)))))))))))
/-! gone_all -/
theorem S_gone_all : FnScope ["canal", "standing", "row", "here", "going"] ["canal", "standing", "row"] (defScope (top 13)) := ⟨rfl, rfl, rfl, by decide +kernel, rfl, by decide +kernel, by decide +kernel⟩
def B_gone_all : FS := (sSeq (sSet 3 (cCall 1 F_as_standing (aCons (cVar 1) aNil))) (sSeq (sFor (fSeq (cVar 2)) (tgName 4) (sSet 3 (cCall 3 F_gone (aCons (cVar 0) (aCons (cVar 3) (aCons (cVar 4) aNil)))))) (sRet (cVar 3))))
def F_gone_all : FC := bodyU 5 B_gone_all
theorem d_gone_all (T : Env K mg) : Def P wd K mg base "gone_all" 5 3 ["canal", "standing", "row"] F_gone_all := by
  refine mkDefU (k := 4) (f := B_gone_all) (N := ["canal", "standing", "row", "here", "going"]) T.t_gone_all S_gone_all rfl (fun _ _ _ _ _ _ us hl => match us, hl with | [_, _, _], _ => by kernel_rfl) fun cdv A outer s H E hr => ?_
  unfold B_gone_all
  exact (den_scons (den_set 3 (den_callD (d_as_standing T) (hr.mono (by decide)) takes_body (den_acons (den_var 1) den_anil)) S_gone_all.nd)
      (den_scons (den_for (vs := [4]) (passes_of rfl) rfl (den_iter (den_var 2)) (den_gname 4 S_gone_all.nd) (den_sone (den_set 3 (den_callD (d_gone T) (hr.mono (by decide)) takes_body (den_acons (den_var 0) (den_acons (den_var 3) (den_acons (den_var 4) den_anil)))) S_gone_all.nd)))
      (den_sone (den_ret (den_var 3)))))
/-! went -/
theorem S_went : FnScope ["canal", "standing", "row", "here", "found", "lock", "water", "later"] ["canal", "standing", "row"] (defScope (top 14)) := ⟨rfl, rfl, rfl, by decide +kernel, rfl, by decide +kernel, by decide +kernel⟩
def B_went : FS := (sSeq (sPar 3 4 (aCons (cCall 1 F_as_standing (aCons (cVar 1) aNil)) (aCons (cCompC (fSeq (cD (.tuple ((["red", "blue"] : List Str).map PyData.str)))) [6] (tgName 6) fYes (c2 gMulC (cA gLst (aCons (cD (.int 0)) aNil)) (cA gLen (aCons (cIx (cVar 0) (cD (.int 2))) aNil)))) aNil))) (sSeq (sFor (fSeq (cVar 2)) (tgTup 2 (tgsCons (tgName 5) (tgsCons (tgName 6) tgsNil))) (sSeq (sSet 7 (cCall 3 F_gone (aCons (cVar 0) (aCons (cVar 3) (aCons (cA gTup (aCons (cVar 5) (aCons (cVar 6) aNil))) aNil))))) (sSeq (sAugS (cIx (cVar 4) (cCall 1 F_part_of (aCons (cVar 6) aNil))) (cVar 5) (fun i j => i + j) (c2 gSub (cIx (cIx (cVar 7) (cD (.int 2))) (cVar 5)) (cIx (cIx (cVar 3) (cD (.int 2))) (cVar 5)))) (sSet 3 (cVar 7))))) sStuck))
def F_went : FC := bodyU 8 B_went
theorem d_went (T : Env K mg) : Def P wd K mg base "went" 5 3 ["canal", "standing", "row"] F_went := by
  refine mkDefU (k := 4) (f := B_went) (N := ["canal", "standing", "row", "here", "found", "lock", "water", "later"]) T.t_went S_went rfl (fun _ _ _ _ _ _ us hl => match us, hl with | [_, _, _], _ => by kernel_rfl) fun cdv A outer s H E hr => ?_
  unfold B_went
  exact (den_scons (den_par 3 4 rfl S_went.nd (by decide) (den_acons (den_callD (d_as_standing T) (hr.mono (by decide)) takes_body (den_acons (den_var 1) den_anil)) (den_acons (den_compC rfl S_went.nd (den_iter (den_gtupS (ys := ["red", "blue"]) T.m_WATERS T.t_WATERS)) (ok := blk_ok (own := [("water", 6)]) (by kernel_rfl)) rfl (fun _ _ _ _ _ => (den_gname 6 S_went.nd)) (fun _ _ _ _ _ => den_noif) (fun _ _ _ _ _ => (den_mulC (den_lst (den_acons den_int den_anil)) (den_bl1 bl_len T.n_len (den_acons (den_ix (den_var 0) den_int) den_anil))))) den_anil)) (by rfl))
      (den_scons (den_for (vs := [5, 6]) (passes_of rfl) rfl (den_iter (den_var 2)) (den_gtup rfl (den_gscons (den_gname 5 S_went.nd) (den_gscons (den_gname 6 S_went.nd) den_gsnil))) (den_scons (den_set 7 (den_callD (d_gone T) (hr.mono (by decide)) takes_body (den_acons (den_var 0) (den_acons (den_var 3) (den_acons (den_tup (den_acons (den_var 5) (den_acons (den_var 6) den_anil))) den_anil)))) S_went.nd)
      (den_scons (den_augS ip_add (den_ix (den_var 4) (den_callD (d_part_of T) (hr.mono (by decide)) takes_body (den_acons (den_var 6) den_anil))) (den_var 5) (den_sub (den_ix (den_ix (den_var 7) den_int) (den_var 5)) (den_ix (den_ix (den_var 3) den_int) (den_var 5))))
      (den_sone (den_set 3 (den_var 7) S_went.nd)))))
      den_nevers))
/-! paid_by -/
theorem S_paid_by : FnScope ["canal", "tolls", "standing", "row", "reds", "blues"] ["canal", "tolls", "standing", "row"] (defScope (top 17)) := ⟨rfl, rfl, rfl, by decide +kernel, rfl, by decide +kernel, by decide +kernel⟩
def B_paid_by : FS := (sSeq (sAsg (cCall 3 F_went (aCons (cVar 0) (aCons (cVar 2) (aCons (cVar 3) aNil)))) (tgTup 2 (tgsCons (tgName 4) (tgsCons (tgName 5) tgsNil)))) sStuck)
def F_paid_by : FC := bodyU 6 B_paid_by
theorem d_paid_by (T : Env K mg) : Def P wd K mg base "paid_by" 6 4 ["canal", "tolls", "standing", "row"] F_paid_by := by
  refine mkDefU (k := 5) (f := B_paid_by) (N := ["canal", "tolls", "standing", "row", "reds", "blues"]) T.t_paid_by S_paid_by rfl (fun _ _ _ _ _ _ us hl => match us, hl with | [_, _, _, _], _ => by kernel_rfl) fun cdv A outer s H E hr => ?_
  unfold B_paid_by
  exact (den_scons (den_asg (vs := [4, 5]) (den_callD (d_went T) (hr.mono (by decide)) takes_body (den_acons (den_var 0) (den_acons (den_var 2) (den_acons (den_var 3) den_anil)))) (den_gtup rfl (den_gscons (den_gname 4 S_paid_by.nd) (den_gscons (den_gname 5 S_paid_by.nd) den_gsnil))))
      den_nevers)
/-! _law_box -/
theorem S__law_box : FnScope ["cells", "k", "cell"] ["cells", "k"] (defScope (top 19)) := ⟨rfl, rfl, rfl, by decide +kernel, rfl, by decide +kernel, by decide +kernel⟩
def B__law_box : FS := (sSeq (sSet 2 (cIx (cVar 0) (cVar 1))) (sRet (cA gLstC (aCons (c2 gMul (cA gAbs (aCons (cVar 2) aNil)) (cA gInt (aCons (c2 gGe (cA gAbs (aCons (cVar 2) aNil)) (c2 gPow (cD (.int 10)) (cD (.int 18)))) aNil))) (aCons (c2 gAdd (c2 gAdd (c2 gMod (cVar 2) (cD (.int 2305843009213693951))) (c2 gMul (cD (.int 15485863)) (cVar 1))) (cD (.int 11))) (aCons (cD (.int 0)) aNil))))))
def F__law_box : FC := bodyU 3 B__law_box
theorem d__law_box (T : Env K mg) : Def P wd K mg base "_law_box" 2 2 ["cells", "k"] F__law_box := by
  refine mkDefU (k := 1) (f := B__law_box) (N := ["cells", "k", "cell"]) T.t__law_box S__law_box rfl (fun _ _ _ _ _ _ us hl => match us, hl with | [_, _], _ => by kernel_rfl) fun cdv A outer s H E hr => ?_
  unfold B__law_box
  exact (den_scons (den_set 2 (den_ix (den_var 0) (den_var 1)) S__law_box.nd)
      (den_sone (den_ret (den_lstC (den_acons (den_mul (den_bl1 bl_abs T.n_abs (den_acons (den_var 2) den_anil)) (den_bl1 bl_int T.n_int (den_acons (den_cmp cmp_ge (den_bl1 bl_abs T.n_abs (den_acons (den_var 2) den_anil)) (den_pow den_int den_int)) den_anil))) (den_acons (den_add (den_add (den_mod (den_var 2) den_int) (den_mul den_int (den_var 1))) den_int) (den_acons den_int den_anil)))))))
/-! _law_take -/
theorem S__law_take : FnScope ["box", "size", "blend", "found"] ["box", "size"] (defScope (top 20)) := ⟨rfl, rfl, rfl, by decide +kernel, rfl, by decide +kernel, by decide +kernel⟩
def B__law_take : FS := (sSeq (sIf (fB (c2 gGt (cIx (cVar 0) (cD (.int 0))) (cD (.int 0)))) (sSeq (sSet 3 (c2 gMod (cIx (cVar 0) (cD (.int 0))) (cVar 1))) (sSeq (sAsg (c2 gDiv (cIx (cVar 0) (cD (.int 0))) (cVar 1)) (tgSub (cVar 0) (cD (.int 0)))) (sRet (cVar 3)))) sNil) (sSeq (sAsg (c2 gAdd (cIx (cVar 0) (cD (.int 2))) (cD (.int 1))) (tgSub (cVar 0) (cD (.int 2)))) (sSeq (sSet 2 (c2 gMod (c2 gAdd (cIx (cVar 0) (cD (.int 1))) (c2 gMul (cD (.int 1442695040888963407)) (cIx (cVar 0) (cD (.int 2))))) (cD (.int 2305843009213693951)))) (sSeq (sSet 2 (c2 gMod (c2 gAdd (c2 gAdd (c2 gMul (cVar 2) (cVar 2)) (c2 gMul (cD (.int 39373)) (cIx (cVar 0) (cD (.int 2))))) (cD (.int 7))) (cD (.int 2305843009213693921)))) (sSeq (sSet 2 (c2 gMod (c2 gAdd (c2 gMul (cVar 2) (c2 gAdd (c2 gDiv (cVar 2) (cD (.int 65536))) (cD (.int 3)))) (cIx (cVar 0) (cD (.int 2)))) (cD (.int 2305843009213693907)))) (sRet (c2 gMod (c2 gDiv (cVar 2) (cD (.int 1048576))) (cVar 1))))))))
def F__law_take : FC := bodyU 4 B__law_take
theorem d__law_take (T : Env K mg) : Def P wd K mg base "_law_take" 2 2 ["box", "size"] F__law_take := by
  refine mkDefU (k := 1) (f := B__law_take) (N := ["box", "size", "blend", "found"]) T.t__law_take S__law_take rfl (fun _ _ _ _ _ _ us hl => match us, hl with | [_, _], _ => by kernel_rfl) fun cdv A outer s H E hr => ?_
  unfold B__law_take
  exact (den_scons (den_if (den_tcmp cmp_gt (den_ix (den_var 0) den_int) den_int) (den_scons (den_set 3 (den_mod (den_ix (den_var 0) den_int) (den_var 1)) S__law_take.nd)
      (den_scons (den_asg (vs := []) (den_div (den_ix (den_var 0) den_int) (den_var 1)) (den_gsub (den_var 0) den_int))
      (den_sone (den_ret (den_var 3))))) den_snil)
      (den_scons (den_asg (vs := []) (den_add (den_ix (den_var 0) den_int) den_int) (den_gsub (den_var 0) den_int))
      (den_scons (den_set 2 (den_mod (den_add (den_ix (den_var 0) den_int) (den_mul den_int (den_ix (den_var 0) den_int))) den_int) S__law_take.nd)
      (den_scons (den_set 2 (den_mod (den_add (den_add (den_mul (den_var 2) (den_var 2)) (den_mul den_int (den_ix (den_var 0) den_int))) den_int) den_int) S__law_take.nd)
      (den_scons (den_set 2 (den_mod (den_add (den_mul (den_var 2) (den_add (den_div (den_var 2) den_int) den_int)) (den_ix (den_var 0) den_int)) den_int) S__law_take.nd)
      (den_sone (den_ret (den_mod (den_div (den_var 2) den_int) (den_var 1)))))))))
/-! _law_cells -/
theorem S__law_cells : FnScope ["script", "utmost", "cells", "k", "cell"] ["script", "utmost"] (defScope (top 21)) := ⟨rfl, rfl, rfl, by decide +kernel, rfl, by decide +kernel, by decide +kernel⟩
def B__law_cells : FS := (sSeq (sSet 2 (cOrT (cA gListC (aCons (cSlG gSl (cVar 0) oNone (oSome (cVar 1))) aNil)) (cA gLstC (aCons (cD (.int 0)) aNil)))) (sSeq (sFor (fA gEnum (aCons (cSlG gSl (cVar 0) (oSome (cVar 1)) (oSome (cD (.int 63)))) aNil)) (tgTup 2 (tgsCons (tgName 3) (tgsCons (tgName 4) tgsNil))) (sAsg (c2 gAdd (cIx (cVar 2) (c2 gMod (cVar 3) (cVar 1))) (c2 gMul (cVar 4) (c2 gAdd (cVar 3) (cD (.int 2))))) (tgSub (cVar 2) (c2 gMod (cVar 3) (cVar 1))))) (sRet (cVar 2))))
def F__law_cells : FC := bodyU 5 B__law_cells
theorem d__law_cells (T : Env K mg) : Def P wd K mg base "_law_cells" 2 2 ["script", "utmost"] F__law_cells := by
  refine mkDefU (k := 1) (f := B__law_cells) (N := ["script", "utmost", "cells", "k", "cell"]) T.t__law_cells S__law_cells rfl (fun _ _ _ _ _ _ us hl => match us, hl with | [_, _], _ => by kernel_rfl) fun cdv A outer s H E hr => ?_
  unfold B__law_cells
  exact (den_scons (den_set 2 (den_orT (den_bl1 bl_listC T.n_list (den_acons (den_sl (den_var 0) den_onone (den_osome (den_var 1))) den_anil)) (den_one (den_lstC (den_acons den_int den_anil)))) S__law_cells.nd)
      (den_scons (den_for (vs := [3, 4]) (passes_of rfl) rfl (den_enum T.n_enumerate (den_acons (den_sl (den_var 0) (den_osome (den_var 1)) (den_osome den_int)) den_anil)) (den_gtup rfl (den_gscons (den_gname 3 S__law_cells.nd) (den_gscons (den_gname 4 S__law_cells.nd) den_gsnil))) (den_sone (den_asg (vs := []) (den_add (den_ix (den_var 2) (den_mod (den_var 3) (den_var 1))) (den_mul (den_var 4) (den_add (den_var 3) den_int))) (den_gsub (den_var 2) (den_mod (den_var 3) (den_var 1))))))
      (den_sone (den_ret (den_var 2)))))
/-! _law_same -/
theorem S__law_same : FnScope ["found", "due", "mine", "its"] ["found", "due"] (defScope (top 22)) := ⟨rfl, rfl, rfl, by decide +kernel, rfl, by decide +kernel, by decide +kernel⟩
def B__law_same (self : FC) : FS := (sSeq (sIf (fB (c1 (gIsi [.lst, .tup]) (cVar 1))) (sSeq (sIf (fOr (fB (c2 gNe (c1 (gIsi [.lst]) (cVar 0)) (c1 (gIsi [.lst]) (cVar 1)))) (fB (c2 gNe (c1 (gIsi [.tup]) (cVar 0)) (c1 (gIsi [.tup]) (cVar 1))))) (sRet (cD (.bool false))) sNil) (sSeq (sIf (fB (c2 gNe (cA gLen (aCons (cVar 0) aNil)) (cA gLen (aCons (cVar 1) aNil)))) (sRet (cD (.bool false))) sNil) (sRet (cA gAll (aCons (cCompC (fA gZip (aCons (cVar 0) (aCons (cVar 1) aNil))) [2, 3] (tgTup 2 (tgsCons (tgName 2) (tgsCons (tgName 3) tgsNil))) fYes (cCall 2 self (aCons (cVar 2) (aCons (cVar 3) aNil)))) aNil))))) sNil) (sSeq (sIf (fOr (fB (c2 gIsN (cVar 1) (cD .none))) (fB (c1 (gIsi [.bl, .str]) (cVar 1)))) (sSeq (sIf (fB (c2 gNe (c1 (gIsi [.bl]) (cVar 0)) (c1 (gIsi [.bl]) (cVar 1)))) (sRet (cD (.bool false))) sNil) (sRet (cAnd (c2 gEq (c2 gIsN (cVar 0) (cD .none)) (c2 gIsN (cVar 1) (cD .none))) (c2 gEq (cVar 0) (cVar 1))))) sNil) (sRet (cAnd (c1 (gIsi [.int]) (cVar 0)) (cAnd (cNot (c1 (gIsi [.bl]) (cVar 0))) (c2 gEq (cVar 0) (cVar 1)))))))
def F__law_same : Nat → FC
  | 0 => fun _ _ => .stuck
  | n + 1 => bodyF 4 (B__law_same (F__law_same n))
theorem d__law_same (T : Env K mg) : ∀ n, Def P wd K mg base "_law_same" (1 + n) 2 ["found", "due"] (F__law_same n)
  | 0 => def_stuck T.t__law_same rfl (fun _ _ _ _ _ _ us hl => match us, hl with | [_, _], _ => by kernel_rfl)
  | m + 1 => by
    have hself := d__law_same T m
    refine mkDef (k := 1 + m) (f := B__law_same (F__law_same m)) (N := ["found", "due", "mine", "its"]) T.t__law_same S__law_same rfl (fun _ _ _ _ _ _ us hl => match us, hl with | [_, _], _ => by kernel_rfl) fun cdv A outer s H E hr => ?_
    unfold B__law_same
    exact (den_scons (den_if (den_tval (den_isi2 .lst .tup (boot_kd .lst (by decide)) (boot_kd .tup (by decide)) T.n_isinstance T.n_list T.n_tuple (den_var 1))) (den_scons (den_if (den_tw (den_wor (den_tcmp (cmp_ne (hu64 hr)) (den_isi1 .lst (boot_kd .lst (by decide)) T.n_isinstance T.n_list (den_var 0)) (den_isi1 .lst (boot_kd .lst (by decide)) T.n_isinstance T.n_list (den_var 1))) (den_wor1 (den_tcmp (cmp_ne (hu64 hr)) (den_isi1 .tup (boot_kd .tup (by decide)) T.n_isinstance T.n_tuple (den_var 0)) (den_isi1 .tup (boot_kd .tup (by decide)) T.n_isinstance T.n_tuple (den_var 1)))))) (den_sone (den_ret den_bl)) den_snil)
      (den_scons (den_if (den_tcmp (cmp_ne (hu64 hr)) (den_bl1 bl_len T.n_len (den_acons (den_var 0) den_anil)) (den_bl1 bl_len T.n_len (den_acons (den_var 1) den_anil))) (den_sone (den_ret den_bl)) den_snil)
      (den_sone (den_ret (den_bl1 (bl_all rfl) T.n_all (den_acons (den_compC rfl S__law_same.nd (den_zip T.n_zip (den_acons (den_var 0) (den_acons (den_var 1) den_anil))) (ok := blk_ok (own := [("mine", 2), ("its", 3)]) (by kernel_rfl)) rfl (fun _ _ _ _ _ => (den_gtup rfl (den_gscons (den_gname 2 S__law_same.nd) (den_gscons (den_gname 3 S__law_same.nd) den_gsnil)))) (fun _ _ _ _ _ => den_noif) (fun _ _ _ _ _ => (den_callD hself hr takes_none (den_acons (den_var 2) (den_acons (den_var 3) den_anil))))) den_anil)))))) den_snil)
      (den_scons (den_if (den_tw (den_wor (den_tcmp cmp_isN (den_var 1) den_non) (den_wor1 (den_tval (den_isi2 .bl .str (boot_kd .bl (by decide)) (boot_kd .str (by decide)) T.n_isinstance T.n_bool T.n_str (den_var 1)))))) (den_scons (den_if (den_tcmp (cmp_ne (hu64 hr)) (den_isi1 .bl (boot_kd .bl (by decide)) T.n_isinstance T.n_bool (den_var 0)) (den_isi1 .bl (boot_kd .bl (by decide)) T.n_isinstance T.n_bool (den_var 1))) (den_sone (den_ret den_bl)) den_snil)
      (den_sone (den_ret (den_and (den_cmp (cmp_eq (hu64 hr)) (den_cmp cmp_isN (den_var 0) den_non) (den_cmp cmp_isN (den_var 1) den_non)) (den_one (den_cmp (cmp_eq (hu64 hr)) (den_var 0) (den_var 1))))))) den_snil)
      (den_sone (den_ret (den_and (den_isi1 .int (boot_kd .int (by decide)) T.n_isinstance T.n_int (den_var 0)) (den_and (den_not (den_isi1 .bl (boot_kd .bl (by decide)) T.n_isinstance T.n_bool (den_var 0))) (den_one (den_cmp (cmp_eq (hu64 hr)) (den_var 0) (den_var 1)))))))))
/-! _law_heard -/
theorem S__law_heard : FnScope ["door", "ship_way", "here", "row", "tolls", "error", "found", "caught"] ["door", "ship_way", "here", "row"] (defScope (top 24)) := ⟨rfl, rfl, rfl, by decide +kernel, rfl, by decide +kernel, by decide +kernel⟩
def B__law_heard : FS := (sSeq (sAsg (cA gTup (aCons (cD .none) (aCons (cD .none) aNil))) (tgTup 2 (tgsCons (tgName 6) (tgsCons (tgName 7) tgsNil)))) (sSeq (sSet 4 (c2 gMul (cA gLst (aCons (cA gTup (aCons (cD (.int 1)) (aCons (cD (.int 2)) aNil))) aNil)) (cA gLen (aCons (cIx (cVar 1) (cD (.int 2))) aNil)))) (sSeq (sTry (sIf (fB (c2 gLt (cVar 0) (cD (.int 2)))) (sSet 6 (cIf (fB (c2 gEq (cVar 0) (cD (.int 0)))) (cCall 3 F_gone (aCons (cVar 1) (aCons (cVar 2) (aCons (cIx (cVar 3) (cD (.int 0))) aNil)))) (cCall 3 F_gone_all (aCons (cVar 1) (aCons (cVar 2) (aCons (cVar 3) aNil)))))) (sSet 6 (cIf (fB (c2 gEq (cVar 0) (cD (.int 2)))) (cCall 3 F_went (aCons (cVar 1) (aCons (cVar 2) (aCons (cVar 3) aNil)))) (cCall 4 F_paid_by (aCons (cVar 1) (aCons (cVar 4) (aCons (cVar 2) (aCons (cVar 3) aNil)))))))) (fun C => if C = "NoBoat" then some true else none) 5 (sSet 7 (cVar 5))) (sRet (cIf (fB (c2 gIsN (cVar 7) (cD .none))) (cVar 6) (cA gLst (aCons (cD (.str "no boat")) (aCons (c1 (gExF "NoBoat" "going") (cVar 7)) (aCons (c1 (gIsEx "NoBoat" true) (cVar 7)) aNil)))))))))
def F__law_heard : FC := bodyF 8 B__law_heard
theorem d__law_heard (T : Env K mg) : Def P wd K mg base "_law_heard" 7 4 ["door", "ship_way", "here", "row"] F__law_heard := by
  refine mkDef (k := 6) (f := B__law_heard) (N := ["door", "ship_way", "here", "row", "tolls", "error", "found", "caught"]) T.t__law_heard S__law_heard rfl (fun _ _ _ _ _ _ us hl => match us, hl with | [_, _, _, _], _ => by kernel_rfl) fun cdv A outer s H E hr => ?_
  unfold B__law_heard
  exact (den_scons (den_asg (vs := [6, 7]) (den_tup (den_acons den_non (den_acons den_non den_anil))) (den_gtup rfl (den_gscons (den_gname 6 S__law_heard.nd) (den_gscons (den_gname 7 S__law_heard.nd) den_gsnil))))
      (den_scons (den_set 4 (den_mul (den_lst (den_acons (den_tup (den_acons den_int (den_acons den_int den_anil))) den_anil)) (den_bl1 bl_len T.n_len (den_acons (den_ix (den_var 1) den_int) den_anil))) S__law_heard.nd)
      (den_scons (den_try 5 (fun C => if C = "NoBoat" then some true else none) rfl rfl rfl S__law_heard.nd ⟨rfl, by decide, .inl T.m_NoBoat⟩ takes_body (fun C b e => cat_one T.c_NoBoat.cat e) (fun W pn xe tk po => (den_sone (den_if (den_tcmp cmp_lt (den_var 0) den_int) (den_sone (den_set 6 (den_ifexp (den_tcmp (cmp_eq (hu64 hr)) (den_var 0) den_int) (den_callD (d_gone T) (hr.mono (by decide)) tk (den_acons (den_var 1) (den_acons (den_var 2) (den_acons (den_ix (den_var 3) den_int) den_anil)))) (den_callD (d_gone_all T) (hr.mono (by decide)) tk (den_acons (den_var 1) (den_acons (den_var 2) (den_acons (den_var 3) den_anil))))) S__law_heard.nd)) (den_sone (den_set 6 (den_ifexp (den_tcmp (cmp_eq (hu64 hr)) (den_var 0) den_int) (den_callD (d_went T) (hr.mono (by decide)) tk (den_acons (den_var 1) (den_acons (den_var 2) (den_acons (den_var 3) den_anil)))) (den_callD (d_paid_by T) (hr.mono (by decide)) tk (den_acons (den_var 1) (den_acons (den_var 4) (den_acons (den_var 2) (den_acons (den_var 3) den_anil)))))) S__law_heard.nd))))) (fun a pn => (den_sone (den_set 7 (den_var 5) S__law_heard.nd))))
      (den_sone (den_ret (den_ifexp (den_tcmp cmp_isN (den_var 7) den_non) (den_var 6) (den_lst (den_acons den_str (den_acons (den_exF T.c_NoBoat.xf T.c_NoBoat.hno (den_var 7)) (den_acons (den_isEx "NoBoat" T.c_NoBoat.isC (pe_bltn (v := .ty "RuntimeError") rfl T.n_RuntimeError PyProof.Rows.Boot.«RuntimeError» rfl) (.ty _) T.c_NoBoat.kRT T.n_isinstance (den_var 7)) den_anil))))))))))
/-! _law_by_hand_right -/
theorem S__law_by_hand_right : FnScope ["ship_way", "here", "rows", "got", "due", "soft", "row", "door"] [] (defScope (top 25)) := ⟨rfl, rfl, rfl, by decide +kernel, rfl, by decide +kernel, by decide +kernel⟩
def B__law_by_hand_right : FS := (sSeq (sSet 0 (cA gTup (aCons (cD (.int 2)) (aCons (cD (.int 2)) (aCons (cA gTup (aCons (cA gTup (aCons (cD (.int 0)) (aCons (cD (.int 1)) (aCons (cD (.int 0)) (aCons (cD (.int 1)) aNil))))) (aCons (cA gTup (aCons (cD (.int 1)) (aCons (cD (.int 0)) (aCons (cD (.int 1)) (aCons (cD (.int 0)) aNil))))) aNil))) aNil))))) (sSeq (sSet 1 (cA gTup (aCons (cA gTup (aCons (cD (.int 0)) (aCons (cD (.int 1)) aNil))) (aCons (cA gTup (aCons (cD (.int 1)) (aCons (cD (.int 0)) aNil))) (aCons (cA gTup (aCons (cD (.int 0)) (aCons (cD (.int 0)) aNil))) aNil))))) (sSeq (sSet 2 (cA gLst (aCons (cA gLst (aCons (cA gLst (aCons (cD (.int 0)) (aCons (cD (.str "red")) aNil))) aNil)) (aCons (cA gLst (aCons (cA gLst (aCons (cD (.int 1)) (aCons (cD (.str "blue")) aNil))) aNil)) (aCons (cA gLst (aCons (cA gTup (aCons (cD (.int 0)) (aCons (cD (.str "red")) aNil))) aNil)) (aCons (cA gLst (aCons (cA gLst (aCons (cD (.int 0)) (aCons (cD (.str "blue")) aNil))) (aCons (cA gLst (aCons (cD (.int 0)) (aCons (cD (.str "blue")) aNil))) (aCons (cA gLst (aCons (cD (.int 0)) (aCons (cD (.str "red")) aNil))) aNil)))) aNil)))))) (sSeq (sSet 3 (cCompC (fSeq (cVar 2)) [6] (tgName 6) fYes (cFrzU (cCompC (fA gRange1 (aCons (cD (.int 4)) aNil)) [7] (tgName 7) fYes (cCall 4 F__law_heard (aCons (cVar 7) (aCons (cVar 0) (aCons (cVar 1) (aCons (cVar 6) aNil))))))))) (sSeq (sSet 4 (cA gLst (aCons (c2 gMul (cA gLst (aCons (cA gLst (aCons (cD (.str "no boat")) (aCons (cA gTup (aCons (cD (.int 0)) (aCons (cD (.str "red")) aNil))) (aCons (cD (.bool true)) aNil)))) aNil)) (cD (.int 4))) (aCons (c2 gMul (cA gLst (aCons (cA gLst (aCons (cD (.str "no boat")) (aCons (cA gTup (aCons (cD (.int 1)) (aCons (cD (.str "blue")) aNil))) (aCons (cD (.bool true)) aNil)))) aNil)) (cD (.int 4))) aNil)))) (sSeq (sSet 4 (c2 gAddC (cVar 4) (cA gLst (aCons (c2 gMul (cA gLst (aCons (cA gLst (aCons (cD (.str "no boat")) (aCons (cA gTup (aCons (cD (.int 0)) (aCons (cD (.str "red")) aNil))) (aCons (cD (.bool true)) aNil)))) aNil)) (cD (.int 4))) aNil)))) (sSeq (sDrop (cM isLst gApp (cVar 4) (aCons (c2 gAdd (cA gLst (aCons (cA gTup (aCons (cA gTup (aCons (cD (.int 0)) (aCons (cD (.int 1)) aNil))) (aCons (cA gTup (aCons (cD (.int 0)) (aCons (cD (.int 1)) aNil))) (aCons (cA gTup (aCons (cD (.int 1)) (aCons (cD (.int 0)) aNil))) aNil)))) aNil)) (c2 gMul (cA gLst (aCons (cA gLst (aCons (cD (.str "no boat")) (aCons (cA gTup (aCons (cD (.int 0)) (aCons (cD (.str "red")) aNil))) (aCons (cD (.bool true)) aNil)))) aNil)) (cD (.int 3)))) aNil))) (sSeq (sSet 5 (cA gLst (aCons (cA gLst (aCons (cD (.int 2)) (aCons (cD (.int 2)) (aCons (cA gLst (aCons (cA gLst (aCons (cD (.int 0)) (aCons (cD (.int 1)) (aCons (cD (.int 0)) (aCons (cD (.int 1)) aNil))))) (aCons (cA gLst (aCons (cD (.int 1)) (aCons (cD (.int 0)) (aCons (cD (.int 1)) (aCons (cD (.int 0)) aNil))))) aNil))) aNil)))) (aCons (cA gLst (aCons (cA gLst (aCons (cD (.int 0)) (aCons (cD (.int 1)) aNil))) (aCons (cA gLst (aCons (cD (.int 1)) (aCons (cD (.int 0)) aNil))) (aCons (cA gLst (aCons (cD (.int 0)) (aCons (cD (.int 0)) aNil))) aNil)))) aNil)))) (sSeq (sDrop (cM isLst gApp (cVar 3) (aCons (cFrzU (cCompC (fA gRange1 (aCons (cD (.int 4)) aNil)) [7] (tgName 7) fYes (cCall 4 F__law_heard (aCons (cVar 7) (aCons (cIx (cVar 5) (cD (.int 0))) (aCons (cIx (cVar 5) (cD (.int 1))) (aCons (cA gLst (aCons (cA gLst (aCons (cD (.int 0)) (aCons (cD (.str "red")) aNil))) aNil)) aNil))))))) aNil))) (sSeq (sDrop (cM isLst gApp (cVar 4) (aCons (c2 gMul (cA gLst (aCons (cA gLst (aCons (cD (.str "no boat")) (aCons (cA gTup (aCons (cD (.int 0)) (aCons (cD (.str "red")) aNil))) (aCons (cD (.bool true)) aNil)))) aNil)) (cD (.int 4))) aNil))) (sSeq (sDrop (cM isLst gApp (cVar 3) (aCons (cFrzU (cCompC (fA gRange2 (aCons (cD (.int 1)) (aCons (cD (.int 4)) aNil))) [7] (tgName 7) fYes (cCall 4 F__law_heard (aCons (cVar 7) (aCons (cVar 0) (aCons (cVar 1) (aCons (cA gTup (aCons (cA gLst (aCons (cD (.int 1)) (aCons (cD (.str "red")) aNil))) (aCons (cA gLst (aCons (cD (.int 1)) (aCons (cD (.str "blue")) aNil))) (aCons (cA gLst (aCons (cD (.int 1)) (aCons (cD (.str "red")) aNil))) aNil)))) aNil))))))) aNil))) (sSeq (sDrop (cM isLst gApp (cVar 4) (aCons (c2 gMul (cA gLst (aCons (cA gLst (aCons (cD (.str "no boat")) (aCons (cA gTup (aCons (cD (.int 1)) (aCons (cD (.str "red")) aNil))) (aCons (cD (.bool true)) aNil)))) aNil)) (cD (.int 3))) aNil))) (sRet (cCall 2 (F__law_same 8) (aCons (cVar 3) (aCons (cVar 4) aNil))))))))))))))))
def F__law_by_hand_right : FC := bodyF 8 B__law_by_hand_right
theorem d__law_by_hand_right (T : Env K mg) : Def P wd K mg base "_law_by_hand_right" 10 0 [] F__law_by_hand_right := by
  refine mkDef (k := 9) (f := B__law_by_hand_right) (N := ["ship_way", "here", "rows", "got", "due", "soft", "row", "door"]) T.t__law_by_hand_right S__law_by_hand_right rfl (fun _ _ _ _ _ _ us hl => match us, hl with | [], _ => by kernel_rfl) fun cdv A outer s H E hr => ?_
  unfold B__law_by_hand_right
  exact (den_scons (den_set 0 (den_tup (den_acons den_int (den_acons den_int (den_acons (den_tup (den_acons (den_tup (den_acons den_int (den_acons den_int (den_acons den_int (den_acons den_int den_anil))))) (den_acons (den_tup (den_acons den_int (den_acons den_int (den_acons den_int (den_acons den_int den_anil))))) den_anil))) den_anil)))) S__law_by_hand_right.nd)
      (den_scons (den_set 1 (den_tup (den_acons (den_tup (den_acons den_int (den_acons den_int den_anil))) (den_acons (den_tup (den_acons den_int (den_acons den_int den_anil))) (den_acons (den_tup (den_acons den_int (den_acons den_int den_anil))) den_anil)))) S__law_by_hand_right.nd)
      (den_scons (den_set 2 (den_lst (den_acons (den_lst (den_acons (den_lst (den_acons den_int (den_acons den_str den_anil))) den_anil)) (den_acons (den_lst (den_acons (den_lst (den_acons den_int (den_acons den_str den_anil))) den_anil)) (den_acons (den_lst (den_acons (den_tup (den_acons den_int (den_acons den_str den_anil))) den_anil)) (den_acons (den_lst (den_acons (den_lst (den_acons den_int (den_acons den_str den_anil))) (den_acons (den_lst (den_acons den_int (den_acons den_str den_anil))) (den_acons (den_lst (den_acons den_int (den_acons den_str den_anil))) den_anil)))) den_anil))))) S__law_by_hand_right.nd)
      (den_scons (den_setLc 3 (fun _ _ _ h => h) rfl S__law_by_hand_right.nd (den_iter (den_var 2)) (ok := blk_ok (own := [("row", 6)]) (by kernel_rfl)) rfl (fun _ _ _ _ _ => (den_gname 6 S__law_by_hand_right.nd)) (fun _ _ _ _ _ => den_noif) (fun _ _ _ _ _ => (den_frzU (den_compC rfl S__law_by_hand_right.nd (den_range1 T.n_range (den_acons den_int den_anil)) (ok := blk_ok (own := [("door", 7)]) (by kernel_rfl)) rfl (fun _ _ _ _ _ => (den_gname 7 S__law_by_hand_right.nd)) (fun _ _ _ _ _ => den_noif) (fun _ _ _ _ _ => (den_callD (d__law_heard T) (hr.mono (by decide)) takes_none (den_acons (den_var 7) (den_acons (den_var 0) (den_acons (den_var 1) (den_acons (den_var 6) den_anil))))))))) (hsw := by rfl))
      (den_scons (den_set 4 (den_lst (den_acons (den_mul (den_lst (den_acons (den_lst (den_acons den_str (den_acons (den_tup (den_acons den_int (den_acons den_str den_anil))) (den_acons den_bl den_anil)))) den_anil)) den_int) (den_acons (den_mul (den_lst (den_acons (den_lst (den_acons den_str (den_acons (den_tup (den_acons den_int (den_acons den_str den_anil))) (den_acons den_bl den_anil)))) den_anil)) den_int) den_anil))) S__law_by_hand_right.nd)
      (den_scons (den_set 4 (den_addC (den_var 4) (den_lst (den_acons (den_mul (den_lst (den_acons (den_lst (den_acons den_str (den_acons (den_tup (den_acons den_int (den_acons den_str den_anil))) (den_acons den_bl den_anil)))) den_anil)) den_int) den_anil))) S__law_by_hand_right.nd)
      (den_scons (den_expr (den_append (den_var 4) (den_acons (den_add (den_lst (den_acons (den_tup (den_acons (den_tup (den_acons den_int (den_acons den_int den_anil))) (den_acons (den_tup (den_acons den_int (den_acons den_int den_anil))) (den_acons (den_tup (den_acons den_int (den_acons den_int den_anil))) den_anil)))) den_anil)) (den_mul (den_lst (den_acons (den_lst (den_acons den_str (den_acons (den_tup (den_acons den_int (den_acons den_str den_anil))) (den_acons den_bl den_anil)))) den_anil)) den_int)) den_anil)))
      (den_scons (den_set 5 (den_lst (den_acons (den_lst (den_acons den_int (den_acons den_int (den_acons (den_lst (den_acons (den_lst (den_acons den_int (den_acons den_int (den_acons den_int (den_acons den_int den_anil))))) (den_acons (den_lst (den_acons den_int (den_acons den_int (den_acons den_int (den_acons den_int den_anil))))) den_anil))) den_anil)))) (den_acons (den_lst (den_acons (den_lst (den_acons den_int (den_acons den_int den_anil))) (den_acons (den_lst (den_acons den_int (den_acons den_int den_anil))) (den_acons (den_lst (den_acons den_int (den_acons den_int den_anil))) den_anil)))) den_anil))) S__law_by_hand_right.nd)
      (den_scons (den_expr (den_append (den_var 3) (den_acons (den_frzU (den_compC rfl S__law_by_hand_right.nd (den_range1 T.n_range (den_acons den_int den_anil)) (ok := blk_ok (own := [("door", 7)]) (by kernel_rfl)) rfl (fun _ _ _ _ _ => (den_gname 7 S__law_by_hand_right.nd)) (fun _ _ _ _ _ => den_noif) (fun _ _ _ _ _ => (den_callD (d__law_heard T) (hr.mono (by decide)) takes_none (den_acons (den_var 7) (den_acons (den_ix (den_var 5) den_int) (den_acons (den_ix (den_var 5) den_int) (den_acons (den_lst (den_acons (den_lst (den_acons den_int (den_acons den_str den_anil))) den_anil)) den_anil)))))))) den_anil)))
      (den_scons (den_expr (den_append (den_var 4) (den_acons (den_mul (den_lst (den_acons (den_lst (den_acons den_str (den_acons (den_tup (den_acons den_int (den_acons den_str den_anil))) (den_acons den_bl den_anil)))) den_anil)) den_int) den_anil)))
      (den_scons (den_expr (den_append (den_var 3) (den_acons (den_frzU (den_compC rfl S__law_by_hand_right.nd (den_range2 T.n_range (den_acons den_int (den_acons den_int den_anil))) (ok := blk_ok (own := [("door", 7)]) (by kernel_rfl)) rfl (fun _ _ _ _ _ => (den_gname 7 S__law_by_hand_right.nd)) (fun _ _ _ _ _ => den_noif) (fun _ _ _ _ _ => (den_callD (d__law_heard T) (hr.mono (by decide)) takes_none (den_acons (den_var 7) (den_acons (den_var 0) (den_acons (den_var 1) (den_acons (den_tup (den_acons (den_lst (den_acons den_int (den_acons den_str den_anil))) (den_acons (den_lst (den_acons den_int (den_acons den_str den_anil))) (den_acons (den_lst (den_acons den_int (den_acons den_str den_anil))) den_anil)))) den_anil)))))))) den_anil)))
      (den_scons (den_expr (den_append (den_var 4) (den_acons (den_mul (den_lst (den_acons (den_lst (den_acons den_str (den_acons (den_tup (den_acons den_int (den_acons den_str den_anil))) (den_acons den_bl den_anil)))) den_anil)) den_int) den_anil)))
      (den_sone (den_ret (den_callD (d__law_same T 8) (hr.mono (by decide)) takes_body (den_acons (den_var 3) (den_acons (den_var 4) den_anil)))))))))))))))))
/-! _law_right -/
theorem S__law_right : FnScope ["box", "many", "gates", "boats", "lying", "turn", "k", "row", "got", "door"] ["box"] (defScope (top 26)) := ⟨rfl, rfl, rfl, by decide +kernel, rfl, by decide +kernel, by decide +kernel⟩
def B__law_right : FS := (sSeq (sSet 1 (c2 gAdd (cD (.int 1)) (cCall 2 F__law_take (aCons (cVar 0) (aCons (cD (.int 4)) aNil))))) (sSeq (sSet 2 (cA gTuple (aCons (cCompC (fA gRange1 (aCons (cVar 1) aNil)) [6] (tgName 6) fYes (cA gTup (aCons (cVar 6) (aCons (c2 gAdd (cVar 6) (cD (.int 1))) (aCons (cVar 6) (aCons (c2 gAdd (cVar 6) (cD (.int 1))) aNil)))))) aNil))) (sSeq (sSet 3 (cA gLst (aCons (c2 gMul (cA gTup (aCons (cD (.int 0)) aNil)) (c2 gAdd (cVar 1) (cD (.int 1)))) (aCons (c2 gMul (cA gTup (aCons (cD (.int 1)) aNil)) (c2 gAdd (cVar 1) (cD (.int 1)))) aNil)))) (sSeq (sSet 4 (cA gTup (aCons (cIx (cVar 3) (cD (.int 0))) (aCons (cIx (cVar 3) (cCall 2 F__law_take (aCons (cVar 0) (aCons (cD (.int 2)) aNil)))) (aCons (cA gTuple (aCons (cCompC (fA gRange1 (aCons (cVar 1) aNil)) [6] (tgName 6) fYes (cCall 2 F__law_take (aCons (cVar 0) (aCons (cD (.int 2)) aNil)))) aNil)) aNil))))) (sSeq (sFor (fA gRange1 (aCons (cD (.int 4)) aNil)) (tgName 5) (sSeq (sSet 6 (cCall 2 F__law_take (aCons (cVar 0) (aCons (cVar 1) aNil)))) (sSeq (sSet 7 (cA gLst (aCons (cA gLst (aCons (cVar 6) (aCons (cD (.str "red")) aNil))) (aCons (cA gLst (aCons (cCall 2 F__law_take (aCons (cVar 0) (aCons (cVar 1) aNil))) (aCons (cD (.str "blue")) aNil))) aNil)))) (sSeq (sSet 8 (cFrzU (cCompC (fA gRange1 (aCons (cD (.int 4)) aNil)) [9] (tgName 9) fYes (cCall 4 F__law_heard (aCons (cVar 9) (aCons (cA gTup (aCons (c2 gAdd (cVar 1) (cD (.int 1))) (aCons (c2 gAdd (cVar 1) (cD (.int 1))) (aCons (cVar 2) aNil)))) (aCons (cVar 4) (aCons (cVar 7) aNil)))))))) (sIf (fNot (fB (cCall 2 (F__law_same 8) (aCons (cVar 8) (aCons (c2 gMul (cA gLst (aCons (cA gLst (aCons (cD (.str "no boat")) (aCons (cA gTup (aCons (cVar 6) (aCons (cD (.str "red")) aNil))) (aCons (cD (.bool true)) aNil)))) aNil)) (cD (.int 4))) aNil))))) (sRet (cD (.bool false))) sNil))))) (sRet (cD (.bool true))))))))
def F__law_right : FC := bodyU 10 B__law_right
theorem d__law_right (T : Env K mg) : Def P wd K mg base "_law_right" 10 1 ["box"] F__law_right := by
  refine mkDefU (k := 9) (f := B__law_right) (N := ["box", "many", "gates", "boats", "lying", "turn", "k", "row", "got", "door"]) T.t__law_right S__law_right rfl (fun _ _ _ _ _ _ us hl => match us, hl with | [_], _ => by kernel_rfl) fun cdv A outer s H E hr => ?_
  unfold B__law_right
  exact (den_scons (den_set 1 (den_add den_int (den_callD (d__law_take T) (hr.mono (by decide)) takes_body (den_acons (den_var 0) (den_acons den_int den_anil)))) S__law_right.nd)
      (den_scons (den_set 2 (den_bl1 bl_tuple T.n_tuple (den_acons (den_compC rfl S__law_right.nd (den_range1 T.n_range (den_acons (den_var 1) den_anil)) (ok := blk_ok (own := [("k", 6)]) (by kernel_rfl)) rfl (fun _ _ _ _ _ => (den_gname 6 S__law_right.nd)) (fun _ _ _ _ _ => den_noif) (fun _ _ _ _ _ => (den_tup (den_acons (den_var 6) (den_acons (den_add (den_var 6) den_int) (den_acons (den_var 6) (den_acons (den_add (den_var 6) den_int) den_anil))))))) den_anil)) S__law_right.nd)
      (den_scons (den_set 3 (den_lst (den_acons (den_mul (den_tup (den_acons den_int den_anil)) (den_add (den_var 1) den_int)) (den_acons (den_mul (den_tup (den_acons den_int den_anil)) (den_add (den_var 1) den_int)) den_anil))) S__law_right.nd)
      (den_scons (den_set 4 (den_tup (den_acons (den_ix (den_var 3) den_int) (den_acons (den_ix (den_var 3) (den_callD (d__law_take T) (hr.mono (by decide)) takes_body (den_acons (den_var 0) (den_acons den_int den_anil)))) (den_acons (den_bl1 bl_tuple T.n_tuple (den_acons (den_compC rfl S__law_right.nd (den_range1 T.n_range (den_acons (den_var 1) den_anil)) (ok := blk_ok (own := [("k", 6)]) (by kernel_rfl)) rfl (fun _ _ _ _ _ => (den_gname 6 S__law_right.nd)) (fun _ _ _ _ _ => den_noif) (fun _ _ _ _ _ => (den_callD (d__law_take T) (hr.mono (by decide)) takes_none (den_acons (den_var 0) (den_acons den_int den_anil))))) den_anil)) den_anil)))) S__law_right.nd)
      (den_scons (den_for (vs := [5]) (passes_of rfl) rfl (den_range1 T.n_range (den_acons den_int den_anil)) (den_gname 5 S__law_right.nd) (den_scons (den_set 6 (den_callD (d__law_take T) (hr.mono (by decide)) takes_body (den_acons (den_var 0) (den_acons (den_var 1) den_anil))) S__law_right.nd)
      (den_scons (den_set 7 (den_lst (den_acons (den_lst (den_acons (den_var 6) (den_acons den_str den_anil))) (den_acons (den_lst (den_acons (den_callD (d__law_take T) (hr.mono (by decide)) takes_body (den_acons (den_var 0) (den_acons (den_var 1) den_anil))) (den_acons den_str den_anil))) den_anil))) S__law_right.nd)
      (den_scons (den_setLc 8 (fun _ _ _ h => tdenFrzU h) rfl S__law_right.nd (den_range1 T.n_range (den_acons den_int den_anil)) (ok := blk_ok (own := [("door", 9)]) (by kernel_rfl)) rfl (fun _ _ _ _ _ => (den_gname 9 S__law_right.nd)) (fun _ _ _ _ _ => den_noif) (fun _ _ _ _ _ => (den_callD (d__law_heard T) (hr.mono (by decide)) takes_none (den_acons (den_var 9) (den_acons (den_tup (den_acons (den_add (den_var 1) den_int) (den_acons (den_add (den_var 1) den_int) (den_acons (den_var 2) den_anil)))) (den_acons (den_var 4) (den_acons (den_var 7) den_anil)))))) (hsw := by rfl))
      (den_sone (den_if (den_tnot (den_tval (den_callD (d__law_same T 8) (hr.mono (by decide)) takes_body (den_acons (den_var 8) (den_acons (den_mul (den_lst (den_acons (den_lst (den_acons den_str (den_acons (den_tup (den_acons (den_var 6) (den_acons den_str den_anil))) (den_acons den_bl den_anil)))) den_anil)) den_int) den_anil))))) (den_sone (den_ret den_bl)) den_snil))))))
      (den_sone (den_ret den_bl)))))))
/-! law -/
theorem S_law : FnScope ["script", "cells", "k"] ["script"] (defScope (top 27)) := ⟨rfl, rfl, rfl, by decide +kernel, rfl, by decide +kernel, by decide +kernel⟩
def B_law : FS := (sSeq (sIf (fNot (fB (cCall0 F__law_by_hand_right))) (sRet (cD (.bool false))) sNil) (sSeq (sSet 1 (cCall 2 F__law_cells (aCons (cVar 0) (aCons (cD (.int 2)) aNil)))) (sRet (cA gAll (aCons (cCompC (fA gRange1 (aCons (cA gLen (aCons (cVar 1) aNil)) aNil)) [2] (tgName 2) fYes (cCall 1 F__law_right (aCons (cCall 2 F__law_box (aCons (cVar 1) (aCons (cVar 2) aNil))) aNil))) aNil)))))
def F_law : FC := bodyU 3 B_law
theorem d_law (T : Env K mg) : Def P wd K mg base "law" 11 1 ["script"] F_law := by
  refine mkDefU (k := 10) (f := B_law) (N := ["script", "cells", "k"]) T.t_law S_law rfl (fun _ _ _ _ _ _ us hl => match us, hl with | [_], _ => by kernel_rfl) fun cdv A outer s H E hr => ?_
  unfold B_law
  exact (den_scons (den_if (den_tnot (den_tval (den_callD0 (d__law_by_hand_right T) (hr.mono (by decide))))) (den_sone (den_ret den_bl)) den_snil)
      (den_scons (den_set 1 (den_callD (d__law_cells T) (hr.mono (by decide)) takes_body (den_acons (den_var 0) (den_acons den_int den_anil))) S_law.nd)
      (den_sone (den_ret (den_bl1 (bl_all rfl) T.n_all (den_acons (den_compC rfl S_law.nd (den_range1 T.n_range (den_acons (den_bl1 bl_len T.n_len (den_acons (den_var 1) den_anil)) den_anil)) (ok := blk_ok (own := [("k", 2)]) (by kernel_rfl)) rfl (fun _ _ _ _ _ => (den_gname 2 S_law.nd)) (fun _ _ _ _ _ => den_noif) (fun _ _ _ _ _ => (den_callD (d__law_right T) (hr.mono (by decide)) takes_none (den_acons (den_callD (d__law_box T) (hr.mono (by decide)) takes_none (den_acons (den_var 1) (den_acons (den_var 2) den_anil))) den_anil)))) den_anil))))))
end
/-! ### the head -/
def D_as_standing : He.DefD := ⟨("as_standing", none), "as_standing", "as_standing", defArgs (top 4), defBody (top 4), defScope (top 4), [], []⟩
def D_ends_of : He.DefD := ⟨("ends_of", none), "ends_of", "ends_of", defArgs (top 8), defBody (top 8), defScope (top 8), [], []⟩
def D_part_of : He.DefD := ⟨("part_of", none), "part_of", "part_of", defArgs (top 9), defBody (top 9), defScope (top 9), [], []⟩
def D_is_let : He.DefD := ⟨("is_let", none), "is_let", "is_let", defArgs (top 10), defBody (top 10), defScope (top 10), [], []⟩
def D_with_more : He.DefD := ⟨("with_more", none), "with_more", "with_more", defArgs (top 11), defBody (top 11), defScope (top 11), [], []⟩
def D_gone : He.DefD := ⟨("gone", none), "gone", "gone", defArgs (top 12), defBody (top 12), defScope (top 12), [], []⟩
def D_gone_all : He.DefD := ⟨("gone_all", none), "gone_all", "gone_all", defArgs (top 13), defBody (top 13), defScope (top 13), [], []⟩
def D_went : He.DefD := ⟨("went", none), "went", "went", defArgs (top 14), defBody (top 14), defScope (top 14), [], []⟩
def D_paid_by : He.DefD := ⟨("paid_by", none), "paid_by", "paid_by", defArgs (top 17), defBody (top 17), defScope (top 17), [], []⟩
def D__law_box : He.DefD := ⟨("_law_box", none), "_law_box", "_law_box", defArgs (top 19), defBody (top 19), defScope (top 19), [], []⟩
def D__law_take : He.DefD := ⟨("_law_take", none), "_law_take", "_law_take", defArgs (top 20), defBody (top 20), defScope (top 20), [], []⟩
def D__law_cells : He.DefD := ⟨("_law_cells", none), "_law_cells", "_law_cells", defArgs (top 21), defBody (top 21), defScope (top 21), [], []⟩
def D__law_same : He.DefD := ⟨("_law_same", none), "_law_same", "_law_same", defArgs (top 22), defBody (top 22), defScope (top 22), [], []⟩
def D__law_heard : He.DefD := ⟨("_law_heard", none), "_law_heard", "_law_heard", defArgs (top 24), defBody (top 24), defScope (top 24), [], []⟩
def D__law_by_hand_right : He.DefD := ⟨("_law_by_hand_right", none), "_law_by_hand_right", "_law_by_hand_right", defArgs (top 25), defBody (top 25), defScope (top 25), [], []⟩
def D__law_right : He.DefD := ⟨("_law_right", none), "_law_right", "_law_right", defArgs (top 26), defBody (top 26), defScope (top 26), [], []⟩
def D_law : He.DefD := ⟨("law", none), "law", "law", defArgs (top 27), defBody (top 27), defScope (top 27), [], []⟩
def D_NoBoat_init : He.DefD := ⟨("NoBoat", some "__init__"), "__init__", "NoBoat.__init__", defArgs sInit_NoBoat, defBody sInit_NoBoat, defScope sInit_NoBoat, [], []⟩
def fn : List He.DefD := [D_as_standing, D_ends_of, D_part_of, D_is_let, D_with_more, D_gone, D_gone_all, D_went, D_paid_by, D__law_box, D__law_take, D__law_cells, D__law_same, D__law_heard, D__law_by_hand_right, D__law_right, D_law, D_NoBoat_init]
def fa : List He.Fa := [.glo "as_standing", .glo "ends_of", .glo "part_of", .glo "is_let", .glo "with_more", .glo "gone", .glo "gone_all", .glo "went", .glo "paid_by", .glo "_law_box", .glo "_law_take", .glo "_law_cells", .glo "_law_same", .glo "_law_heard", .glo "_law_by_hand_right", .glo "_law_right", .glo "law", .free "RuntimeError", .free "abs", .free "all", .free "bool", .free "enumerate", .free "int", .free "isinstance", .free "len", .free "list", .free "range", .free "str", .free "tuple", .free "zip"] ++ [.str "RED" "red", .str "BLUE" "blue", .glo "WATERS", .glo "NoBoat"]
def ex (K : PySem.W.Frag) : Bool := nbB K "NoBoat" "going" && (tupSB K "WATERS" ["red", "blue"] && (true))
abbrev R : PySem.W.OpenRow := PySem.W.OpenLaw.row PySem.Challenge.rw_crosslocks_k43_refusals_however_handed_i
abbrev hk : PySem.W.Hook := He.hookX 6 fa fn [] [] ex
def ob (s : PySem.W.SharedT) : He.AlX := He.obsX 6 fa fn [] [] ex (HandSHeadRun.getT s)
theorem ob_eq (s : PySem.W.SharedT) : ob s = hk.obs s.abs := He.obsX_eq (HandSHeadRun.getT_eq s)
def loose : List PySem.Str := ["as_standing", "ends_of", "part_of", "is_let", "with_more", "gone", "gone_all", "went", "in_all", "paid_by", "_law_box", "_law_take", "_law_cells", "_law_same", "_law_lists", "_law_heard", "_law_by_hand_right", "_law_right", "NoBoat", "RED", "BLUE", "WATERS"]
theorem run (w : World) : HandSHeadRun.RunEq R (PySem.W.view R.prog [27]) hk ob 3000 loose w := by
  intro os
  kernel_rfl
theorem env_of {K : PySem.W.Frag} {h : Heap} {mg : Str → Option Value} {w : World} (X : K.In h) (G : h.Ns mainGlobals mg) (c : He.SaysX fa fn [] [] ex w h K) : Env K mg := by
  have cd := c.t.d
  have hx := c.more
  unfold ex at hx
  obtain ⟨h_NoBoat, hx⟩ := He.ba hx
  obtain ⟨h_WATERS, hx⟩ := He.ba hx
  have e_as_standing := cd.def_ 0 (d := D_as_standing) rfl
  have e_ends_of := cd.def_ 1 (d := D_ends_of) rfl
  have e_part_of := cd.def_ 2 (d := D_part_of) rfl
  have e_is_let := cd.def_ 3 (d := D_is_let) rfl
  have e_with_more := cd.def_ 4 (d := D_with_more) rfl
  have e_gone := cd.def_ 5 (d := D_gone) rfl
  have e_gone_all := cd.def_ 6 (d := D_gone_all) rfl
  have e_went := cd.def_ 7 (d := D_went) rfl
  have e_paid_by := cd.def_ 8 (d := D_paid_by) rfl
  have e__law_box := cd.def_ 9 (d := D__law_box) rfl
  have e__law_take := cd.def_ 10 (d := D__law_take) rfl
  have e__law_cells := cd.def_ 11 (d := D__law_cells) rfl
  have e__law_same := cd.def_ 12 (d := D__law_same) rfl
  have e__law_heard := cd.def_ 13 (d := D__law_heard) rfl
  have e__law_by_hand_right := cd.def_ 14 (d := D__law_by_hand_right) rfl
  have e__law_right := cd.def_ 15 (d := D__law_right) rfl
  have e_law := cd.def_ 16 (d := D_law) rfl
  have e_NoBoat_init := cd.def_ 17 (d := D_NoBoat_init) rfl
  exact {
    t_as_standing := ⟨He.glo_ok X G (cd.fact 0 (f := .glo "as_standing") rfl), e_as_standing⟩
    t_ends_of := ⟨He.glo_ok X G (cd.fact 1 (f := .glo "ends_of") rfl), e_ends_of⟩
    t_part_of := ⟨He.glo_ok X G (cd.fact 2 (f := .glo "part_of") rfl), e_part_of⟩
    t_is_let := ⟨He.glo_ok X G (cd.fact 3 (f := .glo "is_let") rfl), e_is_let⟩
    t_with_more := ⟨He.glo_ok X G (cd.fact 4 (f := .glo "with_more") rfl), e_with_more⟩
    t_gone := ⟨He.glo_ok X G (cd.fact 5 (f := .glo "gone") rfl), e_gone⟩
    t_gone_all := ⟨He.glo_ok X G (cd.fact 6 (f := .glo "gone_all") rfl), e_gone_all⟩
    t_went := ⟨He.glo_ok X G (cd.fact 7 (f := .glo "went") rfl), e_went⟩
    t_paid_by := ⟨He.glo_ok X G (cd.fact 8 (f := .glo "paid_by") rfl), e_paid_by⟩
    t__law_box := ⟨He.glo_ok X G (cd.fact 9 (f := .glo "_law_box") rfl), e__law_box⟩
    t__law_take := ⟨He.glo_ok X G (cd.fact 10 (f := .glo "_law_take") rfl), e__law_take⟩
    t__law_cells := ⟨He.glo_ok X G (cd.fact 11 (f := .glo "_law_cells") rfl), e__law_cells⟩
    t__law_same := ⟨He.glo_ok X G (cd.fact 12 (f := .glo "_law_same") rfl), e__law_same⟩
    t__law_heard := ⟨He.glo_ok X G (cd.fact 13 (f := .glo "_law_heard") rfl), e__law_heard⟩
    t__law_by_hand_right := ⟨He.glo_ok X G (cd.fact 14 (f := .glo "_law_by_hand_right") rfl), e__law_by_hand_right⟩
    t__law_right := ⟨He.glo_ok X G (cd.fact 15 (f := .glo "_law_right") rfl), e__law_right⟩
    t_law := ⟨He.glo_ok X G (cd.fact 16 (f := .glo "law") rfl), e_law⟩
    n_RuntimeError := He.free_ok X G (cd.fact 17 (f := .free "RuntimeError") rfl)
    n_abs := He.free_ok X G (cd.fact 18 (f := .free "abs") rfl)
    n_all := He.free_ok X G (cd.fact 19 (f := .free "all") rfl)
    n_bool := He.free_ok X G (cd.fact 20 (f := .free "bool") rfl)
    n_enumerate := He.free_ok X G (cd.fact 21 (f := .free "enumerate") rfl)
    n_int := He.free_ok X G (cd.fact 22 (f := .free "int") rfl)
    n_isinstance := He.free_ok X G (cd.fact 23 (f := .free "isinstance") rfl)
    n_len := He.free_ok X G (cd.fact 24 (f := .free "len") rfl)
    n_list := He.free_ok X G (cd.fact 25 (f := .free "list") rfl)
    n_range := He.free_ok X G (cd.fact 26 (f := .free "range") rfl)
    n_str := He.free_ok X G (cd.fact 27 (f := .free "str") rfl)
    n_tuple := He.free_ok X G (cd.fact 28 (f := .free "tuple") rfl)
    n_zip := He.free_ok X G (cd.fact 29 (f := .free "zip") rfl)
    s_RED := He.str_ok X G (cd.fact 30 (f := .str "RED" "red") rfl)
    s_BLUE := He.str_ok X G (cd.fact 31 (f := .str "BLUE" "blue") rfl)
    m_WATERS := He.glo_ok X G (cd.fact 32 (f := .glo "WATERS") rfl)
    t_WATERS := tupSB_ok h_WATERS
    m_NoBoat := He.glo_ok X G (cd.fact 33 (f := .glo "NoBoat") rfl)
    c_NoBoat := nbB_ok h_NoBoat
    i_NoBoat := e_NoBoat_init }
/-- all is done, if the law's function answers True -/
theorem holds_of (hF : ∀ ns : List Int, ns.length ≤ 63 → (∀ z ∈ ns, Builtin.Int.intBits z ≤ 1048576) → ∃ S', F_law [.c 0] [.scr ns] = .ok (.t (.bool true)) S') : PySem.Challenge.rw_crosslocks_k43_refusals_however_handed_i.Holds := by
  w_on; o_law
  refine HandSHeadRun.head_any (r := PySem.W.OpenLaw.row PySem.Challenge.rw_crosslocks_k43_refusals_however_handed_i) (q := PySem.W.view (PySem.W.OpenLaw.row PySem.Challenge.rw_crosslocks_k43_refusals_however_handed_i).prog [27]) (H := hk) (ob := ob) (M := 3000) (loose := loose) (d := HandSHeadRun.topDef (PySem.W.OpenLaw.row PySem.Challenge.rw_crosslocks_k43_refusals_however_handed_i).prog 27) (kwd := []) ob_eq
    (by kernel_rfl) (fun s => by kernel_rfl) run (by kernel_rfl) (by kernel_rfl) (by kernel_rfl) (by rfl) (by first | assumption | decide +kernel) (by decide +kernel) ⟨rfl, rfl, rfl, rfl, rfl, by decide +kernel⟩ ?hw ?hc
  case hw => w_witness2
  case hc =>
    refine walk_den (l := PySem.Challenge.rw_crosslocks_k43_refusals_however_handed_i) (n := 63) (k := 11) (x := "script") rfl (by decide) (by kernel_rfl) ⟨rfl, by decide, by decide⟩ ?F
    intro w mg fa h Y G hmg0
    obtain ⟨K, KX, c⟩ := Y
    have hmg : mg ("law" : PySem.Str) = some (.ref fa) := by
      have e : (HandSHeadRun.topDef (PySem.W.OpenLaw.row PySem.Challenge.rw_crosslocks_k43_refusals_however_handed_i).prog 27).name = ("law" : PySem.Str) := by kernel_rfl
      rw [← e]
      exact hmg0
    have T := env_of KX G c
    have hm := T.t_law.1
    obtain ⟨fd2, F2⟩ := T.t_law.2
    have e9 := hmg.symm.trans hm
    cases e9
    have bb := FunD.bindsA (ps := ["script"]) F2 fun _ _ _ _ _ _ us hl => match us, hl with | [_], _ => rfl
    refine ⟨K, fd2, F_law, KX, fun s v => bb s [v] rfl, hF, fun base _ _ => ?_⟩
    obtain ⟨fd3, at3, _, _, _, G3⟩ := d_law (P := (PySem.Challenge.rw_crosslocks_k43_refusals_however_handed_i).prog) (wd := w) (base := base) T
    rw [FdAt.eq (fdAt_of F2) at3]
    exact G3
end K43

namespace K43
open PySem PySem.Spec PyProof.Rows L2 Dn
def okTrueHead (o : Out Wv) : Option Cell := match o with
  | .ok (.t (.bool true)) (c :: _) => some c
  | _ => none
/-- the gates of a row of locks -/
def gate (k : Nat) : D := .tuple [.int (k : Int), .int ((k : Int) + 1), .int (k : Int), .int ((k : Int) + 1)]
def gates (m : Nat) : D := .tuple ((List.range m).map gate)
def canal (m : Nat) : D := .tuple [.int ((m : Int) + 1), .int ((m : Int) + 1), gates m]
def lying (m : Nat) (X L : List D) : D := .tuple [.tuple (List.replicate (m + 1) (.int 0)), .tuple X, .tuple L]
def told (k : Nat) : D := .tuple [.int (k : Int), .str "red"]
abbrev noBoat (k : Nat) : List (Str × D) := [("going", told k)]
/-- what is shown of each: the first going is refused, whoever is asked -/
def Ref (m k : Nat) (L : List D) : Prop := ∀ (X : List D) (T : Store), F_gone [.t (canal m), .t (lying m X L), .t (.list [.int (k : Int), .str "red"])] T = .exc "NoBoat" (noBoat k) T ∧ F_gone [.t (canal m), .t (lying m X L), .t (told k)] T = .exc "NoBoat" (noBoat k) T
theorem ref_1_0_0 : Ref 1 0 [.int 0] := fun X T => ⟨by kernel_rfl, by kernel_rfl⟩
theorem ref_1_0_1 : Ref 1 0 [.int 1] := fun X T => ⟨by kernel_rfl, by kernel_rfl⟩
theorem ref_2_0_0 (x1 : D) : Ref 2 0 [.int 0, x1] := fun X T => ⟨by kernel_rfl, by kernel_rfl⟩
theorem ref_2_0_1 (x1 : D) : Ref 2 0 [.int 1, x1] := fun X T => ⟨by kernel_rfl, by kernel_rfl⟩
theorem ref_2_1_0 (x0 : D) : Ref 2 1 [x0, .int 0] := fun X T => ⟨by kernel_rfl, by kernel_rfl⟩
theorem ref_2_1_1 (x0 : D) : Ref 2 1 [x0, .int 1] := fun X T => ⟨by kernel_rfl, by kernel_rfl⟩
theorem ref_3_0_0 (x1 x2 : D) : Ref 3 0 [.int 0, x1, x2] := fun X T => ⟨by kernel_rfl, by kernel_rfl⟩
theorem ref_3_0_1 (x1 x2 : D) : Ref 3 0 [.int 1, x1, x2] := fun X T => ⟨by kernel_rfl, by kernel_rfl⟩
theorem ref_3_1_0 (x0 x2 : D) : Ref 3 1 [x0, .int 0, x2] := fun X T => ⟨by kernel_rfl, by kernel_rfl⟩
theorem ref_3_1_1 (x0 x2 : D) : Ref 3 1 [x0, .int 1, x2] := fun X T => ⟨by kernel_rfl, by kernel_rfl⟩
theorem ref_3_2_0 (x0 x1 : D) : Ref 3 2 [x0, x1, .int 0] := fun X T => ⟨by kernel_rfl, by kernel_rfl⟩
theorem ref_3_2_1 (x0 x1 : D) : Ref 3 2 [x0, x1, .int 1] := fun X T => ⟨by kernel_rfl, by kernel_rfl⟩
theorem ref_4_0_0 (x1 x2 x3 : D) : Ref 4 0 [.int 0, x1, x2, x3] := fun X T => ⟨by kernel_rfl, by kernel_rfl⟩
theorem ref_4_0_1 (x1 x2 x3 : D) : Ref 4 0 [.int 1, x1, x2, x3] := fun X T => ⟨by kernel_rfl, by kernel_rfl⟩
theorem ref_4_1_0 (x0 x2 x3 : D) : Ref 4 1 [x0, .int 0, x2, x3] := fun X T => ⟨by kernel_rfl, by kernel_rfl⟩
theorem ref_4_1_1 (x0 x2 x3 : D) : Ref 4 1 [x0, .int 1, x2, x3] := fun X T => ⟨by kernel_rfl, by kernel_rfl⟩
theorem ref_4_2_0 (x0 x1 x3 : D) : Ref 4 2 [x0, x1, .int 0, x3] := fun X T => ⟨by kernel_rfl, by kernel_rfl⟩
theorem ref_4_2_1 (x0 x1 x3 : D) : Ref 4 2 [x0, x1, .int 1, x3] := fun X T => ⟨by kernel_rfl, by kernel_rfl⟩
theorem ref_4_3_0 (x0 x1 x2 : D) : Ref 4 3 [x0, x1, x2, .int 0] := fun X T => ⟨by kernel_rfl, by kernel_rfl⟩
theorem ref_4_3_1 (x0 x1 x2 : D) : Ref 4 3 [x0, x1, x2, .int 1] := fun X T => ⟨by kernel_rfl, by kernel_rfl⟩
end K43

namespace K43
open PySem PySem.Spec PyProof.Rows L2 Dn
theorem tgSub_ok {f g : FE} {r : Wv} {δ : Dl} {S : Store} {k j : Nat} {i : Int} {ws : List Wv} (hf : f δ S = .ok (.c k) S) (hg : g δ S = .ok (.t (.int i)) S) (e : S[k]? = some (.lst ws)) (ej : ixN ws.length i = some j) :
    tgSub f g r δ S = .ok δ (S.set k (.lst (ws.set j r))) := by
  unfold tgSub
  rw [hf, bind_ok, hg, bind_ok]
  dsimp only
  rw [e]
  dsimp only
  rw [ej]
abbrev bx (a b c : Int) : Cell := .lst [.t (.int a), .t (.int b), .t (.int c)]
theorem fm {x m : Int} (h : 0 < m) : 0 ≤ x.fmod m ∧ x.fmod m < m := ⟨Int.fmod_nonneg_of_pos x h, Int.fmod_lt_of_pos x h⟩
theorem nab {x : Int} {a : Nat} (h : 0 ≤ x) (k : x < (2 : Int) ^ a) : x.natAbs < 2 ^ a := by
  have e : ((x.natAbs : Nat) : Int) = x := Int.natAbs_of_nonneg h
  have : ((x.natAbs : Nat) : Int) < ((2 ^ a : Nat) : Int) := by
    rw [e]
    exact_mod_cast k
  exact_mod_cast this
theorem take_ok {S : Store} {k : Nat} {b0 b1 b2 n : Int} (hk : S[k]? = some (bx b0 b1 b2)) (hn : 0 < n) (hn2 : n ≤ 1000) (h2 : 0 ≤ b2) (h3 : b2 ≤ 1000000) :
    ∃ v c0 c2, F__law_take [.c k, .t (.int n)] S = .ok (.t (.int v)) (S.set k (bx c0 b1 c2)) ∧ 0 ≤ v ∧ v < n ∧ 0 ≤ c2 ∧ c2 ≤ b2 + 1 := by
  have kl := (List.getElem?_eq_some_iff.mp hk).1
  have i0 : gIx (.c k) (.t (.int 0)) S = .ok (.t (.int b0)) S := ix_cell hk rfl
  have i2 : gIx (.c k) (.t (.int 2)) S = .ok (.t (.int b2)) S := ix_cell hk rfl
  have nlog : n ≠ 0 ∧ n.natAbs.log2 < 9000 := ⟨by omega, Nat.lt_of_lt_of_le (log_lt (nab (a := 10) (by omega) (by have : (2:Int)^10 = 1024 := by decide
                                                                                                                  omega)) (by decide)) (by decide)⟩
  show ∃ v c0 c2, (B__law_take [some (.c k), some (.t (.int n)), none, none] S).fin = _ ∧ _
  unfold B__law_take
  by_cases c : 0 < b0
  · have g1 : gDiv (.t (.int b0)) (.t (.int n)) S = .ok (.t (.int (b0.fdiv n))) S := ev_div nlog
    have g2 : gMod (.t (.int b0)) (.t (.int n)) S = .ok (.t (.int (b0.fmod n))) S := ev_mod nlog.1
    have t0 : tgSub (cVar 0) (cD (.int 0)) (.t (.int (b0.fdiv n))) [some (.c k), some (.t (.int n)), none, some (.t (.int (b0.fmod n)))] S = .ok [some (.c k), some (.t (.int n)), none, some (.t (.int (b0.fmod n)))] (S.set k (bx (b0.fdiv n) b1 b2)) := tgSub_ok (i := 0) (j := 0) rfl rfl hk rfl
    refine ⟨b0.fmod n, b0.fdiv n, b2, ?_, (fm hn).1, (fm hn).2, h2, by omega⟩
    simp [c, i0, g1, g2, t0]
  · let S1 := S.set k (bx b0 b1 (b2 + 1))
    have hk1 : S1[k]? = some (bx b0 b1 (b2 + 1)) := List.getElem?_set_self kl
    have j1 : gIx (.c k) (.t (.int 1)) S1 = .ok (.t (.int b1)) S1 := ix_cell hk1 rfl
    have j2 : gIx (.c k) (.t (.int 2)) S1 = .ok (.t (.int (b2 + 1))) S1 := ix_cell hk1 rfl
    have t0 : tgSub (cVar 0) (cD (.int 2)) (.t (.int (b2 + 1))) [some (.c k), some (.t (.int n)), none, none] S = .ok [some (.c k), some (.t (.int n)), none, none] S1 := tgSub_ok (i := 2) (j := 2) rfl rfl hk rfl
    have m20 : (b2 + 1).natAbs < 2 ^ 20 := nab (by omega) (by have : (2:Int)^20 = 1048576 := by decide
                                                              omega)
    have p61 : (2 : Int) ^ 61 = 2305843009213693952 := by decide
    let e1 := (b1 + 1442695040888963407 * (b2 + 1)).fmod 2305843009213693951
    have he1 := fm (x := b1 + 1442695040888963407 * (b2 + 1)) (m := 2305843009213693951) (by decide)
    let e2 := (e1 * e1 + 39373 * (b2 + 1) + 7).fmod 2305843009213693921
    have he2 := fm (x := e1 * e1 + 39373 * (b2 + 1) + 7) (m := 2305843009213693921) (by decide)
    let e3 := (e2 * (e2.fdiv 65536 + 3) + (b2 + 1)).fmod 2305843009213693907
    have g1 : gMul (.t (.int 1442695040888963407)) (.t (.int (b2 + 1))) S1 = .ok (.t (.int (1442695040888963407 * (b2 + 1)))) S1 := ev_mul (mul_small (a := 61) (b := 20) (by decide) m20 (by decide) (by decide) (by decide))
    have g2 : gMod (.t (.int (b1 + 1442695040888963407 * (b2 + 1)))) (.t (.int 2305843009213693951)) S1 = .ok (.t (.int e1)) S1 := ev_mod (by decide)
    have n1 : e1.natAbs < 2 ^ 61 := nab he1.1 (by rw [p61]; have := he1.2; show _ < _; omega)
    have n2 : e2.natAbs < 2 ^ 61 := nab he2.1 (by rw [p61]; have := he2.2; show _ < _; omega)
    have g3 : gMul (.t (.int e1)) (.t (.int e1)) S1 = .ok (.t (.int (e1 * e1))) S1 := ev_mul (mul_small (a := 61) (b := 61) n1 n1 (by decide) (by decide) (by decide))
    have g4 : gMul (.t (.int 39373)) (.t (.int (b2 + 1))) S1 = .ok (.t (.int (39373 * (b2 + 1)))) S1 := ev_mul (mul_small (a := 20) (b := 20) (by decide) m20 (by decide) (by decide) (by decide))
    have g5 : gMod (.t (.int (e1 * e1 + 39373 * (b2 + 1) + 7))) (.t (.int 2305843009213693921)) S1 = .ok (.t (.int e2)) S1 := ev_mod (by decide)
    have g6 : gDiv (.t (.int e2)) (.t (.int 65536)) S1 = .ok (.t (.int (e2.fdiv 65536))) S1 := ev_div ⟨by decide, by decide +kernel⟩
    have q0 : 0 ≤ e2.fdiv 65536 := Int.fdiv_nonneg he2.1 (by decide)
    have q1 : e2.fdiv 65536 ≤ e2 := by
      rw [Int.fdiv_eq_ediv_of_nonneg _ (by decide)]
      exact Int.ediv_le_self _ he2.1
    have n3 : (e2.fdiv 65536 + 3).natAbs < 2 ^ 62 := nab (by omega) (by have : (2:Int)^62 = 4611686018427387904 := by decide
                                                                        have := he2.2; have hh : e2 < 2305843009213693921 := he2.2; omega)
    have g7 : gMul (.t (.int e2)) (.t (.int (e2.fdiv 65536 + 3))) S1 = .ok (.t (.int (e2 * (e2.fdiv 65536 + 3)))) S1 := ev_mul (mul_small (a := 61) (b := 62) n2 n3 (by decide) (by decide) (by decide))
    have g8 : gMod (.t (.int (e2 * (e2.fdiv 65536 + 3) + (b2 + 1)))) (.t (.int 2305843009213693907)) S1 = .ok (.t (.int e3)) S1 := ev_mod (by decide)
    have g9 : gDiv (.t (.int e3)) (.t (.int 1048576)) S1 = .ok (.t (.int (e3.fdiv 1048576))) S1 := ev_div ⟨by decide, by decide +kernel⟩
    have g10 : gMod (.t (.int (e3.fdiv 1048576))) (.t (.int n)) S1 = .ok (.t (.int ((e3.fdiv 1048576).fmod n))) S1 := ev_mod nlog.1
    refine ⟨(e3.fdiv 1048576).fmod n, b0, b2 + 1, ?_, (fm hn).1, (fm hn).2, by omega, by omega⟩
    simp [c, i0, i2, t0, j1, j2, g1, g2, g3, g4, g5, g6, g7, g8, g9, g10]
    rfl
end K43

namespace K43
open PySem PySem.Spec PyProof.Rows L2 Dn
theorem loopS_inv {its : List Wv} {tg : FG} {body : FS} {P : Nat → Dl → Store → Prop} : ∀ (items : List Wv) (n : Nat) (δ : Dl) (S : Store), P n δ S →
    (∀ j r δ S, items[j]? = some r → P (n + j) δ S → ∃ δ1 δ2 S1 S2, tg r δ S = .ok δ1 S1 ∧ body δ1 S1 = .nx δ2 S2 ∧ P (n + j + 1) δ2 S2) →
    ∃ δ' S', loopS ⟨its, []⟩ tg body items δ S = .nx δ' S' ∧ P (n + items.length) δ' S'
  | [], n, δ, S, p, _ => ⟨δ, S, by unfold loopS; rw [still_nil, if_pos rfl], p⟩
  | r :: rs, n, δ, S, p, h => by
    obtain ⟨δ1, δ2, S1, S2, h1, h2, h3⟩ := h 0 r δ S rfl p
    obtain ⟨δ', S', q1, q2⟩ := loopS_inv (its := its) rs (n + 1) δ2 S2 h3 fun j x δ S e p => by
      have z := h (j + 1) x δ S (by simpa using e) (by rw [show n + (j + 1) = n + 1 + j by omega]; exact p)
      rw [show n + (j + 1) + 1 = n + 1 + j + 1 by omega] at z
      exact z
    refine ⟨δ', S', ?_, by rw [List.length_cons, show n + (rs.length + 1) = n + 1 + rs.length by omega]; exact q2⟩
    unfold loopS
    rw [still_nil, if_pos rfl, h1]
    dsimp only
    rw [h2]
    exact q1
/-! ### box -/
theorem box_ok {T : Store} {i : Nat} {cs : List Int} {k : Nat} {c : Int} (hT : T[i]? = some (.lst (scrW cs))) (hc : cs[k]? = some c) (hb : c.natAbs < 2 ^ 2000000) (hk : k < 1000) :
    ∃ a b, F__law_box [.c i, .t (.int (k : Int))] T = .ok (.c T.length) (T ++ [bx a b 0]) := by
  have e0 : atI (scrW cs) (k : Int) = some (.t (.int c)) := atI_nat (by unfold scrW; rw [List.getElem?_map, hc]; rfl)
  have i0 : gIx (.c i) (.t (.int (k : Int))) T = .ok (.t (.int c)) T := ix_cell hT e0
  have g1 : gAbs [.t (.int c)] T = .ok (.t (.int (if c < 0 then -c else c))) T := rfl
  have g2 : gPow (.t (.int 10)) (.t (.int 18)) T = .ok (.t (.int (10 ^ 18))) T := rfl
  have g3 : gGe (.t (.int (if c < 0 then -c else c))) (.t (.int (10 ^ 18))) T = .ok (.t (.bool (decide ((10 ^ 18 : Int) ≤ (if c < 0 then -c else c))))) T := rfl
  generalize hb2 : decide ((10 ^ 18 : Int) ≤ (if c < 0 then -c else c)) = bb at g3
  have g4 : gInt [.t (.bool bb)] T = .ok (.t (.int (if bb then 1 else 0))) T := rfl
  have na : (if c < 0 then -c else c).natAbs < 2 ^ 2000000 := by
    split
    · rw [Int.natAbs_neg]; exact hb
    · exact hb
  have g5 : gMul (.t (.int (if c < 0 then -c else c))) (.t (.int (if bb then 1 else 0))) T = .ok (.t (.int ((if c < 0 then -c else c) * (if bb then 1 else 0)))) T :=
    ev_mul (mul_small (a := 2000000) (b := 2) na (by cases bb <;> decide) (by decide) (by decide) (by decide))
  have g6 : gMod (.t (.int c)) (.t (.int 2305843009213693951)) T = .ok (.t (.int (c.fmod 2305843009213693951))) T := ev_mod (by decide)
  have g7 : gMul (.t (.int 15485863)) (.t (.int (k : Int))) T = .ok (.t (.int (15485863 * (k : Int)))) T :=
    ev_mul (mul_small (a := 30) (b := 10) (by decide) (by have : (2:Nat)^10 = 1024 := by decide
                                                          rw [this]; omega) (by decide) (by decide) (by decide))
  refine ⟨(if c < 0 then -c else c) * (if bb then 1 else 0), c.fmod 2305843009213693951 + 15485863 * (k : Int) + 11, ?_⟩
  show (B__law_box [some (.c i), some (.t (.int (k : Int))), none] T).fin = _
  unfold B__law_box
  simp only [ev_seq, ev_sSet, ev_ix, ev_var0, ev_varS, bind_ok, then_ok, i0, List.set, ev_sRet, ev_cA, ev_aCons, ev_c2, ev_aNil, g1, ev_D, g2, g3, g4, g5, g6, g7, ev_add]
  rfl
/-! ### whoever is asked is refused -/
def rowD (k : Nat) (R2 : D) : D := .list [.list [.int (k : Int), .str "red"], R2]
end K43

namespace K43
open PySem PySem.Spec PyProof.Rows L2 Dn
theorem as_ok (m : Nat) (X L : List D) (T : Store) : F_as_standing [.t (lying m X L)] T = .ok (.t (lying m X L)) T := by
  unfold lying
  generalize List.replicate (m + 1) (PyData.int 0) = Z
  rfl
theorem all_ok {m k : Nat} {L : List D} (h : Ref m k L) (X : List D) (R2 : D) (T : Store) : F_gone_all [.t (canal m), .t (lying m X L), .t (rowD k R2)] T = .exc "NoBoat" (noBoat k) T := by
  have g := (h X T).1
  have a := as_ok m X L T
  show (B_gone_all [some (.t (canal m)), some (.t (lying m X L)), some (.t (rowD k R2)), none, none] T).fin = _
  generalize lying m X L = Y at a g
  generalize canal m = Z at g
  unfold B_gone_all rowD
  simp [a, srcOf, loopS, still_nil, g]
theorem pre_set {T T' : Store} {c : Cell} (h : T <+: T') : T <+: T'.set T.length c := by
  obtain ⟨G, rfl⟩ := h
  exact ⟨G.set 0 c, by rw [List.set_append_right _ _ (Nat.le_refl _), Nat.sub_self]⟩
theorem pre_app {T T' : Store} {G : Store} (h : T <+: T') : T <+: T' ++ G := h.trans (List.prefix_append _ _)
theorem gates_len (m : Nat) : ((List.range m).map gate).length = m := by rw [List.length_map, List.length_range]
theorem len_gates (m : Nat) (T : Store) : gLen [.t (gates m)] T = .ok (.t (.int (m : Int))) T := by
  show okI (((List.range m).map gate).map Wv.t).length T = _
  rw [List.length_map, gates_len]
  rfl
theorem zeros_ok {m : Nat} (hm : m < 1000) (l : Dl) (T1 : Store) : c2 gMulC (cA Dn.gLst (aCons (cD (.int 0)) aNil)) (cA gLen (aCons (cIx (cVar 0) (cD (.int 2))) aNil)) (some (.t (canal m)) :: l) T1 = .ok (.c T1.length) (T1 ++ [.lst (List.replicate m [Wv.t (.int 0)]).flatten]) := by
  have s1 : cA Dn.gLst (aCons (cD (.int 0)) aNil) (some (.t (canal m)) :: l) T1 = .ok (.t (.list [.int 0])) T1 := rfl
  have s2 : cA gLen (aCons (cIx (cVar 0) (cD (.int 2))) aNil) (some (.t (canal m)) :: l) T1 = .ok (.t (.int (m : Int))) T1 := len_gates m T1
  have g : gMulC (.t (.list [.int 0])) (.t (.int (m : Int))) T1 = .ok (.c T1.length) (T1 ++ [.lst (List.replicate m [Wv.t (.int 0)]).flatten]) := by
    show (if 1 * (m : Int).toNat < LIM ∧ -1000000 < (m : Int) ∧ (m : Int) < 1000000 then Out.ok (Wv.c T1.length) (T1 ++ [.lst (List.replicate (m : Int).toNat [Wv.t (.int 0)]).flatten]) else .stuck) = _
    rw [if_pos ⟨by rw [Int.toNat_natCast]; unfold LIM; omega, by omega, by omega⟩, Int.toNat_natCast]
  rw [ev_c2, s1, bind_ok, s2, bind_ok]
  exact g
theorem went_ok {m k : Nat} {L : List D} (hm : m < 1000) (h : Ref m k L) (X : List D) (R2 : D) (T : Store) : ∃ G, F_went [.t (canal m), .t (lying m X L), .t (rowD k R2)] T = .exc "NoBoat" (noBoat k) (T ++ G) := by
  have a := as_ok m X L T
  have comp := comp_inv (it := fSeq (cD (.tuple ((["red", "blue"] : List Str).map PyData.str)))) (vs := [6]) (tg := tgName 6) (elt := c2 gMulC (cA Dn.gLst (aCons (cD (.int 0)) aNil)) (cA gLen (aCons (cIx (cVar 0) (cD (.int 2))) aNil)))
    (δ := [some (.t (canal m)), some (.t (lying m X L)), some (.t (rowD k R2)), none, none, none, none, none]) (S := T) (S1 := T) (items := [.t (.str "red"), .t (.str "blue")]) (P := fun _ T' => T <+: T') (V := fun _ => True) rfl (by decide) (List.prefix_append _ _)
    (fun n r T1 acc hn hr p e => ⟨_, .c T1.length, T1 ++ [Cell.lst (List.replicate m [Wv.t (.int 0)]).flatten], rfl, zeros_ok hm [some (.t (lying m X L)), some (.t (rowD k R2)), none, none, none, some r, none] T1, trivial, by
      rw [List.getElem?_append_left (List.getElem?_eq_some_iff.mp e).1]
      exact e, pre_set (pre_app p)⟩)
  obtain ⟨ys, T', q1, q2, q3, q4, G, rfl⟩ := comp
  refine ⟨G, ?_⟩
  have g := (h X (T ++ G)).2
  show (B_went [some (.t (canal m)), some (.t (lying m X L)), some (.t (rowD k R2)), none, none, none, none, none] T).fin = _
  unfold B_went
  generalize lying m X L = Y at *
  generalize canal m = Z at *
  have p1 : sPar 3 4 (aCons (cCall 1 F_as_standing (aCons (cVar 1) aNil)) (aCons (cCompC (fSeq (cD (.tuple ((["red", "blue"] : List Str).map PyData.str)))) [6] (tgName 6) fYes (c2 gMulC (cA Dn.gLst (aCons (cD (.int 0)) aNil)) (cA gLen (aCons (cIx (cVar 0) (cD (.int 2))) aNil)))) aNil))
      [some (.t Z), some (.t Y), some (.t (rowD k R2)), none, none, none, none, none] T = .nx [some (.t Z), some (.t Y), some (.t (rowD k R2)), some (.t Y), some (.c T.length), none, none, none] (T ++ G) := by
    unfold sPar
    simp only [ev_aCons, ev_call, ev_varS, ev_var0, ev_aNil, bind_ok, List.length_cons, List.length_nil, if_true, a, q1, then_ok, List.set]
  rw [ev_seq, p1]
  dsimp only
  have p2 : (sFor (fSeq (cVar 2)) (tgTup 2 (tgsCons (tgName 5) (tgsCons (tgName 6) tgsNil))) (sSeq (sSet 7 (cCall 3 F_gone (aCons (cVar 0) (aCons (cVar 3) (aCons (cA gTup (aCons (cVar 5) (aCons (cVar 6) aNil))) aNil))))) (sSeq (sAugS (cIx (cVar 4) (cCall 1 F_part_of (aCons (cVar 6) aNil))) (cVar 5) (fun i j => i + j) (c2 gSub (cIx (cIx (cVar 7) (cD (.int 2))) (cVar 5)) (cIx (cIx (cVar 3) (cD (.int 2))) (cVar 5)))) (sSet 3 (cVar 7)))))
      [some (.t Z), some (.t Y), some (.t (rowD k R2)), some (.t Y), some (.c T.length), none, none, none] (T ++ G) = .exc "NoBoat" (noBoat k) [some (.t Z), some (.t Y), some (.t (rowD k R2)), some (.t Y), some (.c T.length), some (.t (.int (k : Int))), some (.t (.str "red")), none] (T ++ G) := by
    have u : tgTup 2 (tgsCons (tgName 5) (tgsCons (tgName 6) tgsNil)) (.t (.list [.int (k : Int), .str "red"])) [some (.t Z), some (.t Y), some (.t (rowD k R2)), some (.t Y), some (.c T.length), none, none, none] (T ++ G) = .ok [some (.t Z), some (.t Y), some (.t (rowD k R2)), some (.t Y), some (.c T.length), some (.t (.int (k : Int))), some (.t (.str "red")), none] (T ++ G) := rfl
    have t : cA gTup (aCons (cVar 5) (aCons (cVar 6) aNil)) [some (.t Z), some (.t Y), some (.t (rowD k R2)), some (.t Y), some (.c T.length), some (.t (.int (k : Int))), some (.t (.str "red")), none] (T ++ G) = .ok (.t (told k)) (T ++ G) := rfl
    have w : fSeq (cVar 2) [some (.t Z), some (.t Y), some (.t (rowD k R2)), some (.t Y), some (.c T.length), none, none, none] (T ++ G) = .ok ⟨[.t (.list [.int (k : Int), .str "red"]), .t R2], []⟩ (T ++ G) := rfl
    rw [ev_sFor, w, then_ok]
    dsimp only
    unfold loopS
    rw [still_nil, if_pos rfl, u]
    dsimp only
    simp only [ev_seq, ev_sSet, ev_call, ev_aCons, ev_var0, ev_varS, t, bind_ok, ev_aNil, List.length_cons, List.length_nil, if_true, g, then_exc]
  rw [ev_seq, p2]
  rfl
theorem paid_ok {m k : Nat} {L : List D} (hm : m < 1000) (h : Ref m k L) (X : List D) (R2 Y : D) (T : Store) : ∃ G, F_paid_by [.t (canal m), .t Y, .t (lying m X L), .t (rowD k R2)] T = .exc "NoBoat" (noBoat k) (T ++ G) := by
  obtain ⟨G, g⟩ := went_ok hm h X R2 T
  refine ⟨G, ?_⟩
  show (B_paid_by [some (.t (canal m)), some (.t Y), some (.t (lying m X L)), some (.t (rowD k R2)), none, none] T).fin = _
  unfold B_paid_by
  generalize lying m X L = Q at *
  generalize canal m = Z at *
  simp only [ev_seq, ev_sAsg, ev_call, ev_aCons, ev_var0, ev_varS, bind_ok, ev_aNil, List.length_cons, List.length_nil, if_true, g, then_exc, fin_exc]
end K43

namespace K43
open PySem PySem.Spec PyProof.Rows L2 Dn
def answer (k : Nat) : D := .list [.str "no boat", told k, .bool true]
theorem exF_app {U : Store} {k : Nat} : gExF "NoBoat" "going" (.c U.length) (U ++ [Cell.exn "NoBoat" (noBoat k)]) = .ok (.t (told k)) (U ++ [Cell.exn "NoBoat" (noBoat k)]) := by
  unfold gExF
  dsimp only
  rw [app_at]
  dsimp only
  rw [if_pos rfl]
  rfl
theorem isEx_app {U : Store} {k : Nat} : gIsEx "NoBoat" true (.c U.length) (U ++ [Cell.exn "NoBoat" (noBoat k)]) = .ok (.t (.bool true)) (U ++ [Cell.exn "NoBoat" (noBoat k)]) := by
  unfold gIsEx
  dsimp only
  rw [app_at]
  dsimp only
  rw [if_pos rfl]
  rfl
/-- behind the try -/
theorem heard_end {a0 a1 a2 a3 a4 a6 : Option Wv} {U : Store} {k : Nat} : sRet (cIf (fB (c2 gIsN (cVar 7) (cD .none))) (cVar 6) (cA Dn.gLst (aCons (cD (.str "no boat")) (aCons (c1 (gExF "NoBoat" "going") (cVar 7)) (aCons (c1 (gIsEx "NoBoat" true) (cVar 7)) aNil)))))
    [a0, a1, a2, a3, a4, none, a6, some (.c U.length)] (U ++ [Cell.exn "NoBoat" (noBoat k)]) = .rt (.t (answer k)) (U ++ [Cell.exn "NoBoat" (noBoat k)]) := by
  have n : gIsN (.c U.length) (.t .none) (U ++ [Cell.exn "NoBoat" (noBoat k)]) = .ok (.t (.bool false)) (U ++ [Cell.exn "NoBoat" (noBoat k)]) := rfl
  simp only [ev_sRet, ev_if, ev_fB, ev_c2, ev_varS, ev_var0, bind_ok, ev_D, n, ev_bool, Bool.false_eq_true, if_false, ev_cA, ev_aCons, ev_c1, exF_app, isEx_app, ev_aNil]
  rfl
theorem try_end {body : FS} {a0 a1 a2 a3 a4 a6 a7 : Option Wv} {T U : Store} {k : Nat} (h : body [a0, a1, a2, a3, a4, none, a6, a7] T = .exc "NoBoat" (noBoat k) [a0, a1, a2, a3, a4, none, a6, a7] U) :
    sTry body (fun C => if C = "NoBoat" then some true else none) 5 (sSet 7 (cVar 5)) [a0, a1, a2, a3, a4, none, a6, a7] T = .nx [a0, a1, a2, a3, a4, none, a6, some (.c U.length)] (U ++ [Cell.exn "NoBoat" (noBoat k)]) := by
  unfold sTry
  rw [h]
  dsimp only
  rw [if_pos rfl]
  rfl
theorem heard_ok {m k : Nat} {L : List D} (hm : m < 1000) (h : Ref m k L) (X : List D) (R2 : D) (d : Nat) (hd : d < 4) (T : Store) :
    F__law_heard [.t (.int (d : Int)), .t (canal m), .t (lying m X L), .t (rowD k R2)] T = .ok (.t (answer k)) T := by
  have tl : c2 gMul (cA Dn.gLst (aCons (cA gTup (aCons (cD (.int 1)) (aCons (cD (.int 2)) aNil))) aNil)) (cA gLen (aCons (cIx (cVar 1) (cD (.int 2))) aNil))
      [some (.t (.int (d : Int))), some (.t (canal m)), some (.t (lying m X L)), some (.t (rowD k R2)), none, none, some (.t .none), some (.t .none)] T = .ok (.t (.list (List.replicate m [PyData.tuple [.int 1, .int 2]]).flatten)) T := by
    have s1 : ∀ δ, cA Dn.gLst (aCons (cA gTup (aCons (cD (.int 1)) (aCons (cD (.int 2)) aNil))) aNil) δ T = .ok (.t (.list [.tuple [.int 1, .int 2]])) T := fun δ => rfl
    have s2 : cA gLen (aCons (cIx (cVar 1) (cD (.int 2))) aNil) [some (.t (.int (d : Int))), some (.t (canal m)), some (.t (lying m X L)), some (.t (rowD k R2)), none, none, some (.t .none), some (.t .none)] T = .ok (.t (.int (m : Int))) T := len_gates m T
    have g : gMul (.t (.list [.tuple [.int 1, .int 2]])) (.t (.int (m : Int))) T = .ok (.t (.list (List.replicate m [PyData.tuple [.int 1, .int 2]]).flatten)) T := by
      show (if 1 * (m : Int).toNat < LIM ∧ -1000000 < (m : Int) ∧ (m : Int) < 1000000 then Out.ok (Wv.t (.list (List.replicate (m : Int).toNat [PyData.tuple [.int 1, .int 2]]).flatten)) T else .stuck) = _
      rw [if_pos ⟨by rw [Int.toNat_natCast]; unfold LIM; omega, by omega, by omega⟩, Int.toNat_natCast]
    rw [ev_c2, s1, bind_ok, s2, bind_ok]
    exact g
  generalize (List.replicate m [PyData.tuple [.int 1, .int 2]]).flatten = TL at tl
  have st : ∃ G, (sIf (fB (c2 gLt (cVar 0) (cD (.int 2)))) (sSet 6 (cIf (fB (c2 gEq (cVar 0) (cD (.int 0)))) (cCall 3 F_gone (aCons (cVar 1) (aCons (cVar 2) (aCons (cIx (cVar 3) (cD (.int 0))) aNil)))) (cCall 3 F_gone_all (aCons (cVar 1) (aCons (cVar 2) (aCons (cVar 3) aNil)))))) (sSet 6 (cIf (fB (c2 gEq (cVar 0) (cD (.int 2)))) (cCall 3 F_went (aCons (cVar 1) (aCons (cVar 2) (aCons (cVar 3) aNil)))) (cCall 4 F_paid_by (aCons (cVar 1) (aCons (cVar 4) (aCons (cVar 2) (aCons (cVar 3) aNil))))))))
      [some (.t (.int (d : Int))), some (.t (canal m)), some (.t (lying m X L)), some (.t (rowD k R2)), some (.t (.list TL)), none, some (.t .none), some (.t .none)] T = .exc "NoBoat" (noBoat k) [some (.t (.int (d : Int))), some (.t (canal m)), some (.t (lying m X L)), some (.t (rowD k R2)), some (.t (.list TL)), none, some (.t .none), some (.t .none)] (T ++ G) := by
    have g0 := (h X T).1
    have g1 := all_ok h X R2 T
    obtain ⟨G2, g2⟩ := went_ok hm h X R2 T
    obtain ⟨G3, g3⟩ := paid_ok hm h X R2 (.list TL) T
    have e0 : gIx (.t (rowD k R2)) (.t (.int 0)) T = .ok (.t (.list [.int (k : Int), .str "red"])) T := rfl
    generalize lying m X L = Y at *
    generalize canal m = Z at *
    have d4 : d = 0 ∨ d = 1 ∨ d = 2 ∨ d = 3 := by omega
    rcases d4 with rfl | rfl | rfl | rfl
    · refine ⟨[], ?_⟩
      rw [List.append_nil]
      have t1 : fB (c2 gLt (cVar 0) (cD (.int 2))) [some (.t (.int ((0 : Nat) : Int))), some (.t Z), some (.t Y), some (.t (rowD k R2)), some (.t (.list TL)), none, some (.t .none), some (.t .none)] T = .ok true T := rfl
      have t2 : fB (c2 gEq (cVar 0) (cD (.int 0))) [some (.t (.int ((0 : Nat) : Int))), some (.t Z), some (.t Y), some (.t (rowD k R2)), some (.t (.list TL)), none, some (.t .none), some (.t .none)] T = .ok true T := rfl
      simp only [ev_sIf, t1, then_ok, if_true, ev_sSet, ev_if, t2, bind_ok, ev_call, ev_aCons, ev_varS, ev_var0, ev_ix, ev_D, e0, ev_aNil, List.length_cons, List.length_nil, g0, then_exc]
    · refine ⟨[], ?_⟩
      rw [List.append_nil]
      have t1 : fB (c2 gLt (cVar 0) (cD (.int 2))) [some (.t (.int ((1 : Nat) : Int))), some (.t Z), some (.t Y), some (.t (rowD k R2)), some (.t (.list TL)), none, some (.t .none), some (.t .none)] T = .ok true T := rfl
      have t2 : fB (c2 gEq (cVar 0) (cD (.int 0))) [some (.t (.int ((1 : Nat) : Int))), some (.t Z), some (.t Y), some (.t (rowD k R2)), some (.t (.list TL)), none, some (.t .none), some (.t .none)] T = .ok false T := rfl
      simp only [ev_sIf, t1, then_ok, if_true, ev_sSet, ev_if, t2, bind_ok, Bool.false_eq_true, if_false, ev_call, ev_aCons, ev_varS, ev_var0, ev_ix, ev_D, e0, ev_aNil, List.length_cons, List.length_nil, g1, then_exc]
    · refine ⟨G2, ?_⟩
      have t1 : fB (c2 gLt (cVar 0) (cD (.int 2))) [some (.t (.int ((2 : Nat) : Int))), some (.t Z), some (.t Y), some (.t (rowD k R2)), some (.t (.list TL)), none, some (.t .none), some (.t .none)] T = .ok false T := rfl
      have t2 : fB (c2 gEq (cVar 0) (cD (.int 2))) [some (.t (.int ((2 : Nat) : Int))), some (.t Z), some (.t Y), some (.t (rowD k R2)), some (.t (.list TL)), none, some (.t .none), some (.t .none)] T = .ok true T := rfl
      simp only [ev_sIf, t1, then_ok, if_true, ev_sSet, ev_if, t2, bind_ok, Bool.false_eq_true, if_false, ev_call, ev_aCons, ev_varS, ev_var0, ev_ix, ev_D, e0, ev_aNil, List.length_cons, List.length_nil, g2, then_exc]
    · refine ⟨G3, ?_⟩
      have t1 : fB (c2 gLt (cVar 0) (cD (.int 2))) [some (.t (.int ((3 : Nat) : Int))), some (.t Z), some (.t Y), some (.t (rowD k R2)), some (.t (.list TL)), none, some (.t .none), some (.t .none)] T = .ok false T := rfl
      have t2 : fB (c2 gEq (cVar 0) (cD (.int 2))) [some (.t (.int ((3 : Nat) : Int))), some (.t Z), some (.t Y), some (.t (rowD k R2)), some (.t (.list TL)), none, some (.t .none), some (.t .none)] T = .ok false T := rfl
      simp only [ev_sIf, t1, then_ok, if_true, ev_sSet, ev_if, t2, bind_ok, Bool.false_eq_true, if_false, ev_call, ev_aCons, ev_varS, ev_var0, ev_ix, ev_D, e0, ev_aNil, List.length_cons, List.length_nil, g3, then_exc]
  obtain ⟨G, st⟩ := st
  have tr := try_end st
  show ((B__law_heard [some (.t (.int (d : Int))), some (.t (canal m)), some (.t (lying m X L)), some (.t (rowD k R2)), none, none, none, none] T).fin).cut T = _
  unfold B__law_heard
  have f1 : sAsg (cA gTup (aCons (cD .none) (aCons (cD .none) aNil))) (tgTup 2 (tgsCons (tgName 6) (tgsCons (tgName 7) tgsNil))) [some (.t (.int (d : Int))), some (.t (canal m)), some (.t (lying m X L)), some (.t (rowD k R2)), none, none, none, none] T
    = .nx [some (.t (.int (d : Int))), some (.t (canal m)), some (.t (lying m X L)), some (.t (rowD k R2)), none, none, some (.t .none), some (.t .none)] T := rfl
  rw [ev_seq, f1]
  dsimp only
  rw [ev_seq, ev_sSet, tl, then_ok]
  dsimp only [List.set]
  rw [ev_seq, tr]
  dsimp only
  rw [heard_end, fin_rt]
  rw [show (T ++ G) ++ [Cell.exn "NoBoat" (noBoat k)] = T ++ (G ++ [Cell.exn "NoBoat" (noBoat k)]) from List.append_assoc _ _ _]
  exact cut_ok
end K43

namespace K43
open PySem PySem.Spec PyProof.Rows L2 Dn
theorem eqv_int (i : Int) : PyData.eqv (.int i) (.int i) = true := by unfold PyData.eqv; exact beq_self_eq_true i
theorem ne_int (i : Int) (S : Store) : gNe (.t (.int i)) (.t (.int i)) S = .ok (.t (.bool false)) S := by
  show (if SeqAt.shaped (.int i) = true ∧ SeqAt.shaped (.int i) = true then okB (!PyData.eqv (.int i) (.int i)) S else .stuck) = _
  rw [if_pos ⟨rfl, rfl⟩, eqv_int]
  rfl
theorem eq_int (i : Int) (S : Store) : gEq (.t (.int i)) (.t (.int i)) S = .ok (.t (.bool true)) S := by
  show (if SeqAt.shaped (.int i) = true ∧ SeqAt.shaped (.int i) = true then okB (PyData.eqv (.int i) (.int i)) S else .stuck) = _
  rw [if_pos ⟨rfl, rfl⟩, eqv_int]
  rfl
/-- trees that _law_same goes through with n levels -/
def good : Nat → D → Bool
  | 0, _ => false
  | _ + 1, .int _ => true
  | _ + 1, .bool _ => true
  | n + 1, .list ds => ds.all (good n) && decide (ds.length < LIM)
  | n + 1, .tuple ds => ds.all (good n) && decide (ds.length < LIM)
  | _ + 1, .str s => decide (s = "no boat" ∨ s = "red")
  | _ + 1, _ => false
theorem zip_items (ds : List D) : ∀ r ∈ zipD ds ds, ∃ d ∈ ds, r = .t (.tuple [d, d]) := by
  intro r hr
  obtain ⟨i, hi⟩ := List.mem_iff_getElem?.mp hr
  rw [zipD_at] at hi
  split at hi
  · rename_i d e h1 h2
    rw [h1] at h2
    cases h2
    cases hi
    exact ⟨d, List.mem_of_getElem? h1, rfl⟩
  · cases hi
theorem all_true_map {α : Type} : ∀ l : List α, boolsOf (l.map fun _ => Wv.t (.bool true)) = some (l.map fun _ => true)
  | [] => rfl
  | _ :: l => by
    show (boolsOf (l.map fun _ => Wv.t (.bool true))).map (true :: ·) = _
    rw [all_true_map l]
    rfl
theorem all_of_true {α : Type} (l : List α) : (l.map fun _ => true).all id = true := by
  induction l with
  | nil => rfl
  | cons _ l ih => simpa using ih
/-- the comprehension of two like sequences -/
theorem same_comp {self : FC} {x : D} {ds : List D} (hz : ∀ T, gZip [.t x, .t x] T = .ok ⟨zipD ds ds, []⟩ T) (hl : ds.length < LIM) (hs : ∀ d ∈ ds, ∀ T, self [.t d, .t d] T = .ok (.t (.bool true)) T) (T : Store) :
    cA gAll (aCons (cCompC (fA gZip (aCons (cVar 0) (aCons (cVar 1) aNil))) [2, 3] (tgTup 2 (tgsCons (tgName 2) (tgsCons (tgName 3) tgsNil))) fYes (cCall 2 self (aCons (cVar 2) (aCons (cVar 3) aNil)))) aNil) [some (.t x), some (.t x), none, none] T
      = .ok (.t (.bool true)) (T ++ [.lst ((zipD ds ds).map fun _ => .t (.bool true))]) := by
  have c := comp_pure (it := fA gZip (aCons (cVar 0) (aCons (cVar 1) aNil))) (vs := [2, 3]) (tg := tgTup 2 (tgsCons (tgName 2) (tgsCons (tgName 3) tgsNil))) (elt := cCall 2 self (aCons (cVar 2) (aCons (cVar 3) aNil)))
    (δ := [some (.t x), some (.t x), none, none]) (S := T) (S1 := T) (items := zipD ds ds) (fun _ => .t (.bool true)) (hz T) (by rw [zipD_len, Nat.min_self]; exact hl) fun r hr U => by
      obtain ⟨d, hd, rfl⟩ := zip_items ds r hr
      refine ⟨[some (.t x), some (.t x), some (.t d), some (.t d)], rfl, ?_⟩
      have h := hs d hd U
      simp only [ev_call, ev_aCons, ev_varS, ev_var0, bind_ok, ev_aNil, List.length_cons, List.length_nil, if_true, h]
  have g : gAll [.c T.length] (T ++ [.lst ((zipD ds ds).map fun _ => .t (.bool true))]) = .ok (.t (.bool true)) (T ++ [.lst ((zipD ds ds).map fun _ => .t (.bool true))]) := by
    unfold gAll
    dsimp only
    rw [seqL_app]
    dsimp only
    rw [all_true_map]
    dsimp only
    rw [all_of_true]
    rfl
  simp only [ev_cA, ev_aCons, c, bind_ok, ev_aNil, g]
theorem same_refl : ∀ (n : Nat) (d : D), good n d = true → ∀ T, F__law_same n [.t d, .t d] T = .ok (.t (.bool true)) T
  | 0, _, h, _ => by cases h
  | n + 1, .none, h, _ => by cases h
  | n + 1, .dict _, h, _ => by cases h
  | n + 1, .int i, _, T => by
    show ((B__law_same (F__law_same n) [some (.t (.int i)), some (.t (.int i)), none, none] T).fin).cut T = _
    unfold B__law_same
    have e := eq_int i T
    have c1 : fB (c1 (gIsi [.lst, .tup]) (cVar 1)) [some (.t (.int i)), some (.t (.int i)), none, none] T = .ok false T := rfl
    have c2 : fOr (fB (c2 gIsN (cVar 1) (cD .none))) (fB (Dn.c1 (gIsi [.bl, .str]) (cVar 1))) [some (.t (.int i)), some (.t (.int i)), none, none] T = .ok false T := rfl
    have c3 : gIsi [.int] (.t (.int i)) T = .ok (.t (.bool true)) T := rfl
    have c4 : gIsi [.bl] (.t (.int i)) T = .ok (.t (.bool false)) T := rfl
    rw [ev_seq, ev_sIf, c1, then_ok]
    simp only [Bool.false_eq_true, if_false, ev_sNil]
    rw [ev_seq, ev_sIf, c2, then_ok]
    simp only [Bool.false_eq_true, if_false, ev_sNil, ev_sRet]
    have z : cAnd (Dn.c1 (gIsi [.int]) (cVar 0)) (cAnd (cNot (Dn.c1 (gIsi [.bl]) (cVar 0))) (Dn.c2 gEq (cVar 0) (cVar 1))) [some (.t (.int i)), some (.t (.int i)), none, none] T = .ok (.t (.bool true)) T := by
      unfold cAnd cNot
      simp only [ev_c1, ev_var0, bind_ok, c3, c4, if_true, Bool.not_false, ev_c2, ev_varS, e]
    rw [z, then_ok, fin_rt]
    exact cut_ok0
  | n + 1, .bool b, _, T => by
    show ((B__law_same (F__law_same n) [some (.t (.bool b)), some (.t (.bool b)), none, none] T).fin).cut T = _
    have e : (B__law_same (F__law_same n) [some (.t (.bool b)), some (.t (.bool b)), none, none] T).fin = .ok (.t (.bool true)) T := by
      cases b <;> rfl
    rw [e]
    exact cut_ok0
  | n + 1, .str s, h, T => by
    show ((B__law_same (F__law_same n) [some (.t (.str s)), some (.t (.str s)), none, none] T).fin).cut T = _
    have hs : s = "no boat" ∨ s = "red" := of_decide_eq_true h
    have e : (B__law_same (F__law_same n) [some (.t (.str s)), some (.t (.str s)), none, none] T).fin = .ok (.t (.bool true)) T := by
      rcases hs with rfl | rfl
      · kernel_rfl
      · kernel_rfl
    rw [e]
    exact cut_ok0
  | n + 1, .list ds, h, T => by
    have h' : ds.all (good n) = true ∧ ds.length < LIM := by
      have z : (ds.all (good n) && decide (ds.length < LIM)) = true := h
      rw [Bool.and_eq_true] at z
      exact ⟨z.1, of_decide_eq_true z.2⟩
    have hz : ∀ T, gZip [.t (.list ds), .t (.list ds)] T = .ok ⟨zipD ds ds, []⟩ T := fun T => by
      unfold gZip
      dsimp only
      rw [if_pos rfl]
      unfold srcOf
      dsimp only
      rw [treesOf_map]
      rfl
    have c := same_comp (self := F__law_same n) hz h'.2 (fun d hd T => same_refl n d (List.all_eq_true.mp h'.1 d hd) T) T
    have ln : gLen [.t (.list ds)] T = .ok (.t (.int ((ds.map Wv.t).length : Nat))) T := rfl
    have ni := ne_int ((ds.map Wv.t).length : Nat) T
    show ((B__law_same (F__law_same n) [some (.t (.list ds)), some (.t (.list ds)), none, none] T).fin).cut T = _
    unfold B__law_same
    have c1 : fB (c1 (gIsi [.lst, .tup]) (cVar 1)) [some (.t (.list ds)), some (.t (.list ds)), none, none] T = .ok true T := rfl
    have c2 : fOr (fB (c2 gNe (Dn.c1 (gIsi [.lst]) (cVar 0)) (Dn.c1 (gIsi [.lst]) (cVar 1)))) (fB (Dn.c2 gNe (Dn.c1 (gIsi [.tup]) (cVar 0)) (Dn.c1 (gIsi [.tup]) (cVar 1)))) [some (.t (.list ds)), some (.t (.list ds)), none, none] T = .ok false T := rfl
    have c3 : fB (Dn.c2 gNe (cA gLen (aCons (cVar 0) aNil)) (cA gLen (aCons (cVar 1) aNil))) [some (.t (.list ds)), some (.t (.list ds)), none, none] T = .ok false T := by
      simp only [ev_fB, ev_c2, ev_cA, ev_aCons, ev_var0, ev_varS, bind_ok, ev_aNil, ln, ni, ev_bool]
    rw [ev_seq, ev_sIf, c1, then_ok, if_pos rfl, ev_seq, ev_sIf, c2, then_ok]
    simp only [Bool.false_eq_true, if_false, ev_sNil]
    rw [ev_seq, ev_sIf, c3, then_ok]
    simp only [Bool.false_eq_true, if_false, ev_sNil]
    rw [ev_sRet, c, then_ok, fin_rt]
    exact cut_ok
  | n + 1, .tuple ds, h, T => by
    have h' : ds.all (good n) = true ∧ ds.length < LIM := by
      have z : (ds.all (good n) && decide (ds.length < LIM)) = true := h
      rw [Bool.and_eq_true] at z
      exact ⟨z.1, of_decide_eq_true z.2⟩
    have hz : ∀ T, gZip [.t (.tuple ds), .t (.tuple ds)] T = .ok ⟨zipD ds ds, []⟩ T := fun T => by
      unfold gZip
      dsimp only
      rw [if_pos rfl]
      unfold srcOf
      dsimp only
      rw [treesOf_map]
      rfl
    have c := same_comp (self := F__law_same n) hz h'.2 (fun d hd T => same_refl n d (List.all_eq_true.mp h'.1 d hd) T) T
    have ln : gLen [.t (.tuple ds)] T = .ok (.t (.int ((ds.map Wv.t).length : Nat))) T := rfl
    have ni := ne_int ((ds.map Wv.t).length : Nat) T
    show ((B__law_same (F__law_same n) [some (.t (.tuple ds)), some (.t (.tuple ds)), none, none] T).fin).cut T = _
    unfold B__law_same
    have c1 : fB (c1 (gIsi [.lst, .tup]) (cVar 1)) [some (.t (.tuple ds)), some (.t (.tuple ds)), none, none] T = .ok true T := rfl
    have c2 : fOr (fB (c2 gNe (Dn.c1 (gIsi [.lst]) (cVar 0)) (Dn.c1 (gIsi [.lst]) (cVar 1)))) (fB (Dn.c2 gNe (Dn.c1 (gIsi [.tup]) (cVar 0)) (Dn.c1 (gIsi [.tup]) (cVar 1)))) [some (.t (.tuple ds)), some (.t (.tuple ds)), none, none] T = .ok false T := rfl
    have c3 : fB (Dn.c2 gNe (cA gLen (aCons (cVar 0) aNil)) (cA gLen (aCons (cVar 1) aNil))) [some (.t (.tuple ds)), some (.t (.tuple ds)), none, none] T = .ok false T := by
      simp only [ev_fB, ev_c2, ev_cA, ev_aCons, ev_var0, ev_varS, bind_ok, ev_aNil, ln, ni, ev_bool]
    rw [ev_seq, ev_sIf, c1, then_ok, if_pos rfl, ev_seq, ev_sIf, c2, then_ok]
    simp only [Bool.false_eq_true, if_false, ev_sNil]
    rw [ev_seq, ev_sIf, c3, then_ok]
    simp only [Bool.false_eq_true, if_false, ev_sNil]
    rw [ev_sRet, c, then_ok, fin_rt]
    exact cut_ok
end K43

namespace K43
open PySem PySem.Spec PyProof.Rows L2 Dn
/-- the store at box i, S0 ahead -/
def Bx (S0 : Store) (i : Nat) (b : Int) (S : Store) : Prop := S0.length ≤ S.length ∧ (∀ j, j < S0.length → j ≠ i → S[j]? = S0[j]?) ∧ ∃ c0 c1 c2, S[i]? = some (bx c0 c1 c2) ∧ 0 ≤ c2 ∧ c2 ≤ b
theorem Bx.app {S0 : Store} {i : Nat} {b : Int} {S : Store} {c : Cell} (h : Bx S0 i b S) : Bx S0 i b (S ++ [c]) := by
  obtain ⟨h1, h2, c0, c1, c2, h3, h4⟩ := h
  have hi := (List.getElem?_eq_some_iff.mp h3).1
  exact ⟨by rw [List.length_append]; omega, fun j hj hn => by rw [List.getElem?_append_left (by omega)]; exact h2 j hj hn, c0, c1, c2, by rw [List.getElem?_append_left hi]; exact h3, h4⟩
theorem Bx.set {S0 : Store} {i k : Nat} {b : Int} {S : Store} {c : Cell} (h : Bx S0 i b S) (hk : S0.length ≤ k) (hi : i < S0.length) : Bx S0 i b (S.set k c) := by
  obtain ⟨h1, h2, c0, c1, c2, h3, h4⟩ := h
  exact ⟨by rw [List.length_set]; exact h1, fun j hj hn => by rw [List.getElem?_set_ne (by omega)]; exact h2 j hj hn, c0, c1, c2, by rw [List.getElem?_set_ne (by omega)]; exact h3, h4⟩
theorem Bx.take {S0 : Store} {i : Nat} {b : Int} {S : Store} {n : Int} (h : Bx S0 i b S) (hb : b ≤ 1000000) (hn : 0 < n) (hn2 : n ≤ 1000) :
    ∃ v S', F__law_take [.c i, .t (.int n)] S = .ok (.t (.int v)) S' ∧ 0 ≤ v ∧ v < n ∧ Bx S0 i (b + 1) S' ∧ S'.length = S.length ∧ ∀ j, j ≠ i → S'[j]? = S[j]? := by
  obtain ⟨h1, h2, c0, c1, c2, h3, h4, h5⟩ := h
  have hi := (List.getElem?_eq_some_iff.mp h3).1
  obtain ⟨v, d0, d2, q1, q2, q3, q4, q5⟩ := take_ok h3 hn hn2 h4 (by omega)
  exact ⟨v, _, q1, q2, q3, ⟨by rw [List.length_set]; exact h1, fun j hj hn => by rw [List.getElem?_set_ne (Ne.symm hn)]; exact h2 j hj hn, d0, c1, d2, List.getElem?_set_self hi, q4, by omega⟩, List.length_set, fun j hj => List.getElem?_set_ne (Ne.symm hj)⟩
/-- all locks are shut or open: every red going is refused -/
theorem ref_all {m k : Nat} {L : List D} (hm : 1 ≤ m) (hm4 : m ≤ 4) (hk : k < m) (hl : L.length = m) (ha : ∀ d ∈ L, d = .int 0 ∨ d = .int 1) : Ref m k L := by
  have c : m = 1 ∨ m = 2 ∨ m = 3 ∨ m = 4 := by omega
  rcases c with rfl | rfl | rfl | rfl
  · match L, hl with
    | [a], _ =>
      obtain rfl : k = 0 := by omega
      rcases ha a (by simp) with rfl | rfl
      · exact ref_1_0_0
      · exact ref_1_0_1
  · match L, hl with
    | [a, b], _ =>
      have kk : k = 0 ∨ k = 1 := by omega
      rcases kk with rfl | rfl
      · rcases ha a (by simp) with rfl | rfl
        · exact ref_2_0_0 _
        · exact ref_2_0_1 _
      · rcases ha b (by simp) with rfl | rfl
        · exact ref_2_1_0 _
        · exact ref_2_1_1 _
  · match L, hl with
    | [a, b, c], _ =>
      have kk : k = 0 ∨ k = 1 ∨ k = 2 := by omega
      rcases kk with rfl | rfl | rfl
      · rcases ha a (by simp) with rfl | rfl
        · exact ref_3_0_0 _ _
        · exact ref_3_0_1 _ _
      · rcases ha b (by simp) with rfl | rfl
        · exact ref_3_1_0 _ _
        · exact ref_3_1_1 _ _
      · rcases ha c (by simp) with rfl | rfl
        · exact ref_3_2_0 _ _
        · exact ref_3_2_1 _ _
  · match L, hl with
    | [a, b, c, d], _ =>
      have kk : k = 0 ∨ k = 1 ∨ k = 2 ∨ k = 3 := by omega
      rcases kk with rfl | rfl | rfl | rfl
      · rcases ha a (by simp) with rfl | rfl
        · exact ref_4_0_0 _ _ _
        · exact ref_4_0_1 _ _ _
      · rcases ha b (by simp) with rfl | rfl
        · exact ref_4_1_0 _ _ _
        · exact ref_4_1_1 _ _ _
      · rcases ha c (by simp) with rfl | rfl
        · exact ref_4_2_0 _ _ _
        · exact ref_4_2_1 _ _ _
      · rcases ha d (by simp) with rfl | rfl
        · exact ref_4_3_0 _ _ _
        · exact ref_4_3_1 _ _ _
/-- one turn -/
abbrev dl (i m : Nat) (X L : List D) (x5 x6 x7 x8 x9 : Option Wv) : Dl := [some (.c i), some (.t (.int (m : Int))), some (.t (gates m)), some (.t (.list [.tuple (List.replicate (m + 1) (.int 0)), .tuple (List.replicate (m + 1) (.int 1))])), some (.t (lying m X L)), x5, x6, x7, x8, x9]
abbrev turnB : FS := (sSeq (sSet 6 (cCall 2 F__law_take (aCons (cVar 0) (aCons (cVar 1) aNil)))) (sSeq (sSet 7 (cA Dn.gLst (aCons (cA Dn.gLst (aCons (cVar 6) (aCons (cD (.str "red")) aNil))) (aCons (cA Dn.gLst (aCons (cCall 2 F__law_take (aCons (cVar 0) (aCons (cVar 1) aNil))) (aCons (cD (.str "blue")) aNil))) aNil)))) (sSeq (sSet 8 (cFrzU (cCompC (fA gRange1 (aCons (cD (.int 4)) aNil)) [9] (tgName 9) fYes (cCall 4 F__law_heard (aCons (cVar 9) (aCons (cA gTup (aCons (c2 gAdd (cVar 1) (cD (.int 1))) (aCons (c2 gAdd (cVar 1) (cD (.int 1))) (aCons (cVar 2) aNil)))) (aCons (cVar 4) (aCons (cVar 7) aNil)))))))) (sIf (fNot (fB (cCall 2 (F__law_same 8) (aCons (cVar 8) (aCons (c2 gMul (cA Dn.gLst (aCons (cA Dn.gLst (aCons (cD (.str "no boat")) (aCons (cA gTup (aCons (cVar 6) (aCons (cD (.str "red")) aNil))) (aCons (cD (.bool true)) aNil)))) aNil)) (cD (.int 4))) aNil))))) (sRet (cD (.bool false))) sNil))))
theorem turn_ok {S0 : Store} {i m : Nat} {X L : List D} {b : Int} {S : Store} {x5 x6 x7 x8 x9 : Option Wv} (hi : i < S0.length) (hm : 1 ≤ m) (hm4 : m ≤ 4) (hr : ∀ k, k < m → Ref m k L) (hb : b ≤ 1000) (h : Bx S0 i b S) :
    ∃ y6 y7 y8 S', turnB (dl i m X L x5 x6 x7 x8 x9) S = .nx (dl i m X L x5 y6 y7 y8 x9) S' ∧ Bx S0 i (b + 2) S' := by
  obtain ⟨v, S1, q1, q2, q3, q4, q5, q6⟩ := h.take (n := (m : Int)) (by omega) (by omega) (by omega)
  obtain ⟨u, S2, r1, r2, r3, r4, r5, r6⟩ := q4.take (n := (m : Int)) (by omega) (by omega) (by omega)
  obtain ⟨k, rfl⟩ := Int.eq_ofNat_of_zero_le q2
  have hk : k < m := by omega
  have rf := hr k hk
  let R2 : D := .list [.int u, .str "blue"]
  have comp := comp_pure (it := fA gRange1 (aCons (cD (.int 4)) aNil)) (vs := [9]) (tg := tgName 9) (elt := cCall 4 F__law_heard (aCons (cVar 9) (aCons (cA gTup (aCons (c2 gAdd (cVar 1) (cD (.int 1))) (aCons (c2 gAdd (cVar 1) (cD (.int 1))) (aCons (cVar 2) aNil)))) (aCons (cVar 4) (aCons (cVar 7) aNil)))))
    (δ := dl i m X L x5 (some (.t (.int (k : Int)))) (some (.t (rowD k R2))) x8 x9) (S := S2) (S1 := S2) (items := rngL 0 4) (fun _ => .t (answer k)) rfl (by decide) fun r hr U => by
      have dd : ∃ d : Nat, d < 4 ∧ r = .t (.int (d : Int)) := by
        unfold rngL at hr
        obtain ⟨d, h1, h2⟩ := List.mem_map.mp hr
        have h1 := List.mem_range.mp h1
        exact ⟨d, by simpa using h1, by rw [← h2, Int.zero_add]⟩
      obtain ⟨d, hd, rfl⟩ := dd
      refine ⟨dl i m X L x5 (some (.t (.int (k : Int)))) (some (.t (rowD k R2))) x8 (some (.t (.int (d : Int)))), rfl, ?_⟩
      have hh := heard_ok (by omega) rf X R2 d hd U
      have cn : cA gTup (aCons (c2 gAdd (cVar 1) (cD (.int 1))) (aCons (c2 gAdd (cVar 1) (cD (.int 1))) (aCons (cVar 2) aNil))) (dl i m X L x5 (some (.t (.int (k : Int)))) (some (.t (rowD k R2))) x8 (some (.t (.int (d : Int))))) U = .ok (.t (canal m)) U := rfl
      unfold dl at cn ⊢
      simp only [ev_call, ev_aCons, cn, ev_varS, ev_var0, bind_ok, ev_aNil, List.length_cons, List.length_nil, if_true, hh]
  have fz : cFrzU (cCompC (fA gRange1 (aCons (cD (.int 4)) aNil)) [9] (tgName 9) fYes (cCall 4 F__law_heard (aCons (cVar 9) (aCons (cA gTup (aCons (c2 gAdd (cVar 1) (cD (.int 1))) (aCons (c2 gAdd (cVar 1) (cD (.int 1))) (aCons (cVar 2) aNil)))) (aCons (cVar 4) (aCons (cVar 7) aNil)))))) (dl i m X L x5 (some (.t (.int (k : Int)))) (some (.t (rowD k R2))) x8 x9) S2
      = .ok (.t (.list (List.replicate 4 (answer k)))) (S2 ++ [.frz (.list (List.replicate 4 (answer k)))]) := by
    rw [ev_frzU, comp]
    have e : (rngL 0 4).map (fun _ => Wv.t (answer k)) = (List.replicate 4 (answer k)).map .t := rfl
    rw [e]
    unfold outFrzU
    dsimp only
    rw [frz_app]
  have sm := same_refl 8 (.list (List.replicate 4 (answer k))) rfl (S2 ++ [.frz (.list (List.replicate 4 (answer k)))])
  refine ⟨some (.t (.int (k : Int))), some (.t (rowD k R2)), some (.t (.list (List.replicate 4 (answer k)))), S2 ++ [.frz (.list (List.replicate 4 (answer k)))], ?_, ?_⟩
  · unfold turnB
    have f1 : sSet 6 (cCall 2 F__law_take (aCons (cVar 0) (aCons (cVar 1) aNil))) (dl i m X L x5 x6 x7 x8 x9) S = .nx (dl i m X L x5 (some (.t (.int (k : Int)))) x7 x8 x9) S1 := by
      unfold dl
      simp only [ev_sSet, ev_call, ev_aCons, ev_varS, ev_var0, bind_ok, ev_aNil, List.length_cons, List.length_nil, if_true, q1, then_ok, List.set]
    have f2 : sSet 7 (cA Dn.gLst (aCons (cA Dn.gLst (aCons (cVar 6) (aCons (cD (.str "red")) aNil))) (aCons (cA Dn.gLst (aCons (cCall 2 F__law_take (aCons (cVar 0) (aCons (cVar 1) aNil))) (aCons (cD (.str "blue")) aNil))) aNil))) (dl i m X L x5 (some (.t (.int (k : Int)))) x7 x8 x9) S1 = .nx (dl i m X L x5 (some (.t (.int (k : Int)))) (some (.t (rowD k R2))) x8 x9) S2 := by
      unfold dl
      have g1 : Dn.gLst [.t (.int (k : Int)), .t (.str "red")] S1 = .ok (.t (.list [.int (k : Int), .str "red"])) S1 := rfl
      have g2 : Dn.gLst [.t (.int u), .t (.str "blue")] S2 = .ok (.t R2) S2 := rfl
      have g3 : Dn.gLst [.t (.list [.int (k : Int), .str "red"]), .t R2] S2 = .ok (.t (rowD k R2)) S2 := rfl
      simp only [ev_sSet, ev_cA, ev_call, ev_aCons, ev_varS, ev_var0, ev_D, bind_ok, ev_aNil, List.length_cons, List.length_nil, if_true, r1, g1, g2, g3, then_ok, List.set]
    have f4 : fNot (fB (cCall 2 (F__law_same 8) (aCons (cVar 8) (aCons (c2 gMul (cA Dn.gLst (aCons (cA Dn.gLst (aCons (cD (.str "no boat")) (aCons (cA gTup (aCons (cVar 6) (aCons (cD (.str "red")) aNil))) (aCons (cD (.bool true)) aNil)))) aNil)) (cD (.int 4))) aNil)))) (dl i m X L x5 (some (.t (.int (k : Int)))) (some (.t (rowD k R2))) (some (.t (.list (List.replicate 4 (answer k))))) x9) (S2 ++ [.frz (.list (List.replicate 4 (answer k)))]) = .ok false (S2 ++ [.frz (.list (List.replicate 4 (answer k)))]) := by
      have g1 : c2 gMul (cA Dn.gLst (aCons (cA Dn.gLst (aCons (cD (.str "no boat")) (aCons (cA gTup (aCons (cVar 6) (aCons (cD (.str "red")) aNil))) (aCons (cD (.bool true)) aNil)))) aNil)) (cD (.int 4)) (dl i m X L x5 (some (.t (.int (k : Int)))) (some (.t (rowD k R2))) (some (.t (.list (List.replicate 4 (answer k))))) x9) (S2 ++ [.frz (.list (List.replicate 4 (answer k)))]) = .ok (.t (.list (List.replicate 4 (answer k)))) (S2 ++ [.frz (.list (List.replicate 4 (answer k)))]) := rfl
      unfold dl at g1 ⊢
      generalize List.replicate 4 (answer k) = A at g1 sm ⊢
      simp only [ev_fNot, ev_fB, ev_call, ev_aCons, g1, ev_varS, ev_var0, bind_ok, ev_aNil, List.length_cons, List.length_nil, if_true, sm, ev_bool, Bool.not_true]
    rw [ev_seq, f1]
    dsimp only
    rw [ev_seq, f2]
    dsimp only
    rw [ev_seq, ev_sSet, fz, then_ok]
    have e8 : (dl i m X L x5 (some (.t (.int (k : Int)))) (some (.t (rowD k R2))) x8 x9).set 8 (some (.t (.list (List.replicate 4 (answer k))))) = dl i m X L x5 (some (.t (.int (k : Int)))) (some (.t (rowD k R2))) (some (.t (.list (List.replicate 4 (answer k))))) x9 := rfl
    rw [e8]
    dsimp only
    rw [ev_sIf, f4, then_ok]
    rfl
  · have z := r4.app (c := .frz (.list (List.replicate 4 (answer k))))
    rw [show b + 2 = b + 1 + 1 by omega]
    exact z
end K43

namespace K43
open PySem PySem.Spec PyProof.Rows L2 Dn
def asGate : Wv → Wv
  | .t (.int x) => .t (.tuple [.int x, .int (x + 1), .int x, .int (x + 1)])
  | r => r
abbrev gatesE : FE := cA gTuple (aCons (cCompC (fA gRange1 (aCons (cVar 1) aNil)) [6] (tgName 6) fYes (cA gTup (aCons (cVar 6) (aCons (c2 gAdd (cVar 6) (cD (.int 1))) (aCons (cVar 6) (aCons (c2 gAdd (cVar 6) (cD (.int 1))) aNil)))))) aNil)
abbrev boatsE : FE := cA Dn.gLst (aCons (c2 gMul (cA gTup (aCons (cD (.int 0)) aNil)) (c2 gAdd (cVar 1) (cD (.int 1)))) (aCons (c2 gMul (cA gTup (aCons (cD (.int 1)) aNil)) (c2 gAdd (cVar 1) (cD (.int 1)))) aNil))
abbrev lyingE : FE := cA gTup (aCons (cIx (cVar 3) (cD (.int 0))) (aCons (cIx (cVar 3) (cCall 2 F__law_take (aCons (cVar 0) (aCons (cD (.int 2)) aNil)))) (aCons (cA gTuple (aCons (cCompC (fA gRange1 (aCons (cVar 1) aNil)) [6] (tgName 6) fYes (cCall 2 F__law_take (aCons (cVar 0) (aCons (cD (.int 2)) aNil)))) aNil)) aNil)))
theorem range_m {m : Nat} (hm : 1 ≤ m) (hm4 : m ≤ 4) (a0 : Option Wv) (l : Dl) (S : Store) : fA gRange1 (aCons (cVar 1) aNil) (a0 :: some (.t (.int (m : Int))) :: l) S = .ok ⟨rngL 0 m, []⟩ S := by
  have c : m = 1 ∨ m = 2 ∨ m = 3 ∨ m = 4 := by omega
  rcases c with rfl | rfl | rfl | rfl <;> rfl
theorem rng_len (m : Nat) : (rngL 0 m).length = m := by unfold rngL; rw [List.length_map, List.length_range]
theorem rng_mem {m : Nat} {r : Wv} (h : r ∈ rngL 0 m) : ∃ d : Nat, d < m ∧ r = .t (.int (d : Int)) := by
  unfold rngL at h
  obtain ⟨d, h1, h2⟩ := List.mem_map.mp h
  exact ⟨d, by simpa using h1, by rw [← h2, Int.zero_add]⟩
theorem tuple_app {S : Store} {ds : List D} : gTuple [.c S.length] (S ++ [.lst (ds.map .t)]) = .ok (.t (.tuple ds)) (S ++ [.lst (ds.map .t)]) := by
  unfold gTuple
  dsimp only
  rw [seqL_app]
  dsimp only
  rw [treesOf_map]
theorem gates_ok {m : Nat} (hm : 1 ≤ m) (hm4 : m ≤ 4) (i : Nat) (S : Store) : ∃ c, gatesE [some (.c i), some (.t (.int (m : Int))), none, none, none, none, none, none, none, none] S = .ok (.t (gates m)) (S ++ [c]) := by
  have comp := comp_pure (it := fA gRange1 (aCons (cVar 1) aNil)) (vs := [6]) (tg := tgName 6) (elt := cA gTup (aCons (cVar 6) (aCons (c2 gAdd (cVar 6) (cD (.int 1))) (aCons (cVar 6) (aCons (c2 gAdd (cVar 6) (cD (.int 1))) aNil)))))
    (δ := [some (.c i), some (.t (.int (m : Int))), none, none, none, none, none, none, none, none]) (S := S) (S1 := S) (items := rngL 0 m) asGate (range_m hm hm4 _ _ S) (by rw [rng_len]; unfold LIM; omega) fun r hr T => by
      obtain ⟨d, _, rfl⟩ := rng_mem hr
      exact ⟨_, rfl, rfl⟩
  have e : (rngL 0 m).map asGate = ((List.range m).map gate).map .t := by
    have c : m = 1 ∨ m = 2 ∨ m = 3 ∨ m = 4 := by omega
    rcases c with rfl | rfl | rfl | rfl <;> rfl
  rw [e] at comp
  refine ⟨.lst (((List.range m).map gate).map .t), ?_⟩
  unfold gatesE
  rw [ev_cA, ev_aCons, comp]
  simp only [bind_ok, ev_aNil, tuple_app]
  rfl
theorem boats_ok {m : Nat} (hm : 1 ≤ m) (hm4 : m ≤ 4) (a0 a2 : Option Wv) (l : Dl) (S : Store) : boatsE (a0 :: some (.t (.int (m : Int))) :: a2 :: l) S = .ok (.t (.list [.tuple (List.replicate (m + 1) (.int 0)), .tuple (List.replicate (m + 1) (.int 1))])) S := by
  have c : m = 1 ∨ m = 2 ∨ m = 3 ∨ m = 4 := by omega
  rcases c with rfl | rfl | rfl | rfl <;> rfl
theorem ints_of {ys : List Wv} (h : ∀ y ∈ ys, y = .t (.int 0) ∨ y = .t (.int 1)) : ∃ L : List D, ys = L.map .t ∧ ∀ d ∈ L, d = .int 0 ∨ d = .int 1 := by
  induction ys with
  | nil => exact ⟨[], rfl, fun d h => nomatch h⟩
  | cons y ys ih =>
    obtain ⟨L, rfl, hL⟩ := ih fun z hz => h z (List.mem_cons_of_mem _ hz)
    rcases h y List.mem_cons_self with rfl | rfl
    · exact ⟨.int 0 :: L, rfl, fun d hd => (List.mem_cons.mp hd).elim (fun e => .inl e) (hL d)⟩
    · exact ⟨.int 1 :: L, rfl, fun d hd => (List.mem_cons.mp hd).elim (fun e => .inr e) (hL d)⟩
theorem lying_ok {S0 : Store} {i m : Nat} {b : Int} {S : Store} (hi : i < S0.length) (hm : 1 ≤ m) (hm4 : m ≤ 4) (hb : b ≤ 1000) (h : Bx S0 i b S) :
    ∃ X L S', lyingE [some (.c i), some (.t (.int (m : Int))), some (.t (gates m)), some (.t (.list [.tuple (List.replicate (m + 1) (.int 0)), .tuple (List.replicate (m + 1) (.int 1))])), none, none, none, none, none, none] S = .ok (.t (lying m X L)) S' ∧ Bx S0 i (b + 5) S' ∧ L.length = m ∧ ∀ d ∈ L, d = .int 0 ∨ d = .int 1 := by
  obtain ⟨v, S1, q1, q2, q3, q4, q5, q6⟩ := h.take (n := 2) (by omega) (by decide) (by decide)
  have comp := comp_inv (it := fA gRange1 (aCons (cVar 1) aNil)) (vs := [6]) (tg := tgName 6) (elt := cCall 2 F__law_take (aCons (cVar 0) (aCons (cD (.int 2)) aNil)))
    (δ := [some (.c i), some (.t (.int (m : Int))), some (.t (gates m)), some (.t (.list [.tuple (List.replicate (m + 1) (.int 0)), .tuple (List.replicate (m + 1) (.int 1))])), none, none, none, none, none, none]) (S := S1) (S1 := S1) (items := rngL 0 m)
    (P := fun n T => Bx S0 i (b + 1 + n) T) (V := fun y => y = .t (.int 0) ∨ y = .t (.int 1)) (range_m hm hm4 _ _ S1) (by rw [rng_len]; unfold LIM; omega) (by rw [Int.natCast_zero, Int.add_zero]; exact q4.app) fun n r T acc hn hr p e => by
      rw [rng_len] at hn
      obtain ⟨u, T', t1, t2, t3, t4, t5, t6⟩ := p.take (n := 2) (by omega) (by decide) (by decide)
      have hk : S0.length ≤ S1.length := q4.1
      refine ⟨_, .t (.int u), T', rfl, ?_, ?_, by rw [t6 _ (by omega)]; exact e, ?_⟩
      · have l : (List.set (wipeD [some (Wv.c i), some (.t (.int (m : Int))), some (.t (gates m)), some (.t (.list [.tuple (List.replicate (m + 1) (.int 0)), .tuple (List.replicate (m + 1) (.int 1))])), none, none, none, none, none, none] [6]) 6 (some r)) = [some (.c i), some (.t (.int (m : Int))), some (.t (gates m)), some (.t (.list [.tuple (List.replicate (m + 1) (.int 0)), .tuple (List.replicate (m + 1) (.int 1))])), none, none, some r, none, none, none] := rfl
        rw [l]
        simp only [ev_call, ev_aCons, ev_var0, ev_D, bind_ok, ev_aNil, List.length_cons, List.length_nil, if_true, t1]
      · have : u = 0 ∨ u = 1 := by omega
        rcases this with rfl | rfl
        · exact .inl rfl
        · exact .inr rfl
      · have z := t4.set (k := S1.length) (c := .lst (acc ++ [.t (.int u)])) hk hi
        rw [show b + 1 + ((n + 1 : Nat) : Int) = b + 1 + n + 1 by omega]
        exact z
  obtain ⟨ys, T, c1, c2, c3, c4, c5⟩ := comp
  obtain ⟨L, rfl, hL⟩ := ints_of c3
  rw [rng_len] at c2 c5
  refine ⟨List.replicate (m + 1) (.int v), L, T, ?_, ?_, by rw [← c2, List.length_map], hL⟩
  · have g0 : gIx (.t (.list [.tuple (List.replicate (m + 1) (.int 0)), .tuple (List.replicate (m + 1) (.int 1))])) (.t (.int 0)) S = .ok (.t (.tuple (List.replicate (m + 1) (.int 0)))) S := rfl
    have g1 : gIx (.t (.list [.tuple (List.replicate (m + 1) (.int 0)), .tuple (List.replicate (m + 1) (.int 1))])) (.t (.int v)) S1 = .ok (.t (.tuple (List.replicate (m + 1) (.int v)))) S1 := by
      have : v = 0 ∨ v = 1 := by omega
      rcases this with rfl | rfl <;> rfl
    have g2 : gTuple [.c S1.length] T = .ok (.t (.tuple L)) T := by
      have sq : seqL T (.c S1.length) = some (L.map .t) := by
        unfold seqL
        dsimp only
        rw [c4]
      unfold gTuple
      dsimp only
      rw [sq]
      dsimp only
      rw [treesOf_map]
    have g3 : gTup [.t (.tuple (List.replicate (m + 1) (.int 0))), .t (.tuple (List.replicate (m + 1) (.int v))), .t (.tuple L)] T = .ok (.t (lying m (List.replicate (m + 1) (.int v)) L)) T := rfl
    have s1 : cIx (cVar 3) (cD (.int 0)) [some (.c i), some (.t (.int (m : Int))), some (.t (gates m)), some (.t (.list [.tuple (List.replicate (m + 1) (.int 0)), .tuple (List.replicate (m + 1) (.int 1))])), none, none, none, none, none, none] S = .ok (.t (.tuple (List.replicate (m + 1) (.int 0)))) S := g0
    have s2 : cIx (cVar 3) (cCall 2 F__law_take (aCons (cVar 0) (aCons (cD (.int 2)) aNil))) [some (.c i), some (.t (.int (m : Int))), some (.t (gates m)), some (.t (.list [.tuple (List.replicate (m + 1) (.int 0)), .tuple (List.replicate (m + 1) (.int 1))])), none, none, none, none, none, none] S = .ok (.t (.tuple (List.replicate (m + 1) (.int v)))) S1 := by
      have a1 : cCall 2 F__law_take (aCons (cVar 0) (aCons (cD (.int 2)) aNil)) [some (.c i), some (.t (.int (m : Int))), some (.t (gates m)), some (.t (.list [.tuple (List.replicate (m + 1) (.int 0)), .tuple (List.replicate (m + 1) (.int 1))])), none, none, none, none, none, none] S = .ok (.t (.int v)) S1 := q1
      rw [ev_ix, show cVar 3 [some (.c i), some (.t (.int (m : Int))), some (.t (gates m)), some (.t (.list [.tuple (List.replicate (m + 1) (.int 0)), .tuple (List.replicate (m + 1) (.int 1))])), none, none, none, none, none, none] S = .ok (.t (.list [.tuple (List.replicate (m + 1) (.int 0)), .tuple (List.replicate (m + 1) (.int 1))])) S from rfl, bind_ok, a1, bind_ok]
      exact g1
    have s3 : cA gTuple (aCons (cCompC (fA gRange1 (aCons (cVar 1) aNil)) [6] (tgName 6) fYes (cCall 2 F__law_take (aCons (cVar 0) (aCons (cD (.int 2)) aNil)))) aNil) [some (.c i), some (.t (.int (m : Int))), some (.t (gates m)), some (.t (.list [.tuple (List.replicate (m + 1) (.int 0)), .tuple (List.replicate (m + 1) (.int 1))])), none, none, none, none, none, none] S1 = .ok (.t (.tuple L)) T := by
      rw [ev_cA, ev_aCons, c1]
      exact g2
    unfold lyingE
    rw [ev_cA, ev_aCons, s1, bind_ok, ev_aCons, s2, bind_ok, ev_aCons, s3]
    exact g3
  · obtain ⟨h1, h2, d0, d1, d2, h3, h4, h5⟩ := c5
    exact ⟨h1, h2, d0, d1, d2, h3, h4, by omega⟩
theorem right_ok {S : Store} {i : Nat} {b0 b1 b2 : Int} (h : S[i]? = some (bx b0 b1 b2)) (h0 : 0 ≤ b2) (h1 : b2 ≤ 10) :
    ∃ T, F__law_right [.c i] S = .ok (.t (.bool true)) T ∧ S.length ≤ T.length ∧ ∀ j, j < S.length → j ≠ i → T[j]? = S[j]? := by
  have hi := (List.getElem?_eq_some_iff.mp h).1
  have p0 : Bx S i 10 S := ⟨Nat.le_refl _, fun _ _ _ => rfl, b0, b1, b2, h, h0, h1⟩
  obtain ⟨v, S1, q1, q2, q3, q4, q5, q6⟩ := p0.take (n := 4) (by decide) (by decide) (by decide)
  obtain ⟨w, rfl⟩ := Int.eq_ofNat_of_zero_le q2
  have e1 : (1 : Int) + (w : Int) = ((w + 1 : Nat) : Int) := by omega
  have hm : 1 ≤ w + 1 := by omega
  have hm4 : w + 1 ≤ 4 := by omega
  generalize w + 1 = m at e1 hm hm4
  obtain ⟨c, g⟩ := gates_ok hm hm4 i S1
  have bt := boats_ok hm hm4 (some (.c i)) (some (.t (gates m))) [none, none, none, none, none, none, none] (S1 ++ [c])
  obtain ⟨X, L, S3, l1, l2, l3, l4⟩ := lying_ok (b := 11) hi hm hm4 (by decide) (q4.app (c := c))
  have lp := loopS_inv (its := rngL 0 4) (tg := tgName 5) (body := turnB) (P := fun n δ T => ∃ x5 x6 x7 x8 x9, δ = dl i m X L x5 x6 x7 x8 x9 ∧ Bx S i (16 + 2 * (n : Int)) T) (rngL 0 4) 0 (dl i m X L none none none none none) S3
    ⟨_, _, _, _, _, rfl, by rw [Int.natCast_zero, Int.mul_zero, Int.add_zero]; exact l2⟩ fun j r δ T ej ⟨x5, x6, x7, x8, x9, eδ, p⟩ => by
      subst eδ
      have hj : j < 4 := by
        have := (List.getElem?_eq_some_iff.mp ej).1
        rw [rng_len] at this
        exact this
      obtain ⟨y6, y7, y8, T', t1, t2⟩ := turn_ok (x5 := some r) (x6 := x6) (x7 := x7) (x8 := x8) (x9 := x9) hi hm hm4 (fun k hk => ref_all hm hm4 hk l3 l4) (by omega) p
      exact ⟨_, _, T, T', rfl, t1, _, _, _, _, _, rfl, by rw [show 16 + 2 * ((0 + j + 1 : Nat) : Int) = 16 + 2 * ((0 + j : Nat) : Int) + 2 by omega]; exact t2⟩
  obtain ⟨δ', T, u1, x5, x6, x7, x8, x9, rfl, u2⟩ := lp
  refine ⟨T, ?_, u2.1, u2.2.1⟩
  show (B__law_right [some (.c i), none, none, none, none, none, none, none, none, none] S).fin = _
  have f1 : sSet 1 (c2 gAdd (cD (.int 1)) (cCall 2 F__law_take (aCons (cVar 0) (aCons (cD (.int 4)) aNil)))) [some (.c i), none, none, none, none, none, none, none, none, none] S = .nx [some (.c i), some (.t (.int (m : Int))), none, none, none, none, none, none, none, none] S1 := by
    simp only [ev_sSet, ev_c2, ev_call, ev_aCons, ev_var0, ev_D, bind_ok, ev_aNil, List.length_cons, List.length_nil, if_true, q1, ev_add, then_ok, List.set, e1]
  have f5 : sFor (fA gRange1 (aCons (cD (.int 4)) aNil)) (tgName 5) turnB (dl i m X L none none none none none) S3 = .nx (dl i m X L x5 x6 x7 x8 x9) T := by
    have r4 : fA gRange1 (aCons (cD (.int 4)) aNil) (dl i m X L none none none none none) S3 = .ok ⟨rngL 0 4, []⟩ S3 := rfl
    rw [ev_sFor, r4, then_ok]
    exact u1
  have all : B__law_right = sSeq (sSet 1 (c2 gAdd (cD (.int 1)) (cCall 2 F__law_take (aCons (cVar 0) (aCons (cD (.int 4)) aNil))))) (sSeq (sSet 2 gatesE) (sSeq (sSet 3 boatsE) (sSeq (sSet 4 lyingE) (sSeq (sFor (fA gRange1 (aCons (cD (.int 4)) aNil)) (tgName 5) turnB) (sRet (cD (.bool true))))))) := rfl
  rw [all, ev_seq, f1]
  dsimp only
  rw [ev_seq, ev_sSet, g, then_ok]
  dsimp only [List.set]
  rw [ev_seq, ev_sSet, bt, then_ok]
  dsimp only [List.set]
  rw [ev_seq, ev_sSet, l1, then_ok]
  dsimp only [List.set]
  rw [ev_seq]
  have f5' := f5
  unfold dl at f5'
  rw [f5']
  rfl
end K43

namespace K43
open PySem PySem.Spec PyProof.Rows L2 Dn
theorem hand_ok (ns : List Int) : F__law_by_hand_right [] [.scr ns] = .ok (.t (.bool true)) [.scr ns] := by kernel_rfl
theorem bits_lt {z : Int} {a : Nat} (h : Builtin.Int.intBits z ≤ a) : z.natAbs < 2 ^ a := by
  unfold Builtin.Int.intBits at h
  by_cases c : z = 0
  · subst c
    exact Nat.pos_of_ne_zero (by simp)
  · have e : (z == 0) = false := by simpa using c
    rw [e] at h
    have h2 : z.natAbs.log2 + 1 ≤ a := by simpa using h
    exact Nat.lt_of_lt_of_le Nat.lt_log2_self (Nat.pow_le_pow_right (by decide) h2)
theorem sl_scr (ns : List Int) (lo hi : Option Int) (G : Store) : gSl (.c 0) lo hi (.scr ns :: G) = .ok (.t (.list ((cutA ns lo hi).map .int))) (.scr ns :: G) := by
  have e : scrW ns = (ns.map PyData.int).map .t := by unfold scrW; rw [List.map_map]; rfl
  have sq : seqL (.scr ns :: G) (.c 0) = some ((ns.map PyData.int).map .t) := by rw [← e]; rfl
  unfold gSl
  dsimp only
  rw [sq]
  dsimp only
  rw [cutA_map, treesOf_map, cutA_map]
theorem cut_len {α : Type} (xs : List α) (lo hi : Option Int) : (cutA xs lo hi).length ≤ xs.length := by
  unfold cutA
  rw [List.length_take, List.length_drop]
  omega
theorem cut_mem {α : Type} {xs : List α} {lo hi : Option Int} {x : α} (h : x ∈ cutA xs lo hi) : x ∈ xs := List.mem_of_mem_drop (List.mem_of_mem_take h)
theorem cut_two {α : Type} (xs : List α) : cutA xs none (some 2) = xs.take 2 := by
  have e : HT.sIx xs.length xs.length (some 2) = min 2 xs.length := HT.sIx_nat _ _ 2
  unfold cutA
  rw [e, HT.sIx_none, List.drop_zero, Nat.sub_zero]
  by_cases c : xs.length ≤ 2
  · rw [Nat.min_eq_right c, List.take_length, List.take_of_length_le c]
  · rw [Nat.min_eq_left (by omega)]
theorem cut_rest {α : Type} (xs : List α) (h : xs.length ≤ 2) : cutA xs (some 2) (some 63) = [] := by
  have e : HT.sIx xs.length 0 (some 2) = min 2 xs.length := HT.sIx_nat _ _ 2
  unfold cutA
  rw [e, Nat.min_eq_right h, List.drop_length, List.take_nil]
abbrev loopB : FS := sAsg (c2 gAdd (cIx (cVar 2) (c2 gMod (cVar 3) (cVar 1))) (c2 gMul (cVar 4) (c2 gAdd (cVar 3) (cD (.int 2))))) (tgSub (cVar 2) (c2 gMod (cVar 3) (cVar 1)))
/-- one turn of the cells -/
theorem cell_turn {ns : List Int} {c0 c1 z : Int} {n M : Nat} (hn : n < 63) (hz : z.natAbs < 2 ^ 1048576) (hM : 2 ^ 1048576 ≤ M) (h0 : c0.natAbs ≤ (1 + 65 * n) * M) (h1 : c1.natAbs ≤ (1 + 65 * n) * M) :
    ∃ d0 d1 : Int, loopB [some (.c 0), some (.t (.int 2)), some (.c 1), some (.t (.int (n : Int))), some (.t (.int z))] [.scr ns, .lst [.t (.int c0), .t (.int c1)]] = .nx [some (.c 0), some (.t (.int 2)), some (.c 1), some (.t (.int (n : Int))), some (.t (.int z))] [.scr ns, .lst [.t (.int d0), .t (.int d1)]] ∧
      d0.natAbs ≤ (1 + 65 * (n + 1)) * M ∧ d1.natAbs ≤ (1 + 65 * (n + 1)) * M := by
  have hf := fm (x := (n : Int)) (m := 2) (by decide)
  have g1 : ∀ S, gMod (.t (.int (n : Int))) (.t (.int 2)) S = .ok (.t (.int ((n : Int).fmod 2))) S := fun S => ev_mod (by decide)
  have h7 : ((n : Int) + 2).natAbs < 2 ^ 7 := by
    have p7 : (2 : Nat) ^ 7 = 128 := by decide
    rw [p7]
    omega
  have g2 : ∀ S, gMul (.t (.int z)) (.t (.int ((n : Int) + 2))) S = .ok (.t (.int (z * ((n : Int) + 2)))) S := fun S => ev_mul (mul_small (a := 1048576) (b := 7) hz h7 (by decide) (by decide) (by decide))
  have hb : ∀ c : Int, c.natAbs ≤ (1 + 65 * n) * M → (c + z * ((n : Int) + 2)).natAbs ≤ (1 + 65 * (n + 1)) * M := fun c hc => by
    have a1 := Int.natAbs_add_le c (z * ((n : Int) + 2))
    have a2 : (z * ((n : Int) + 2)).natAbs ≤ M * 65 := by
      rw [Int.natAbs_mul]
      exact Nat.mul_le_mul (by omega) (by omega)
    have a3 : (1 + 65 * (n + 1)) * M = (1 + 65 * n) * M + M * 65 := by
      rw [Nat.mul_add 65, ← Nat.add_assoc, Nat.add_mul _ (65 * 1), Nat.mul_one, Nat.mul_comm 65 M]
    omega
  have hs : ∀ c : Int, c.natAbs ≤ (1 + 65 * n) * M → c.natAbs ≤ (1 + 65 * (n + 1)) * M := fun c hc => Nat.le_trans hc (Nat.mul_le_mul_right M (by omega))
  have cs : (n : Int).fmod 2 = 0 ∨ (n : Int).fmod 2 = 1 := by omega
  generalize (n : Int).fmod 2 = e at g1 cs
  rcases cs with rfl | rfl
  · refine ⟨c0 + z * ((n : Int) + 2), c1, ?_, hb c0 h0, hs c1 h1⟩
    have i0 : gIx (.c 1) (.t (.int 0)) [.scr ns, .lst [.t (.int c0), .t (.int c1)]] = .ok (.t (.int c0)) [.scr ns, .lst [.t (.int c0), .t (.int c1)]] := rfl
    have t0 : tgSub (cVar 2) (c2 gMod (cVar 3) (cVar 1)) (.t (.int (c0 + z * ((n : Int) + 2)))) [some (.c 0), some (.t (.int 2)), some (.c 1), some (.t (.int (n : Int))), some (.t (.int z))] [.scr ns, .lst [.t (.int c0), .t (.int c1)]]
      = .ok [some (.c 0), some (.t (.int 2)), some (.c 1), some (.t (.int (n : Int))), some (.t (.int z))] ([Cell.scr ns, .lst [.t (.int c0), .t (.int c1)]].set 1 (.lst ([Wv.t (.int c0), .t (.int c1)].set 0 (.t (.int (c0 + z * ((n : Int) + 2))))))) := tgSub_ok (i := 0) (j := 0) rfl (g1 _) rfl rfl
    unfold loopB
    rw [ev_sAsg]
    simp only [ev_c2, ev_ix, ev_varS, ev_var0, bind_ok, g1, i0, ev_D, ev_add, g2, then_ok, t0]
    rfl
  · refine ⟨c0, c1 + z * ((n : Int) + 2), ?_, hs c0 h0, hb c1 h1⟩
    have i0 : gIx (.c 1) (.t (.int 1)) [.scr ns, .lst [.t (.int c0), .t (.int c1)]] = .ok (.t (.int c1)) [.scr ns, .lst [.t (.int c0), .t (.int c1)]] := rfl
    have t0 : tgSub (cVar 2) (c2 gMod (cVar 3) (cVar 1)) (.t (.int (c1 + z * ((n : Int) + 2)))) [some (.c 0), some (.t (.int 2)), some (.c 1), some (.t (.int (n : Int))), some (.t (.int z))] [.scr ns, .lst [.t (.int c0), .t (.int c1)]]
      = .ok [some (.c 0), some (.t (.int 2)), some (.c 1), some (.t (.int (n : Int))), some (.t (.int z))] ([Cell.scr ns, .lst [.t (.int c0), .t (.int c1)]].set 1 (.lst ([Wv.t (.int c0), .t (.int c1)].set 1 (.t (.int (c1 + z * ((n : Int) + 2))))))) := tgSub_ok (i := 1) (j := 1) rfl (g1 _) rfl rfl
    unfold loopB
    rw [ev_sAsg]
    simp only [ev_c2, ev_ix, ev_varS, ev_var0, bind_ok, g1, i0, ev_D, ev_add, g2, then_ok, t0]
    rfl
end K43

namespace K43
open PySem PySem.Spec PyProof.Rows L2 Dn
abbrev enumTg : FG := tgTup 2 (tgsCons (tgName 3) (tgsCons (tgName 4) tgsNil))
theorem cells_loop {ns R : List Int} {a b : Int} {M : Nat} (hR : R.length ≤ 63) (hz : ∀ z ∈ R, z.natAbs < 2 ^ 1048576) (hM : 2 ^ 1048576 ≤ M) (ha : a.natAbs ≤ M) (hb : b.natAbs ≤ M) :
    ∃ x3 x4 c0 c1, loopS ⟨enumD 0 (R.map .int), []⟩ enumTg loopB (enumD 0 (R.map .int)) [some (.c 0), some (.t (.int 2)), some (.c 1), none, none] [.scr ns, .lst [.t (.int a), .t (.int b)]]
      = .nx [some (.c 0), some (.t (.int 2)), some (.c 1), x3, x4] [.scr ns, .lst [.t (.int c0), .t (.int c1)]] ∧ c0.natAbs ≤ 4096 * M ∧ c1.natAbs ≤ 4096 * M := by
  have lp := loopS_inv (its := enumD 0 (R.map .int)) (tg := enumTg) (body := loopB) (P := fun n δ T => ∃ x3 x4 c0 c1, δ = [some (.c 0), some (.t (.int 2)), some (.c 1), x3, x4] ∧ T = [.scr ns, .lst [.t (.int c0), .t (.int c1)]] ∧ c0.natAbs ≤ (1 + 65 * n) * M ∧ c1.natAbs ≤ (1 + 65 * n) * M)
    (enumD 0 (R.map .int)) 0 [some (.c 0), some (.t (.int 2)), some (.c 1), none, none] [.scr ns, .lst [.t (.int a), .t (.int b)]] ⟨none, none, a, b, rfl, rfl, by omega, by omega⟩ fun j r δ T ej ⟨x3, x4, c0, c1, e1, e2, b0, b1⟩ => by
      subst e1 e2
      rw [enumD_at, List.getElem?_map] at ej
      cases ez : R[j]? with
      | none =>
        rw [ez] at ej
        cases ej
      | some z =>
        rw [ez] at ej
        cases ej
        have hj := (List.getElem?_eq_some_iff.mp ez).1
        rw [Nat.zero_add] at b0 b1 ⊢
        obtain ⟨d0, d1, t1, t2, t3⟩ := cell_turn (ns := ns) (by omega : j < 63) (hz z (List.mem_of_getElem? ez)) hM b0 b1
        exact ⟨_, _, _, _, rfl, t1, _, _, d0, d1, rfl, rfl, t2, t3⟩
  obtain ⟨δ', S', u1, x3, x4, c0, c1, rfl, rfl, k0, k1⟩ := lp
  rw [Nat.zero_add, enumD_len, List.length_map] at k0 k1
  have hle : (1 + 65 * R.length) * M ≤ 4096 * M := Nat.mul_le_mul_right M (by omega)
  exact ⟨x3, x4, c0, c1, u1, by omega, by omega⟩
theorem cells_ok {ns : List Int} (hl : ns.length ≤ 63) (hb : ∀ z ∈ ns, Builtin.Int.intBits z ≤ 1048576) :
    ∃ i T cs, F__law_cells [.c 0, .t (.int 2)] [.scr ns] = .ok (.c i) T ∧ T[i]? = some (.lst (scrW cs)) ∧ cs.length ≤ 2 ∧ ∀ c ∈ cs, c.natAbs < 2 ^ 2000000 := by
  have big : 4096 * 2 ^ 1048576 < 2 ^ 2000000 := by
    have e : 4096 * 2 ^ 1048576 = 2 ^ 1048588 := by
      rw [show 4096 = 2 ^ 12 from rfl, ← Nat.pow_add]
    rw [e]
    exact Nat.pow_lt_pow_right (by decide) (by decide)
  have one : ∀ z ∈ ns, z.natAbs < 2 ^ 1048576 := fun z hz => bits_lt (hb z hz)
  generalize hM : 2 ^ 1048576 = M at big
  match ns, hl, one with
  | [], _, _ => exact ⟨2, _, [0], rfl, rfl, by decide, fun c hc => by
      rw [List.mem_singleton.mp hc]
      exact Nat.lt_of_le_of_lt (Nat.zero_le _) big⟩
  | [a], _, h1 => exact ⟨1, [.scr [a], .lst [.t (.int a)]], [a], by kernel_rfl, rfl, (by show 1 ≤ 2; decide), fun c hc => by
      rw [List.mem_singleton.mp hc]
      have := h1 a (by simp)
      rw [hM] at this
      omega⟩
  | a :: b :: rest, hl, h1 =>
    have ha := h1 a (by simp)
    have hb := h1 b (by simp)
    obtain ⟨x3, x4, c0, c1, lp, k0, k1⟩ := cells_loop (ns := a :: b :: rest) (R := cutA (a :: b :: rest) (some 2) (some 63)) (a := a) (b := b) (M := M) (Nat.le_trans (cut_len _ _ _) hl) (fun z hz => h1 z (cut_mem hz)) (Nat.le_of_eq hM) (by omega) (by omega)
    refine ⟨1, [.scr (a :: b :: rest), .lst [.t (.int c0), .t (.int c1)]], [c0, c1], ?_, rfl, (by show 2 ≤ 2; decide), fun c hc => ?_⟩
    · have s1 := sl_scr (a :: b :: rest) none (some 2) []
      rw [cut_two] at s1
      have s2 := sl_scr (a :: b :: rest) (some 2) (some 63) [.lst [.t (.int a), .t (.int b)]]
      generalize cutA (a :: b :: rest) (some 2) (some 63) = R at lp s2
      generalize hns : a :: b :: rest = N at s1 s2 lp ⊢
      have t2 : (N.take 2).map PyData.int = [.int a, .int b] := by rw [← hns] <;> rfl
      rw [t2] at s1
      show (B__law_cells [some (.c 0), some (.t (.int 2)), none, none, none] [.scr N]).fin = _
      have f1 : sSet 2 (cOrT (cA gListC (aCons (cSlG gSl (cVar 0) oNone (oSome (cVar 1))) aNil)) (cA gLstC (aCons (cD (.int 0)) aNil))) [some (.c 0), some (.t (.int 2)), none, none, none] [.scr N] = .nx [some (.c 0), some (.t (.int 2)), some (.c 1), none, none] [.scr N, .lst [.t (.int a), .t (.int b)]] := by
        have u1 : cSlG gSl (cVar 0) oNone (oSome (cVar 1)) [some (.c 0), some (.t (.int 2)), none, none, none] [.scr N] = .ok (.t (.list [.int a, .int b])) [.scr N] := s1
        have u2 : cA gListC (aCons (cSlG gSl (cVar 0) oNone (oSome (cVar 1))) aNil) [some (.c 0), some (.t (.int 2)), none, none, none] [.scr N] = .ok (.c 1) [.scr N, .lst [.t (.int a), .t (.int b)]] := by
          rw [ev_cA, ev_aCons, u1]
          rfl
        rw [ev_sSet]
        unfold cOrT
        rw [u2]
        rfl
      have f2 : fA gEnum (aCons (cSlG gSl (cVar 0) (oSome (cVar 1)) (oSome (cD (.int 63)))) aNil) [some (.c 0), some (.t (.int 2)), some (.c 1), none, none] [.scr N, .lst [.t (.int a), .t (.int b)]] = .ok ⟨enumD 0 (R.map .int), []⟩ [.scr N, .lst [.t (.int a), .t (.int b)]] := by
        have u1 : cSlG gSl (cVar 0) (oSome (cVar 1)) (oSome (cD (.int 63))) [some (.c 0), some (.t (.int 2)), some (.c 1), none, none] [.scr N, .lst [.t (.int a), .t (.int b)]] = .ok (.t (.list (R.map .int))) [.scr N, .lst [.t (.int a), .t (.int b)]] := s2
        rw [ev_fA, ev_aCons, u1]
        simp only [bind_ok, ev_aNil]
        unfold gEnum
        dsimp only
        rw [if_pos (show seqT (Wv.t (PyData.list (R.map PyData.int))) = none from rfl)]
        unfold srcOf
        dsimp only
        rw [treesOf_map]
      have all : B__law_cells = sSeq (sSet 2 (cOrT (cA gListC (aCons (cSlG gSl (cVar 0) oNone (oSome (cVar 1))) aNil)) (cA gLstC (aCons (cD (.int 0)) aNil)))) (sSeq (sFor (fA gEnum (aCons (cSlG gSl (cVar 0) (oSome (cVar 1)) (oSome (cD (.int 63)))) aNil)) enumTg loopB) (sRet (cVar 2))) := rfl
      rw [all, ev_seq, f1]
      dsimp only
      rw [ev_seq, ev_sFor, f2, then_ok]
      dsimp only
      rw [lp]
      rfl
    · rcases List.mem_cons.mp hc with rfl | hc
      · omega
      · rw [List.mem_singleton.mp hc]
        omega
theorem law_ok {ns : List Int} (hl : ns.length ≤ 63) (hb : ∀ z ∈ ns, Builtin.Int.intBits z ≤ 1048576) : ∃ S', F_law [.c 0] [.scr ns] = .ok (.t (.bool true)) S' := by
  obtain ⟨i, T, cs, q1, q2, q3, q4⟩ := cells_ok hl hb
  have hi := (List.getElem?_eq_some_iff.mp q2).1
  have ln : cA gLen (aCons (cVar 1) aNil) [some (.c 0), some (.c i), none] T = .ok (.t (.int (cs.length : Int))) T := by
    have sq : seqA T (.c i) = some (scrW cs) := by
      unfold seqA seqL
      dsimp only
      rw [q2]
    have g : gLen [.c i] T = .ok (.t (.int (cs.length : Int))) T := by
      unfold gLen
      dsimp only
      rw [sq]
      dsimp only
      unfold scrW
      rw [List.length_map]
      rfl
    rw [ev_cA, ev_aCons, show cVar 1 [some (.c 0), some (.c i), none] T = .ok (.c i) T from rfl]
    simp only [bind_ok, ev_aNil, g]
  have rg : fA gRange1 (aCons (cA gLen (aCons (cVar 1) aNil)) aNil) [some (.c 0), some (.c i), none] T = .ok ⟨rngL 0 cs.length, []⟩ T := by
    have z : gRange1 [.t (.int (cs.length : Int))] T = .ok ⟨rngL 0 cs.length, []⟩ T := by
      have c : cs.length = 0 ∨ cs.length = 1 ∨ cs.length = 2 := by omega
      generalize cs.length = k at c
      rcases c with rfl | rfl | rfl <;> rfl
    rw [ev_fA, ev_aCons, ln, bind_ok, ev_aNil, bind_ok, bind_ok, z]
  have comp := comp_inv (it := fA gRange1 (aCons (cA gLen (aCons (cVar 1) aNil)) aNil)) (vs := [2]) (tg := tgName 2) (elt := cCall 1 F__law_right (aCons (cCall 2 F__law_box (aCons (cVar 1) (aCons (cVar 2) aNil))) aNil))
    (δ := [some (.c 0), some (.c i), none]) (S := T) (S1 := T) (items := rngL 0 cs.length) (P := fun _ U => T.length ≤ U.length ∧ ∀ j, j < T.length → U[j]? = T[j]?) (V := fun y => y = .t (.bool true)) rg (by rw [rng_len]; unfold LIM; omega)
    ⟨by rw [List.length_append]; omega, fun j hj => List.getElem?_append_left hj⟩ fun n r U acc hn hr p e => by
      obtain ⟨k, hk, rfl⟩ := rng_mem hr
      have hU := (List.getElem?_eq_some_iff.mp e).1
      have ec : cs[k]? = some cs[k] := List.getElem?_eq_getElem hk
      obtain ⟨a, b, bo⟩ := box_ok (T := U) (i := i) (cs := cs) (k := k) (by rw [p.2 i hi]; exact q2) ec (q4 _ (List.mem_of_getElem? ec)) (by omega)
      obtain ⟨U', r1, r2, r3⟩ := right_ok (S := U ++ [bx a b 0]) (i := U.length) (b0 := a) (b1 := b) (b2 := 0) app_at (by decide) (by decide)
      rw [List.length_append, List.length_singleton] at r2 r3
      have old : ∀ j, j < U.length → U'[j]? = U[j]? := fun j hj => by rw [r3 j (by omega) (by omega), List.getElem?_append_left hj]
      refine ⟨[some (.c 0), some (.c i), some (.t (.int (k : Int)))], .t (.bool true), U', rfl, ?_, rfl, by rw [old _ hU]; exact e, by rw [List.length_set]; omega, fun j hj => ?_⟩
      · simp only [ev_call, ev_aCons, ev_varS, ev_var0, bind_ok, ev_aNil, List.length_cons, List.length_nil, if_true, bo, r1]
      · rw [List.getElem?_set_ne (by omega), old j (by omega)]
        exact p.2 j hj
  obtain ⟨ys, U, c1, c2, c3, c4, c5⟩ := comp
  obtain ⟨bs, e1, e2⟩ := boolsOf_true ys c3
  have ga : gAll [.c T.length] U = .ok (.t (.bool true)) U := by
    have sq : seqL U (.c T.length) = some ys := by
      unfold seqL
      dsimp only
      rw [c4]
    unfold gAll
    dsimp only
    rw [sq]
    dsimp only
    rw [e1]
    dsimp only
    rw [e2]
    rfl
  refine ⟨U, ?_⟩
  show (B_law [some (.c 0), none, none] [.scr ns]).fin = _
  have h0 := hand_ok ns
  have f1 : sIf (fNot (fB (cCall0 F__law_by_hand_right))) (sRet (cD (.bool false))) sNil [some (.c 0), none, none] [.scr ns] = .nx [some (.c 0), none, none] [.scr ns] := by
    simp only [ev_sIf, ev_fNot, ev_fB, ev_call0, h0, ev_noxOk, bind_ok, ev_bool, Bool.not_true, then_ok, Bool.false_eq_true, if_false, ev_sNil]
  have f2 : sSet 1 (cCall 2 F__law_cells (aCons (cVar 0) (aCons (cD (.int 2)) aNil))) [some (.c 0), none, none] [.scr ns] = .nx [some (.c 0), some (.c i), none] T := by
    simp only [ev_sSet, ev_call, ev_aCons, ev_var0, ev_D, bind_ok, ev_aNil, List.length_cons, List.length_nil, if_true, q1, then_ok, List.set]
  unfold B_law
  rw [ev_seq, f1]
  dsimp only
  rw [ev_seq, f2]
  dsimp only
  have f3 : cA gAll (aCons (cCompC (fA gRange1 (aCons (cA gLen (aCons (cVar 1) aNil)) aNil)) [2] (tgName 2) fYes (cCall 1 F__law_right (aCons (cCall 2 F__law_box (aCons (cVar 1) (aCons (cVar 2) aNil))) aNil))) aNil) [some (.c 0), some (.c i), none] T = .ok (.t (.bool true)) U := by
    rw [ev_cA, ev_aCons, c1]
    exact ga
  rw [ev_sRet, f3]
  rfl
end K43

open PySem PySem.W PyProof.Rows
theorem PySem.Challenge.cw_crosslocks_k43_refusals_however_handed_i_holds : PySem.Challenge.rw_crosslocks_k43_refusals_however_handed_i.Holds := by
  exact K43.holds_of fun ns hl hb => K43.law_ok hl hb
