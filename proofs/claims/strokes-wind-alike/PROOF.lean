import PyProof.Rows.All
import Wide.All
import OpenK.AllK
import Wide.FinOn
import HandS.ForMost
import HandS.Codes
import HandS.Wide
import HandS.WideBits
import HandS.Evl
import HandS.Conv
import KE.KDictZip
import HandS.Walk
import HandS.RevTup
import HandS.Rev
import HandS.More
import PySem.Challenge.RW_arcmill_k76_whole_cut_strokes_wind_alike
import HandS.Head0
import HandS.Head1
import HandS.Head2
import HandS.HeadEnd
import HandS.HeadHook1
import HandS.HeadHook2
import HandS.HeadHook3
set_option Elab.async false
set_option linter.all false
set_option maxRecDepth 100000
set_option maxHeartbeats 4000000
/-! Base layer: readings that are the weakest conditions themselves. -/
namespace Ar
open PySem L2

/-! ### data without lists, in the abstract heap -/
mutual
inductive Rp (K : PySem.W.Frag) (H : Hp) : V → PyData → Prop
  | non : Rp K H .non .none
  | bl (b : Bool) : Rp K H (.bl b) (.bool b)
  | int (i : Int) : Rp K H (.int i) (.int i)
  | str (x : Str) : Rp K H (.str x) (.str x)
  | tup {a : Addr} {xs : List V} {ds : List PyData} : SqT K H a xs → RpL K H xs ds → Rp K H (.ref a) (.tuple ds)
inductive RpL (K : PySem.W.Frag) (H : Hp) : List V → List PyData → Prop
  | nil : RpL K H [] []
  | cons {v : V} {vs : List V} {d : PyData} {ds : List PyData} : Rp K H v d → RpL K H vs ds → RpL K H (v :: vs) (d :: ds)
end

/-- every tuple stands -/
def KT (H H' : Hp) : Prop := ∀ a xs, Rd H a (.tup xs) → Rd H' a (.tup xs)
theorem KT.refl (H : Hp) : KT H H := fun _ _ h => h
theorem KT.trans {H H1 H2 : Hp} (a : KT H H1) (b : KT H1 H2) : KT H H2 := fun x o h => b x o (a x o h)
/-- all stands -/
abbrev Ex (H H' : Hp) : Prop := Evl.Ex H H'
theorem Ex.kt {H H' : Hp} (e : Ex H H') : KT H H' := fun _ _ h => Evl.ex_rd e h
theorem ex_refl (H : Hp) : Ex H H := fun _ _ h => h
theorem ex_new {H : Hp} {p : Addr} {o : HO} (h : H p = none) : Ex H (upd H p o) := Evl.Ex.new h
/-- a list is changed -/
theorem KT.lst {H : Hp} {l : Addr} {xs : List V} {o : HO} (h : H l = some (.lst xs)) : KT H (upd H l o) := fun a ys q => by
  have ne : a ≠ l := by
    rintro rfl
    rcases q with q | ⟨_, q⟩ <;> (rw [h] at q; cases q)
  rcases q with q | ⟨o', q⟩
  · exact Or.inl (by rw [upd_ne ne]; exact q)
  · exact Or.inr ⟨o', by rw [upd_ne ne]; exact q⟩
section
variable {K : PySem.W.Frag} {H H' : Hp}
theorem KT.sqT {a : Addr} {xs : List V} (k : KT H H') (h : SqT K H a xs) : SqT K H' a xs := by
  rcases h with h | h
  · exact Or.inl (k a xs h)
  · exact Or.inr h
mutual
theorem Rp.kt (k : KT H H') : ∀ (d : PyData) (v : V), Rp K H v d → Rp K H' v d
  | .none, _, h => by cases h; exact .non
  | .bool b, _, h => by cases h; exact .bl b
  | .int i, _, h => by cases h; exact .int i
  | .str x, _, h => by cases h; exact .str x
  | .tuple ds, _, h => by
    cases h with
    | tup hs ha => exact .tup (k.sqT hs) (RpL.kt k ds _ ha)
  | .list _, _, h => by cases h
  | .dict _, _, h => by cases h
theorem RpL.kt (k : KT H H') : ∀ (ds : List PyData) (vs : List V), RpL K H vs ds → RpL K H' vs ds
  | [], _, h => by cases h; exact .nil
  | d :: ds, _, h => by
    cases h with
    | cons h1 h2 => exact .cons (Rp.kt k d _ h1) (RpL.kt k ds _ h2)
end
theorem Rp.ex {v : V} {d : PyData} (h : Rp K H v d) (e : Ex H H') : Rp K H' v d := Rp.kt (Ex.kt e) d v h
theorem RpL.ex {v : List V} {d : List PyData} (h : RpL K H v d) (e : Ex H H') : RpL K H' v d := RpL.kt (Ex.kt e) d v h
mutual
theorem Rp.dp : ∀ (d : PyData) (v : V), Rp K H v d → Dp K H v d
  | .none, _, h => by cases h; exact .non
  | .bool b, _, h => by cases h; exact .bl b
  | .int i, _, h => by cases h; exact .int i
  | .str x, _, h => by cases h; exact .str x
  | .tuple ds, _, h => by
    cases h with
    | tup hs ha => exact .tup hs (RpL.dp ds _ ha)
  | .list _, _, h => by cases h
  | .dict _, _, h => by cases h
theorem RpL.dp : ∀ (ds : List PyData) (vs : List V), RpL K H vs ds → DpAll K H vs ds
  | [], _, h => by cases h; exact .nil
  | d :: ds, _, h => by
    cases h with
    | cons h1 h2 => exact .cons (Rp.dp d _ h1) (RpL.dp ds _ h2)
end
theorem RpL.length : ∀ {vs : List V} {ds : List PyData}, RpL K H vs ds → vs.length = ds.length
  | _, [], h => by cases h; rfl
  | _, d :: ds, h => by
    cases h with
    | cons h1 h2 => rw [List.length_cons, List.length_cons, RpL.length h2]
theorem RpL.get : ∀ {vs : List V} {ds : List PyData} {i : Nat} {d : PyData}, RpL K H vs ds → ds[i]? = some d → ∃ v, vs[i]? = some v ∧ Rp K H v d
  | _, [], _, _, _, e => by simp at e
  | _, d :: ds, 0, d', h, e => by
    cases h with
    | cons h1 h2 =>
      have e' : d = d' := Option.some.inj e
      subst e'
      exact ⟨_, rfl, h1⟩
  | _, d :: ds, i + 1, d', h, e => by
    cases h with
    | cons h1 h2 => exact RpL.get (i := i) h2 e
theorem RpL.get' : ∀ {vs : List V} {ds : List PyData} {i : Nat} {v : V}, RpL K H vs ds → vs[i]? = some v → ∃ d, ds[i]? = some d ∧ Rp K H v d
  | _, [], _, _, h, e => by cases h; simp at e
  | _, d :: ds, 0, v', h, e => by
    cases h with
    | cons h1 h2 =>
      have e' := Option.some.inj e
      subst e'
      exact ⟨_, rfl, h1⟩
  | _, d :: ds, i + 1, v', h, e => by
    cases h with
    | cons h1 h2 => exact RpL.get' (i := i) h2 e
theorem RpL.append : ∀ {vs ws : List V} {ds es : List PyData}, RpL K H vs ds → RpL K H ws es → RpL K H (vs ++ ws) (ds ++ es)
  | _, _, [], _, h, h' => by cases h; exact h'
  | _, _, d :: ds, _, h, h' => by
    cases h with
    | cons h1 h2 => exact .cons h1 (RpL.append h2 h')
theorem RpL.take : ∀ (n : Nat) {vs : List V} {ds : List PyData}, RpL K H vs ds → RpL K H (vs.take n) (ds.take n)
  | 0, _, _, _ => by rw [List.take_zero, List.take_zero]; exact .nil
  | _ + 1, _, [], h => by cases h; exact .nil
  | n + 1, _, _ :: _, h => by
    cases h with
    | cons h1 h2 => exact .cons h1 (RpL.take n h2)
theorem RpL.drop : ∀ (n : Nat) {vs : List V} {ds : List PyData}, RpL K H vs ds → RpL K H (vs.drop n) (ds.drop n)
  | 0, _, _, h => h
  | _ + 1, _, [], h => by cases h; exact .nil
  | n + 1, _, _ :: _, h => by
    cases h with
    | cons h1 h2 => exact RpL.drop n h2
theorem RpL.one {v : V} {d : PyData} (h : Rp K H v d) : RpL K H [v] [d] := .cons h .nil
theorem RpL.reverse : ∀ {vs : List V} {ds : List PyData}, RpL K H vs ds → RpL K H vs.reverse ds.reverse
  | _, [], h => by cases h; exact .nil
  | _, d :: ds, h => by
    cases h with
    | cons h1 h2 =>
      rw [List.reverse_cons, List.reverse_cons]
      exact (RpL.reverse h2).append (.one h1)
theorem RpL.of_get {vs : List V} {ds : List PyData} (hl : vs.length = ds.length) (h : ∀ (i : Nat) (v : V) (d : PyData), vs[i]? = some v → ds[i]? = some d → Rp K H v d) : RpL K H vs ds := by
  induction vs generalizing ds with
  | nil =>
    cases ds with
    | nil => exact .nil
    | cons d ds => simp at hl
  | cons v vs ih =>
    cases ds with
    | nil => simp at hl
    | cons d ds => exact .cons (h 0 v d rfl rfl) (ih (by simpa using hl) fun i v' d' e1 e2 => h (i + 1) v' d' e1 e2)
theorem Rp.tup_inv {v : V} {ds : List PyData} (h : Rp K H v (.tuple ds)) : ∃ a xs, v = .ref a ∧ SqT K H a xs ∧ RpL K H xs ds := by
  cases h with
  | tup hs ha => exact ⟨_, _, rfl, hs, ha⟩
theorem Rp.int_inv {v : V} {i : Int} (h : Rp K H v (.int i)) : v = .int i := by cases h; rfl
theorem Rp.bl_inv {v : V} {i : Bool} (h : Rp K H v (.bool i)) : v = .bl i := by cases h; rfl
theorem Rp.str_inv {v : V} {i : Str} (h : Rp K H v (.str i)) : v = .str i := by cases h; rfl
theorem Rp.non_inv {v : V} (h : Rp K H v .none) : v = .non := by cases h; rfl
theorem Rp.ref_tup {a : Addr} {d : PyData} (h : Rp K H (.ref a) d) : ∃ ds xs, d = .tuple ds ∧ SqT K H a xs ∧ RpL K H xs ds := by
  cases h with
  | tup hs ha => exact ⟨_, _, rfl, hs, ha⟩
end

/-! ### the weakest readings -/
def uE (X : Cx) (e : Expr) : TE := fun σ H Q => ∀ pins s, Inv X pins σ H s → wpAny (model X.prog X.w) X.A (eval e X.env) (EP X pins σ Q) X.xe s
def uT (X : Cx) (e : Expr) : TT := fun σ H Q => ∀ pins s, Inv X pins σ H s → wpAny (model X.prog X.w) X.A (isTrue e X.env (eval e X.env)) (TP X pins σ Q) X.xe s
def uW (X : Cx) (e : Expr) : TT := fun σ H Q => ∀ whole pins s, Inv X pins σ H s → wpAny (model X.prog X.w) X.A (isTrue e X.env whole) (TP X pins σ Q) X.xe s
def uA (X : Cx) (es : List Expr) : TA := fun σ H Q => ∀ pos pins s, Inv X pins σ H s → wpAny (model X.prog X.w) X.A (spliced (backTo pos (starEach es X.env))) (AP X pins σ Q) X.xe s
/-- a block, from a state on -/
structure Go (X : Cx) (sts : List Stmt) (D : Ends) (σ : St) (H : Hp) : Prop where
  run : ∀ pins s, Inv X pins σ H s → wpAny (model X.prog X.w) X.A (execs sts X.env) (SP X pins D) X.xe s
section
variable {X : Cx} {e : Expr} {es : List Expr} {sts : List Stmt} {σ : St} {H : Hp}
theorem pe_u : PE X e (uE X e) := ⟨fun pins s _ _ _ I h => h pins s I⟩
theorem pt_u : PT X e (uT X e) := ⟨fun pins s _ _ _ I h => h pins s I⟩
theorem pw_u : PW X e (uW X e) := ⟨fun wh pins s _ _ _ I h => h wh pins s I⟩
theorem pa_u : PA X es (uA X es) := ⟨fun pos pins s _ _ _ I h => h pos pins s I⟩
theorem pss_u : PSs X sts (Go X sts) := ⟨fun pins s _ _ _ I h => h.run pins s I⟩
theorem uE.of {t : TE} (h : PE X e t) {Q : VK} (q : t σ H Q) : uE X e σ H Q := fun pins s I => h.run pins s σ H Q I q
theorem uT.of {t : TT} (h : PT X e t) {Q : Bool → Hp → Prop} (q : t σ H Q) : uT X e σ H Q := fun pins s I => h.run pins s σ H Q I q
theorem uW.of {t : TT} (h : PW X e t) {Q : Bool → Hp → Prop} (q : t σ H Q) : uW X e σ H Q := fun wh pins s I => h.run wh pins s σ H Q I q
theorem uA.of {t : TA} (h : PA X es t) {Q : List V → Hp → Prop} (q : t σ H Q) : uA X es σ H Q := fun pos pins s I => h.run pos pins s σ H Q I q
theorem Go.of {t : TS} (h : PSs X sts t) {D : Ends} (q : t D σ H) : Go X sts D σ H := ⟨fun pins s I => h.run pins s σ H D I q⟩
end

/-! ### what evaluates to what: the value and the heap behind it, in every heap that holds more -/
def Ev (X : Cx) (σ : St) (H : Hp) (e : Expr) (R : V → Hp → Prop) : Prop := ∀ H1, Ex H H1 → ∀ Q : VK, (∀ v H2, Ex H1 H2 → R v H2 → Q v H2) → uE X e σ H1 Q
def EvT (X : Cx) (σ : St) (H : Hp) (e : Expr) (b : Bool) : Prop := ∀ H1, Ex H H1 → ∀ Q : Bool → Hp → Prop, (∀ H2, Ex H1 H2 → Q b H2) → uT X e σ H1 Q
def EvW (X : Cx) (σ : St) (H : Hp) (e : Expr) (b : Bool) : Prop := ∀ H1, Ex H H1 → ∀ Q : Bool → Hp → Prop, (∀ H2, Ex H1 H2 → Q b H2) → uW X e σ H1 Q
def EvA (X : Cx) (σ : St) (H : Hp) (es : List Expr) (R : List V → Hp → Prop) : Prop := ∀ H1, Ex H H1 → ∀ Q : List V → Hp → Prop, (∀ v H2, Ex H1 H2 → R v H2 → Q v H2) → uA X es σ H1 Q
/-- the value stands for d -/
abbrev EvD (X : Cx) (σ : St) (H : Hp) (e : Expr) (d : PyData) : Prop := Ev X σ H e fun v H2 => Rp X.K H2 v d
abbrev EvDs (X : Cx) (σ : St) (H : Hp) (es : List Expr) (ds : List PyData) : Prop := EvA X σ H es fun vs H2 => RpL X.K H2 vs ds
/-- a list of data -/
def LsR (K : PySem.W.Frag) (ds : List PyData) : V → Hp → Prop := fun v H => ∃ a xs, v = .ref a ∧ SqL K H a xs ∧ RpL K H xs ds
abbrev EvL (X : Cx) (σ : St) (H : Hp) (e : Expr) (ds : List PyData) : Prop := Ev X σ H e (LsR X.K ds)
/-- a new list of data: nothing of the heap ahead is changed, its address is new -/
def Mo (R : V → Hp → Prop) : Prop := ∀ v H H', Ex H H' → R v H → R v H'
theorem mo_rp {K : PySem.W.Frag} {d : PyData} : Mo (fun v H => Rp K H v d) := fun _ _ _ e h => h.ex e
theorem mo_ls {K : PySem.W.Frag} {ds : List PyData} : Mo (LsR K ds) := fun _ _ _ e ⟨a, xs, h1, h2, h3⟩ => ⟨a, xs, h1, Evl.ex_l e h2, h3.ex e⟩
theorem mo_eq {w : V} : Mo (fun v _ => v = w) := fun _ _ _ _ h => h
section
variable {X : Cx} {σ : St} {H H' : Hp} {a b c e : Expr} {es : List Expr} {pos : Pos} {R R' : V → Hp → Prop} {d d' : PyData}
theorem Ev.mono (h : Ev X σ H e R) (x : Ex H H') : Ev X σ H' e R := fun H1 e1 => h H1 (x.trans e1)
theorem EvT.mono {k : Bool} (h : EvT X σ H e k) (x : Ex H H') : EvT X σ H' e k := fun H1 e1 => h H1 (x.trans e1)
theorem Ev.imp (h : Ev X σ H e R) (i : ∀ v H1, Ex H H1 → R v H1 → R' v H1) : Ev X σ H e R' := fun H1 e1 Q q => h H1 e1 Q fun v H2 e2 r => q v H2 e2 (i v H2 (e1.trans e2) r)
theorem Ev.cast (h : EvD X σ H e d) (q : d = d') : EvD X σ H e d' := q ▸ h
theorem EvT.cast {k k' : Bool} (h : EvT X σ H e k) (q : k = k') : EvT X σ H e k' := q ▸ h
/-- names and constants -/
theorem ev_v (i : Nat) {x : Str} {v : V} (hs : σ[i]? = some (some v)) (hN : X.N[i]? = some x := by rfl) (hv : Vis X.env.scope x := by first | exact Or.inl rfl | exact Or.inr (Or.inl rfl) | exact Or.inr (Or.inr rfl))
    (hd : (x == ("__debug__" : Str)) = false := by decide) (hcd : (x == ("__classdict__" : Str)) = false := by decide) : Ev X σ H (.Name x pos) (fun w _ => w = v) := fun H1 _ Q q =>
  uE.of (pe_var hN hv hd hcd) ⟨v, hs, q v H1 (ex_refl H1) rfl⟩
theorem ev_n (i : Nat) {x : Str} {v : V} (hs : σ[i]? = some (some v)) (r : R v H) (m : Mo R) (hN : X.N[i]? = some x := by rfl) (hv : Vis X.env.scope x := by first | exact Or.inl rfl | exact Or.inr (Or.inl rfl) | exact Or.inr (Or.inr rfl))
    (hd : (x == ("__debug__" : Str)) = false := by decide) (hcd : (x == ("__classdict__" : Str)) = false := by decide) : Ev X σ H (.Name x pos) R :=
  (ev_v i hs hN hv hd hcd).imp fun w H1 e1 q => by rw [q]; exact m _ _ _ e1 r
theorem ev_d (i : Nat) {x : Str} {v : V} (r : Rp X.K H v d) (hs : σ[i]? = some (some v) := by rfl) (hN : X.N[i]? = some x := by rfl) (hv : Vis X.env.scope x := by first | exact Or.inl rfl | exact Or.inr (Or.inl rfl) | exact Or.inr (Or.inr rfl))
    (hd : (x == ("__debug__" : Str)) = false := by decide) (hcd : (x == ("__classdict__" : Str)) = false := by decide) : EvD X σ H (.Name x pos) d := ev_n i hs r mo_rp hN hv hd hcd
theorem ev_int {i : Int} {j : Nat} : EvD X σ H (.Constant (.int i) j pos) (.int i) := fun H1 _ Q q => uE.of pe_int (q _ H1 (ex_refl H1) (.int i))
theorem ev_bl {i : Bool} {j : Nat} : EvD X σ H (.Constant (.bool i) j pos) (.bool i) := fun H1 _ Q q => uE.of pe_bl (q _ H1 (ex_refl H1) (.bl i))
theorem ev_non {j : Nat} : EvD X σ H (.Constant .none j pos) .none := fun H1 _ Q q => uE.of pe_non (q _ H1 (ex_refl H1) .non)
theorem ev_str {x : Str} {j : Nat} : EvD X σ H (.Constant (.str x) j pos) (.str x) := fun H1 _ Q q => uE.of pe_str (q _ H1 (ex_refl H1) (.str x))
/-- a module's constant -/
theorem ev_glob {x : Str} {v : V} {u : Value} (hm : X.mg x = some u) (r : RelV v u) (hr : Rp X.K H v d) (hg : Gl X x := by rfl) (hd : (x == ("__debug__" : Str)) = false := by decide) : EvD X σ H (.Name x pos) d := fun H1 e1 Q q =>
  uE.of (pe_glob hg hm r hd) (q v H1 (ex_refl H1) (hr.ex e1))
/-- operators by a rule -/
theorem ev_opR {op : Operator} {r : R2} {Ra Rb : V → Hp → Prop} (ho : OpR X (binaryOp op) r) (ha : Ev X σ H a Ra) (hb : Ev X σ H b Rb) (m : Mo Ra)
    (h : ∀ x y H2, Ex H H2 → Ra x H2 → Rb y H2 → ∀ Q : VK, (∀ v H3, Ex H2 H3 → R v H3 → Q v H3) → r x y H2 Q) : Ev X σ H (.BinOp a op b pos) R := fun H1 e1 Q q =>
  uE.of (pe_op ho pe_u pe_u) (ha H1 e1 _ fun x H2 e2 rx => hb H2 (e1.trans e2) _ fun y H3 e3 ry => h x y H3 ((e1.trans e2).trans e3) (m _ _ _ e3 rx) ry Q fun v H4 e4 rv => q v H4 ((e2.trans e3).trans e4) rv)
theorem ev_add {i j : Int} (ha : EvD X σ H a (.int i)) (hb : EvD X σ H b (.int j)) : EvD X σ H (.BinOp a .Add b pos) (.int (i + j)) :=
  ev_opR op_add ha hb mo_rp fun x y H2 _ rx ry Q q => ⟨i, j, rx.int_inv, ry.int_inv, q _ H2 (ex_refl H2) (.int _)⟩
theorem ev_sub {i j : Int} (ha : EvD X σ H a (.int i)) (hb : EvD X σ H b (.int j)) : EvD X σ H (.BinOp a .Sub b pos) (.int (i - j)) :=
  ev_opR op_sub ha hb mo_rp fun x y H2 _ rx ry Q q => ⟨i, j, rx.int_inv, ry.int_inv, q _ H2 (ex_refl H2) (.int _)⟩
theorem ev_mul {i j : Int} (ha : EvD X σ H a (.int i)) (hb : EvD X σ H b (.int j)) (hc : CMulX i j) : EvD X σ H (.BinOp a .Mult b pos) (.int (i * j)) :=
  ev_opR op_mulX ha hb mo_rp fun x y H2 _ rx ry Q q => ⟨i, j, rx.int_inv, ry.int_inv, hc, q _ H2 (ex_refl H2) (.int _)⟩
theorem ev_mod {i j : Int} (ha : EvD X σ H a (.int i)) (hb : EvD X σ H b (.int j)) (hc : 0 < j) : EvD X σ H (.BinOp a .Mod b pos) (.int (i % j)) :=
  ev_opR op_mod ha hb mo_rp fun x y H2 _ rx ry Q q => ⟨i, j, rx.int_inv, ry.int_inv, hc, q _ H2 (ex_refl H2) (.int _)⟩
/-- // by a small positive number -/
theorem ev_div {i j : Int} (ha : EvD X σ H a (.int i)) (hb : EvD X σ H b (.int j)) (hc : CDiv i j) : EvD X σ H (.BinOp a .FloorDiv b pos) (.int (i / j)) :=
  ev_opR op_fdiv ha hb mo_rp fun x y H2 _ rx ry Q q => ⟨i, j, rx.int_inv, ry.int_inv, hc, q _ H2 (ex_refl H2) (.int _)⟩
theorem ev_neg {i : Int} (ha : EvD X σ H a (.int i)) : EvD X σ H (.UnaryOp .USub a pos) (.int (-i)) := fun H1 e1 Q q =>
  uE.of (pe_un un_neg pe_u) (ha H1 e1 _ fun x H2 e2 rx => ⟨i, rx.int_inv, q _ H2 e2 (.int _)⟩)
/-- comparisons as values -/
theorem ev_cmpR {op : CmpOp} {r : R2} {Ra Rb : V → Hp → Prop} (ho : OpR X (compareOp op) r) (ha : Ev X σ H a Ra) (hb : Ev X σ H b Rb) (m : Mo Ra) (hm : behindInMarks op b = false)
    (h : ∀ x y H2, Ex H H2 → Ra x H2 → Rb y H2 → ∀ Q : VK, (∀ v H3, Ex H2 H3 → R v H3 → Q v H3) → r x y H2 Q) : Ev X σ H (.Compare a [op] [b] pos) R := fun H1 e1 Q q =>
  uE.of (pe_cmpR ho pe_u pe_u hm) (ha H1 e1 _ fun x H2 e2 rx => hb H2 (e1.trans e2) _ fun y H3 e3 ry => h x y H3 ((e1.trans e2).trans e3) (m _ _ _ e3 rx) ry Q fun v H4 e4 rv => q v H4 ((e2.trans e3).trans e4) rv)
theorem et_cmpR {op : CmpOp} {r : R2} {Ra Rb : V → Hp → Prop} {k : Bool} (ho : OpR X (compareOp op) r) (ha : Ev X σ H a Ra) (hb : Ev X σ H b Rb) (m : Mo Ra) (hm : behindInMarks op b = false)
    (h : ∀ x y H2, Ex H H2 → Ra x H2 → Rb y H2 → ∀ Q : VK, (∀ H3, Ex H2 H3 → Q (.bl k) H3) → r x y H2 Q) : EvT X σ H (.Compare a [op] [b] pos) k := fun H1 e1 Q q =>
  uT.of (pt_cmpR ho pe_u pe_u hm) (ha H1 e1 _ fun x H2 e2 rx => hb H2 (e1.trans e2) _ fun y H3 e3 ry => h x y H3 ((e1.trans e2).trans e3) (m _ _ _ e3 rx) ry _ fun H4 e4 => ⟨k, rfl, q H4 ((e2.trans e3).trans e4)⟩)
theorem ev_lt {i j : Int} (ha : EvD X σ H a (.int i)) (hb : EvD X σ H b (.int j)) : EvD X σ H (.Compare a [.Lt] [b] pos) (.bool (decide (i < j))) :=
  ev_cmpR op_lt ha hb mo_rp (nomark _) fun x y H2 _ rx ry Q q => ⟨i, j, rx.int_inv, ry.int_inv, q _ H2 (ex_refl H2) (.bl _)⟩
theorem ev_gt {i j : Int} (ha : EvD X σ H a (.int i)) (hb : EvD X σ H b (.int j)) : EvD X σ H (.Compare a [.Gt] [b] pos) (.bool (decide (j < i))) :=
  ev_cmpR op_gt ha hb mo_rp (nomark _) fun x y H2 _ rx ry Q q => ⟨i, j, rx.int_inv, ry.int_inv, q _ H2 (ex_refl H2) (.bl _)⟩
theorem ev_le {i j : Int} (ha : EvD X σ H a (.int i)) (hb : EvD X σ H b (.int j)) : EvD X σ H (.Compare a [.LtE] [b] pos) (.bool (decide (i ≤ j))) :=
  ev_cmpR op_le ha hb mo_rp (nomark _) fun x y H2 _ rx ry Q q => ⟨i, j, rx.int_inv, ry.int_inv, q _ H2 (ex_refl H2) (.bl _)⟩
theorem et_lt {i j : Int} (ha : EvD X σ H a (.int i)) (hb : EvD X σ H b (.int j)) : EvT X σ H (.Compare a [.Lt] [b] pos) (decide (i < j)) :=
  et_cmpR op_lt ha hb mo_rp (nomark _) fun x y H2 _ rx ry Q q => ⟨i, j, rx.int_inv, ry.int_inv, q H2 (ex_refl H2)⟩
theorem et_gt {i j : Int} (ha : EvD X σ H a (.int i)) (hb : EvD X σ H b (.int j)) : EvT X σ H (.Compare a [.Gt] [b] pos) (decide (j < i)) :=
  et_cmpR op_gt ha hb mo_rp (nomark _) fun x y H2 _ rx ry Q q => ⟨i, j, rx.int_inv, ry.int_inv, q H2 (ex_refl H2)⟩
theorem et_le {i j : Int} (ha : EvD X σ H a (.int i)) (hb : EvD X σ H b (.int j)) : EvT X σ H (.Compare a [.LtE] [b] pos) (decide (i ≤ j)) :=
  et_cmpR op_le ha hb mo_rp (nomark _) fun x y H2 _ rx ry Q q => ⟨i, j, rx.int_inv, ry.int_inv, q H2 (ex_refl H2)⟩
theorem et_ge {i j : Int} (ha : EvD X σ H a (.int i)) (hb : EvD X σ H b (.int j)) : EvT X σ H (.Compare a [.GtE] [b] pos) (decide (j ≤ i)) :=
  et_cmpR op_ge ha hb mo_rp (nomark _) fun x y H2 _ rx ry Q q => ⟨i, j, rx.int_inv, ry.int_inv, q H2 (ex_refl H2)⟩
/-- == and != of data -/
theorem ev_eq (hu : X.A.units + 64 < cLine) (ha : EvD X σ H a d) (hb : EvD X σ H b d') (s1 : SeqAt.shaped d = true) (s2 : SeqAt.shaped d' = true) : EvD X σ H (.Compare a [.Eq] [b] pos) (.bool (PyData.eqv d d')) :=
  ev_cmpR (op_eqD hu) ha hb mo_rp (nomark _) fun x y H2 _ rx ry Q q => ⟨d, d', rx.dp, ry.dp, s1, s2, q _ H2 (ex_refl H2) (.bl _)⟩
theorem et_eq (hu : X.A.units + 64 < cLine) (ha : EvD X σ H a d) (hb : EvD X σ H b d') (s1 : SeqAt.shaped d = true) (s2 : SeqAt.shaped d' = true) : EvT X σ H (.Compare a [.Eq] [b] pos) (PyData.eqv d d') :=
  et_cmpR (op_eqD hu) ha hb mo_rp (nomark _) fun x y H2 _ rx ry Q q => ⟨d, d', rx.dp, ry.dp, s1, s2, q H2 (ex_refl H2)⟩
theorem ev_ne (hu : X.A.units + 64 < cLine) (ha : EvD X σ H a d) (hb : EvD X σ H b d') (s1 : SeqAt.shaped d = true) (s2 : SeqAt.shaped d' = true) : EvD X σ H (.Compare a [.NotEq] [b] pos) (.bool (!PyData.eqv d d')) :=
  ev_cmpR (op_neD hu) ha hb mo_rp (nomark _) fun x y H2 _ rx ry Q q => ⟨d, d', rx.dp, ry.dp, s1, s2, q _ H2 (ex_refl H2) (.bl _)⟩
theorem et_ne (hu : X.A.units + 64 < cLine) (ha : EvD X σ H a d) (hb : EvD X σ H b d') (s1 : SeqAt.shaped d = true) (s2 : SeqAt.shaped d' = true) : EvT X σ H (.Compare a [.NotEq] [b] pos) (!PyData.eqv d d') :=
  et_cmpR (op_neD hu) ha hb mo_rp (nomark _) fun x y H2 _ rx ry Q q => ⟨d, d', rx.dp, ry.dp, s1, s2, q H2 (ex_refl H2)⟩
/-- ints and texts alone: by the plain rule -/
theorem et_eqI {i j : Int} (ha : EvD X σ H a (.int i)) (hb : EvD X σ H b (.int j)) : EvT X σ H (.Compare a [.Eq] [b] pos) (decide (i = j)) :=
  et_cmpR op_eq ha hb mo_rp (nomark _) fun x y H2 _ rx ry Q q => by
    rw [rx.int_inv, ry.int_inv]
    refine ⟨rfl, ?_⟩
    rw [show decide (V.int i = V.int j) = decide (i = j) from decide_eq_decide.mpr ⟨fun h => V.int.inj h, fun h => by rw [h]⟩]
    exact q H2 (ex_refl H2)
theorem et_neI {i j : Int} (ha : EvD X σ H a (.int i)) (hb : EvD X σ H b (.int j)) : EvT X σ H (.Compare a [.NotEq] [b] pos) (!decide (i = j)) :=
  et_cmpR op_ne ha hb mo_rp (nomark _) fun x y H2 _ rx ry Q q => by
    rw [rx.int_inv, ry.int_inv]
    refine ⟨rfl, ?_⟩
    rw [show decide (V.int i = V.int j) = decide (i = j) from decide_eq_decide.mpr ⟨fun h => V.int.inj h, fun h => by rw [h]⟩]
    exact q H2 (ex_refl H2)
theorem ev_eqI {i j : Int} (ha : EvD X σ H a (.int i)) (hb : EvD X σ H b (.int j)) : EvD X σ H (.Compare a [.Eq] [b] pos) (.bool (decide (i = j))) :=
  ev_cmpR op_eq ha hb mo_rp (nomark _) fun x y H2 _ rx ry Q q => by
    rw [rx.int_inv, ry.int_inv]
    refine ⟨rfl, ?_⟩
    rw [show decide (V.int i = V.int j) = decide (i = j) from decide_eq_decide.mpr ⟨fun h => V.int.inj h, fun h => by rw [h]⟩]
    exact q _ H2 (ex_refl H2) (.bl _)
theorem et_eqS {i j : Str} (ha : EvD X σ H a (.str i)) (hb : EvD X σ H b (.str j)) : EvT X σ H (.Compare a [.Eq] [b] pos) (decide (i = j)) :=
  et_cmpR op_eq ha hb mo_rp (nomark _) fun x y H2 _ rx ry Q q => by
    rw [rx.str_inv, ry.str_inv]
    refine ⟨rfl, ?_⟩
    rw [show decide (V.str i = V.str j) = decide (i = j) from decide_eq_decide.mpr ⟨fun h => V.str.inj h, fun h => by rw [h]⟩]
    exact q H2 (ex_refl H2)
theorem et_neS {i j : Str} (ha : EvD X σ H a (.str i)) (hb : EvD X σ H b (.str j)) : EvT X σ H (.Compare a [.NotEq] [b] pos) (!decide (i = j)) :=
  et_cmpR op_ne ha hb mo_rp (nomark _) fun x y H2 _ rx ry Q q => by
    rw [rx.str_inv, ry.str_inv]
    refine ⟨rfl, ?_⟩
    rw [show decide (V.str i = V.str j) = decide (i = j) from decide_eq_decide.mpr ⟨fun h => V.str.inj h, fun h => by rw [h]⟩]
    exact q H2 (ex_refl H2)
/-- is not None -/
theorem et_notN {j : Nat} {p' : Pos} {v : V} {Ra : V → Hp → Prop} (ha : Ev X σ H a Ra) (m : Mo Ra) {k : Bool} (hk : ∀ w H1, Ra w H1 → (!decide (w = .non)) = k) : EvT X σ H (.Compare a [.IsNot] [.Constant .none j p'] pos) k :=
  et_cmpR op_notN ha ev_non m (nomark _) fun x y H2 _ rx ry Q q => ⟨ry.non_inv, by rw [hk x H2 rx]; exact q H2 (ex_refl H2)⟩
/-- a test by its value; not, and, or -/
theorem et_val {k : Bool} (h : EvD X σ H e (.bool k)) (he : ∀ whole, isTrue e X.env whole = (do let v ← whole; standAt e.pos; holding [v] (truthy v)) := by intro _; rfl) : EvT X σ H e k := fun H1 e1 Q q =>
  uT.of (pt_val pe_u he) (h H1 e1 _ fun v H2 e2 r => ⟨k, r.bl_inv, q H2 e2⟩)
theorem et_not {k : Bool} (h : EvT X σ H e k) : EvT X σ H (.UnaryOp .Not e pos) (!k) := fun H1 e1 Q q =>
  uT.of (pt_not pt_u) (h H1 e1 _ fun H2 e2 => q H2 e2)
theorem ew_and1 {k : Bool} (h : EvT X σ H e k) : EvW X σ H (.BoolOp .And [e] pos) k := fun H1 e1 Q q => uW.of (pw_and1 pt_u) (h H1 e1 Q q)
theorem ew_or1 {k : Bool} (h : EvT X σ H e k) : EvW X σ H (.BoolOp .Or [e] pos) k := fun H1 e1 Q q => uW.of (pw_or1 pt_u) (h H1 e1 Q q)
theorem ew_and {k l : Bool} (h : EvT X σ H a k) (g : k = true → EvW X σ H (.BoolOp .And (b :: es) pos) l) : EvW X σ H (.BoolOp .And (a :: b :: es) pos) (k && l) := fun H1 e1 Q q =>
  uW.of (pw_and pt_u pw_u) (h H1 e1 _ fun H2 e2 => by
    cases k with
    | true =>
      show uW X (.BoolOp .And (b :: es) pos) σ H2 Q
      exact g rfl H2 (e1.trans e2) Q fun H3 e3 => q H3 (e2.trans e3)
    | false =>
      show Q false H2
      exact q H2 e2)
theorem ew_or {k l : Bool} (h : EvT X σ H a k) (g : k = false → EvW X σ H (.BoolOp .Or (b :: es) pos) l) : EvW X σ H (.BoolOp .Or (a :: b :: es) pos) (k || l) := fun H1 e1 Q q =>
  uW.of (pw_or pt_u pw_u) (h H1 e1 _ fun H2 e2 => by
    cases k with
    | false =>
      show uW X (.BoolOp .Or (b :: es) pos) σ H2 Q
      exact g rfl H2 (e1.trans e2) Q fun H3 e3 => q H3 (e2.trans e3)
    | true =>
      show Q true H2
      exact q H2 e2)
theorem et_w {k : Bool} (h : EvW X σ H e k) : EvT X σ H e k := fun H1 e1 Q q => uT.of (pw_u.pt) (h H1 e1 Q q)
/-- .. as values -/
theorem ev_one {op : BoolOp} {k : Bool} (h : EvD X σ H e (.bool k)) : EvD X σ H (.BoolOp op [e] pos) (.bool k) := fun H1 e1 Q q => uE.of (pe_one pe_u) (h H1 e1 Q q)
theorem ev_and {k l : Bool} (h : EvD X σ H a (.bool k)) (g : k = true → EvD X σ H (.BoolOp .And (b :: es) pos) (.bool l)) : EvD X σ H (.BoolOp .And (a :: b :: es) pos) (.bool (k && l)) := fun H1 e1 Q q =>
  uE.of (pe_and pe_u pe_u) (h H1 e1 _ fun v H2 e2 r => ⟨k, r.bl_inv, by
    cases k with
    | true =>
      show uE X (.BoolOp .And (b :: es) pos) σ H2 Q
      exact g rfl H2 (e1.trans e2) Q fun w H3 e3 r3 => q w H3 (e2.trans e3) r3
    | false =>
      show Q (.bl false) H2
      exact q _ H2 e2 (.bl false)⟩)
theorem ev_or {k l : Bool} (h : EvD X σ H a (.bool k)) (g : k = false → EvD X σ H (.BoolOp .Or (b :: es) pos) (.bool l)) : EvD X σ H (.BoolOp .Or (a :: b :: es) pos) (.bool (k || l)) := fun H1 e1 Q q =>
  uE.of (pe_or pe_u pe_u) (h H1 e1 _ fun v H2 e2 r => ⟨k, r.bl_inv, by
    cases k with
    | false =>
      show uE X (.BoolOp .Or (b :: es) pos) σ H2 Q
      exact g rfl H2 (e1.trans e2) Q fun w H3 e3 r3 => q w H3 (e2.trans e3) r3
    | true =>
      show Q (.bl true) H2
      exact q _ H2 e2 (.bl true)⟩)
theorem ev_not {k : Bool} (h : EvD X σ H e (.bool k)) : EvD X σ H (.UnaryOp .Not e pos) (.bool (!k)) := fun H1 e1 Q q =>
  uE.of (pe_not pe_u) (h H1 e1 _ fun v H2 e2 r => ⟨k, r.bl_inv, q _ H2 e2 (.bl _)⟩)
/-- argument lists -/
theorem ea_nil : EvDs X σ H [] [] := fun H1 _ Q q => uA.of pa_nil (q _ H1 (ex_refl H1) .nil)
theorem ea_cons {ds : List PyData} (h : EvD X σ H e d) (g : EvDs X σ H es ds) (hs : starEach (e :: es) X.env = (false, eval e X.env) :: starEach es X.env := by rfl) : EvDs X σ H (e :: es) (d :: ds) := fun H1 e1 Q q =>
  uA.of (pa_cons pe_u pa_u hs) (h H1 e1 _ fun v H2 e2 r => g H2 (e1.trans e2) _ fun vs H3 e3 rs => q _ H3 (e2.trans e3) (.cons (r.ex e3) rs))
/-- .. of mixed kinds -/
def ConsR (R : V → Hp → Prop) (P : List V → Hp → Prop) : List V → Hp → Prop := fun vs H => ∃ v r, vs = v :: r ∧ R v H ∧ P r H
def NilR : List V → Hp → Prop := fun vs _ => vs = []
theorem eb_nil : EvA X σ H [] NilR := fun H1 _ Q q => uA.of pa_nil (q _ H1 (ex_refl H1) rfl)
theorem eb_cons {P : List V → Hp → Prop} (h : Ev X σ H e R) (m : Mo R) (g : EvA X σ H es P) (hs : starEach (e :: es) X.env = (false, eval e X.env) :: starEach es X.env := by rfl) : EvA X σ H (e :: es) (ConsR R P) := fun H1 e1 Q q =>
  uA.of (pa_cons pe_u pa_u hs) (h H1 e1 _ fun v H2 e2 r => g H2 (e1.trans e2) _ fun vs H3 e3 rs => q _ H3 (e2.trans e3) ⟨v, vs, rfl, m _ _ _ e3 r, rs⟩)
/-- displays -/
theorem ev_tup {ds : List PyData} {k : Nat} (h : EvDs X σ H es ds) (hl : Nat.ble ds.length 1000 = true := by rfl) : EvD X σ H (.Tuple es k pos) (.tuple ds) := fun H1 e1 Q q =>
  uE.of (pe_tup pa_u) (h H1 e1 _ fun vs H2 e2 rs => ⟨by rw [rs.length]; exact Nat.le_trans (Nat.le_of_ble_eq_true hl) (by decide), fun p hp => q _ _ (e2.trans (ex_new hp)) (.tup (Or.inl (Or.inl upd_same)) (rs.ex (ex_new hp)))⟩)
/-- a new list: its address is new ahead of it -/
def NewR (K : PySem.W.Frag) (H : Hp) (ds : List PyData) : V → Hp → Prop := fun v H' => ∃ p xs, v = .ref p ∧ H p = none ∧ H' p = some (.lst xs) ∧ RpL K H' xs ds
theorem mo_new {K : PySem.W.Frag} {H : Hp} {ds : List PyData} : Mo (NewR K H ds) := fun _ _ _ e ⟨p, xs, h1, h2, h3, h4⟩ => ⟨p, xs, h1, h2, e _ _ h3, h4.ex e⟩
theorem NewR.ls {K : PySem.W.Frag} {ds : List PyData} {v : V} (h : NewR K H ds v H') : LsR K ds v H' := let ⟨p, xs, h1, _, h3, h4⟩ := h; ⟨p, xs, h1, Or.inl (Or.inl h3), h4⟩
theorem ev_lst {ds : List PyData} (h : EvDs X σ H es ds) (hl : Nat.ble ds.length 1000 = true := by rfl) : Ev X σ H (.List es pos) (NewR X.K H ds) := fun H1 e1 Q q =>
  uE.of (pe_lst pa_u) (h H1 e1 _ fun vs H2 e2 rs => ⟨by rw [rs.length]; exact Nat.le_trans (Nat.le_of_ble_eq_true hl) (by decide), fun p hp => q _ _ (e2.trans (ex_new hp)) ⟨p, vs, rfl, Evl.fresh_back (e1.trans e2) hp, upd_same, rs.ex (ex_new hp)⟩⟩)
theorem ixN_len {n m : Nat} (h : n = m) (i : Int) : ixN n i = ixN m i := by rw [h]
theorem at_rp {K : PySem.W.Frag} {xs : List V} {ds : List PyData} {i : Int} (r : RpL K H xs ds) (h : atI ds i = some d) : ∃ v, atI xs i = some v ∧ Rp K H v d := by
  unfold atI at h ⊢
  rw [r.length]
  cases q : ixN ds.length i with
  | none => rw [q] at h; cases h
  | some j =>
    rw [q] at h
    obtain ⟨v, h1, h2⟩ := r.get (show ds[j]? = some d from h)
    exact ⟨v, h1, h2⟩
/-- t[i], xs[i] -/
theorem ev_ix {ds : List PyData} {i : Int} (ha : EvD X σ H a (.tuple ds)) (hb : EvD X σ H b (.int i)) (h : atI ds i = some d := by rfl) (hs : ∀ v u, subscripted b false v u = operate [v, u] (getItem v u) := by intro _ _; rfl) : EvD X σ H (.Subscript a b pos) d := fun H1 e1 Q q =>
  uE.of (pe_ix ix_tup pe_u pe_u hs) (ha H1 e1 _ fun x H2 e2 rx => hb H2 (e1.trans e2) _ fun y H3 e3 ry => by
    obtain ⟨p, xs, rfl, hq, rl⟩ := (rx.ex e3).tup_inv
    obtain ⟨v, hv, rv⟩ := at_rp rl h
    exact ⟨p, xs, i, v, rfl, ry.int_inv, hq, hv, q v H3 (e2.trans e3) rv⟩)
theorem ev_ixL {ds : List PyData} {i : Int} (ha : EvL X σ H a ds) (hb : EvD X σ H b (.int i)) (h : atI ds i = some d) (hs : ∀ v u, subscripted b false v u = operate [v, u] (getItem v u) := by intro _ _; rfl) : EvD X σ H (.Subscript a b pos) d := fun H1 e1 Q q =>
  uE.of (pe_ix ix_list pe_u pe_u hs) (ha H1 e1 _ fun x H2 e2 rx => hb H2 (e1.trans e2) _ fun y H3 e3 ry => by
    obtain ⟨p, xs, rfl, hq, rl⟩ := mo_ls _ _ _ e3 rx
    obtain ⟨v, hv, rv⟩ := at_rp rl h
    exact ⟨p, xs, i, v, rfl, ry.int_inv, hq, hv, q v H3 (e2.trans e3) rv⟩)
end
end Ar
set_option maxHeartbeats 4000000
/-! Calls, promises, statements, loops over the weakest readings. -/
namespace Ar
open PySem L2

/-! ### promises -/
/-- data in, data out: dom tells which answer goes with which arguments; all that stood stands -/
def spD (K : PySem.W.Frag) (n : Nat) (dom : List PyData → PyData → Prop) : Sp := fun vs H Q _ => vs.length = n ∧ ∃ ds r, RpL K H vs ds ∧ dom ds r ∧ ∀ v H', Ex H H' → Rp K H' v r → Q v H'
/-- data in, a new list of data out -/
def spN (K : PySem.W.Frag) (n : Nat) (dom : List PyData → List PyData → Prop) : Sp := fun vs H Q _ => vs.length = n ∧ ∃ ds r, RpL K H vs ds ∧ dom ds r ∧ ∀ v H', Ex H H' → NewR K H r v H' → Q v H'
/-- any: P of the arguments, R of the answer, by an index -/
def spI {ι : Type} (n : Nat) (P : ι → List V → Hp → Prop) (R : ι → Hp → V → Hp → Prop) : Sp := fun vs H Q _ => vs.length = n ∧ ∃ i, P i vs H ∧ ∀ v H', Ex H H' → R i H v H' → Q v H'

section
variable {X : Cx} {σ : St} {H H' : Hp} {a b c e : Expr} {es : List Expr} {pos : Pos} {R R' : V → Hp → Prop} {d d' : PyData} {x : Str} {p : Pos} {k j n : Nat} {dvs : List V}
theorem ev_call {dom : List PyData → PyData → Prop} {ds : List PyData} (c : C8.Cal X.prog X.w X.K X.mg X.base k x (spD X.K n dom) []) (hr : Room j X.A) (ha : EvDs X σ H (e :: es) ds) (hd : dom ds d) (hn : ds.length = n := by rfl) (hk : k ≤ j := by decide) (hg : Gl X x := by rfl)
    (hdb : (x == ("__debug__" : Str)) = false := by decide) (he : starEach (e :: es) X.env = (false, eval e X.env) :: starEach es X.env := by rfl) (hpl : (backTo pos (starEach es X.env)).any (·.1) = false := by rfl) :
    EvD X σ H (.Call (.Name x p) (e :: es) [] pos) d := fun H1 e1 Q q =>
  uE.of (C8.pe_c c hr hk hg pa_u hdb he hpl) (ha H1 e1 _ fun vs H2 e2 rs => by
    show spD X.K n dom (vs ++ []) H2 Q E0
    rw [List.append_nil]
    exact ⟨by rw [rs.length]; exact hn, ds, d, rs, hd, fun v H3 e3 r => q v H3 (e2.trans e3) r⟩)
theorem ev_call0 {dom : List PyData → PyData → Prop} (c : C8.Cal X.prog X.w X.K X.mg X.base k x (spD X.K 0 dom) []) (hr : Room j X.A) (hd : dom [] d) (hk : k ≤ j := by decide) (hg : Gl X x := by rfl)
    (hdb : (x == ("__debug__" : Str)) = false := by decide) : EvD X σ H (.Call (.Name x p) [] [] pos) d := fun H1 e1 Q q => by
  obtain ⟨f, fd, ps, ds, F, hm, kp, b, dv⟩ := c.ex
  refine uE.of (pe_call0 F (hr.mono hk) hg hm kp b dv pass0 hdb) ?_
  show spD X.K 0 dom ([] ++ []) H1 Q E0
  exact ⟨rfl, [], d, .nil, hd, fun v H3 e3 r => q v H3 e3 r⟩
theorem ev_callN {dom : List PyData → List PyData → Prop} {ds r : List PyData} (c : C8.Cal X.prog X.w X.K X.mg X.base k x (spN X.K n dom) []) (hr : Room j X.A) (ha : EvDs X σ H (e :: es) ds) (hd : dom ds r) (hn : ds.length = n := by rfl) (hk : k ≤ j := by decide) (hg : Gl X x := by rfl)
    (hdb : (x == ("__debug__" : Str)) = false := by decide) (he : starEach (e :: es) X.env = (false, eval e X.env) :: starEach es X.env := by rfl) (hpl : (backTo pos (starEach es X.env)).any (·.1) = false := by rfl) :
    Ev X σ H (.Call (.Name x p) (e :: es) [] pos) (NewR X.K H r) := fun H1 e1 Q q =>
  uE.of (C8.pe_c c hr hk hg pa_u hdb he hpl) (ha H1 e1 _ fun vs H2 e2 rs => by
    show spN X.K n dom (vs ++ []) H2 Q E0
    rw [List.append_nil]
    exact ⟨by rw [rs.length]; exact hn, ds, r, rs, hd, fun v H3 e3 ⟨p, xs, h1, h2, h3⟩ => q v H3 (e2.trans e3) ⟨p, xs, h1, Evl.fresh_back (e1.trans e2) h2, h3⟩⟩)
theorem ev_callI {ι : Type} {P : ι → List V → Hp → Prop} {R : ι → Hp → V → Hp → Prop} (i : ι) (c : C8.Cal X.prog X.w X.K X.mg X.base k x (spI n P R) []) (hr : Room j X.A) (ha : EvA X σ H (e :: es) (fun vs H2 => vs.length = n ∧ P i vs H2))
    {R' : V → Hp → Prop} (hR : ∀ H2 v H3, Ex H H2 → Ex H2 H3 → R i H2 v H3 → R' v H3) (hk : k ≤ j := by decide) (hg : Gl X x := by rfl)
    (hdb : (x == ("__debug__" : Str)) = false := by decide) (he : starEach (e :: es) X.env = (false, eval e X.env) :: starEach es X.env := by rfl) (hpl : (backTo pos (starEach es X.env)).any (·.1) = false := by rfl) :
    Ev X σ H (.Call (.Name x p) (e :: es) [] pos) R' := fun H1 e1 Q q =>
  uE.of (C8.pe_c c hr hk hg pa_u hdb he hpl) (ha H1 e1 _ fun vs H2 e2 rs => by
    show spI n P R (vs ++ []) H2 Q E0
    rw [List.append_nil]
    exact ⟨rs.1, i, rs.2, fun v H3 e3 r => q v H3 (e2.trans e3) (hR H2 v H3 (e1.trans e2) e3 r)⟩)
theorem EvA.imp {P P' : List V → Hp → Prop} (h : EvA X σ H es P) (i : ∀ v H1, Ex H H1 → P v H1 → P' v H1) : EvA X σ H es P' := fun H1 e1 Q q => h H1 e1 Q fun v H2 e2 r => q v H2 e2 (i v H2 (e1.trans e2) r)
/-- a built-in's call by a rule -/
theorem ev_callB {id : String} {r : List V → Hp → VK → Prop} {P : List V → Hp → Prop} (hc : CallR X (.builtin id) r) (hm : X.mg x = none) (hv : bootBuiltins x = some (.builtin id)) (ha : EvA X σ H (e :: es) P)
    (h : ∀ vs H2, Ex H H2 → P vs H2 → ∀ Q : VK, (∀ v H3, Ex H2 H3 → R v H3 → Q v H3) → r vs H2 Q) (hg : Gl X x := by rfl) (hn : x ≠ "__name__" := by decide) (hdb : (x == ("__debug__" : Str)) = false := by decide)
    (he : starEach (e :: es) X.env = (false, eval e X.env) :: starEach es X.env := by rfl) (hpl : (backTo pos (starEach es X.env)).any (·.1) = false := by rfl) : Ev X σ H (.Call (.Name x p) (e :: es) [] pos) R := fun H1 e1 Q q =>
  uE.of (pe_callB hc hg hm hv pa_u hn hdb he hpl) (ha H1 e1 _ fun vs H2 e2 rs => h vs H2 (e1.trans e2) rs Q fun v H3 e3 r => q v H3 (e2.trans e3) r)
theorem ev_callTy {T : String} {r : List V → Hp → VK → Prop} {P : List V → Hp → Prop} (hc : CallR X (.type T) r) (hm : X.mg x = none) (hv : bootBuiltins x = some (.type T)) (ha : EvA X σ H (e :: es) P)
    (h : ∀ vs H2, Ex H H2 → P vs H2 → ∀ Q : VK, (∀ v H3, Ex H2 H3 → R v H3 → Q v H3) → r vs H2 Q) (hg : Gl X x := by rfl) (hn : x ≠ "__name__" := by decide) (hdb : (x == ("__debug__" : Str)) = false := by decide)
    (he : starEach (e :: es) X.env = (false, eval e X.env) :: starEach es X.env := by rfl) (hpl : (backTo pos (starEach es X.env)).any (·.1) = false := by rfl) : Ev X σ H (.Call (.Name x p) (e :: es) [] pos) R := fun H1 e1 Q q =>
  uE.of (pe_callTy hc hg hm hv pa_u hn hdb he hpl) (ha H1 e1 _ fun vs H2 e2 rs => h vs H2 (e1.trans e2) rs Q fun v H3 e3 r => q v H3 (e2.trans e3) r)
theorem one_inv {K : PySem.W.Frag} {vs : List V} (h : RpL K H vs [d]) : ∃ v, vs = [v] ∧ Rp K H v d := by
  cases h with
  | cons h1 h2 => cases h2; exact ⟨_, rfl, h1⟩
theorem two_inv {K : PySem.W.Frag} {vs : List V} (h : RpL K H vs [d, d']) : ∃ v w, vs = [v, w] ∧ Rp K H v d ∧ Rp K H w d' := by
  cases h with
  | cons h1 h2 =>
    obtain ⟨w, rfl, h3⟩ := one_inv h2
    exact ⟨_, _, rfl, h1, h3⟩
theorem ev_abs {i : Int} (hm : X.mg "abs" = none) (ha : EvD X σ H e (.int i)) (hg : Gl X "abs" := by rfl)
    (he : starEach [e] X.env = (false, eval e X.env) :: starEach [] X.env := by rfl) (hpl : (backTo pos (starEach [] X.env)).any (·.1) = false := by rfl) : EvD X σ H (.Call (.Name "abs" p) [e] [] pos) (.int i.natAbs) :=
  ev_callB (id := "abs") call_abs hm (by decide +kernel) (ea_cons ha ea_nil he) (fun vs H2 _ rs Q q => by
    obtain ⟨v, rfl, r⟩ := one_inv rs
    refine ⟨i, by rw [r.int_inv], ?_⟩
    have e : (if i < 0 then -i else i) = (i.natAbs : Int) := by split <;> omega
    rw [e]
    exact q _ H2 (ex_refl H2) (.int _)) hg (by decide) (by decide) he hpl
theorem ev_intB {i : Bool} (hm : X.mg "int" = none) (ha : EvD X σ H e (.bool i)) (hg : Gl X "int" := by rfl)
    (he : starEach [e] X.env = (false, eval e X.env) :: starEach [] X.env := by rfl) (hpl : (backTo pos (starEach [] X.env)).any (·.1) = false := by rfl) : EvD X σ H (.Call (.Name "int" p) [e] [] pos) (.int (if i = true then 1 else 0)) :=
  ev_callTy (T := "int") call_int1 hm (by decide +kernel) (ea_cons ha ea_nil he) (fun vs H2 _ rs Q q => by
    obtain ⟨v, rfl, r⟩ := one_inv rs
    exact Or.inr ⟨i, by rw [r.bl_inv], q _ H2 (ex_refl H2) (.int _)⟩) hg (by decide) (by decide) he hpl
theorem ev_lenL {ds : List PyData} (hm : X.mg "len" = none) (ha : EvL X σ H e ds) (hg : Gl X "len" := by rfl)
    (he : starEach [e] X.env = (false, eval e X.env) :: starEach [] X.env := by rfl) (hpl : (backTo pos (starEach [] X.env)).any (·.1) = false := by rfl) : EvD X σ H (.Call (.Name "len" p) [e] [] pos) (.int (ds.length : Int)) :=
  ev_callB (id := "len") call_len_seq hm PySem.boot_len (eb_cons ha mo_ls eb_nil he) (fun vs H2 _ rs Q q => by
    obtain ⟨v, r, rfl, ⟨a, xs, rfl, h2, h3⟩, hr⟩ := rs
    have e0 : r = [] := hr
    subst e0
    refine ⟨a, xs, rfl, Or.inl h2, ?_⟩
    rw [h3.length]
    exact q _ H2 (ex_refl H2) (.int _)) hg (by decide) (by decide) he hpl
theorem ev_min2 {i j : Int} (hc : X.calm = true) (hm : X.mg "min" = none) (ha : EvD X σ H a (.int i)) (hb : EvD X σ H b (.int j)) (hg : Gl X "min" := by rfl)
    (h1 : starEach [b] X.env = (false, eval b X.env) :: starEach [] X.env := by rfl) (he : starEach [a, b] X.env = (false, eval a X.env) :: starEach [b] X.env := by rfl) (hpl : (backTo pos (starEach [b] X.env)).any (·.1) = false := by rfl) :
    EvD X σ H (.Call (.Name "min" p) [a, b] [] pos) (.int (if j < i then j else i)) :=
  ev_callB (id := "min") (call_min2 hc) hm (by decide +kernel) (ea_cons ha (ea_cons hb ea_nil h1) he) (fun vs H2 _ rs Q q => by
    obtain ⟨v, w, rfl, r1, r2⟩ := two_inv rs
    exact ⟨i, j, by rw [r1.int_inv, r2.int_inv], q _ H2 (ex_refl H2) (.int _)⟩) hg (by decide) (by decide) he hpl
/-- x in (a, b, ..), of flat data -/
def flatD : PyData → Bool
  | .none => true
  | .bool _ => true
  | .int _ => true
  | .str _ => true
  | _ => false
theorem flat_rp {K : PySem.W.Frag} {v : V} (h : Rp K H v d) (f : flatD d = true) : flatV v = true := by
  cases h with
  | tup _ _ => cases f
  | _ => rfl
end

/-! ### the promise of a def by its body -/
/-- a def of the text stands under its name -/
def HasDef (K : PySem.W.Frag) (mg : Str → Option Value) (x : Str) (st : Stmt) (ps : List Str) : Prop := ∃ f fd, C8.Def K mg x st f fd ∧ Binds K fd ps []
/-- what a body may lean on -/
abbrev bX (P : Program) (w : World) (K : PySem.W.Frag) (mg : Str → Option Value) (base : Heap) (N : List Str) (x : Str) (st : Stmt) (f : Addr) (cdv : Value) (A : Around) (outer : List Env) (s : Shared) (H : Hp) (E : XK) : Cx :=
  (cxOf CX0 P w K mg base N x (C8.fnScope st) f cdv A outer s H E).nox
theorem cal_of {P : Program} {w : World} {K : PySem.W.Frag} {mg : Str → Option Value} {base : Heap} {x : Str} {st : Stmt} {N ps : List Str} {k : Nat} {sp : Sp} (h : HasDef K mg x st ps) (S : FnScope N ps (C8.fnScope st)) (len : ∀ vs H Q E, sp vs H Q E → vs.length = ps.length)
    (hbody : ∀ (f : Addr) (cdv : Value) (A : Around) (outer : List Env) (s : Shared) (H : Hp) (vs : List V) (Q : VK) (E : XK), Room k (bX P w K mg base N x st f cdv A outer s H E).A → sp vs H Q E →
      Go (bX P w K mg base N x st f cdv A outer s H E) (C8.fnBody st) { nx := fun _ H' => Q .non H', rt := Q } (start N vs) H) : C8.Cal P w K mg base (k + 1) x sp [] := by
  obtain ⟨f, fd, F, b⟩ := h
  exact C8.cal0 F b .nil S len fun cdv A outer s H vs Q E hr hsp => ⟨_, pss_u, hbody f cdv A outer s H vs Q E hr hsp⟩
theorem Cal.mono {P : Program} {w : World} {K : PySem.W.Frag} {mg : Str → Option Value} {base : Heap} {x : Str} {j k : Nat} {sp : Sp} {dvs : List V} (c : C8.Cal P w K mg base j x sp dvs) (h : j ≤ k) : C8.Cal P w K mg base k x sp dvs := by
  obtain ⟨f, fd, ps, ds, F, r⟩ := c.ex
  exact ⟨f, fd, ps, ds, F.mono h, r⟩

/-! ### statements -/
section
variable {X : Cx} {σ : St} {H : Hp} {a b c e : Expr} {es : List Expr} {pos p' : Pos} {R : V → Hp → Prop} {sts rest body orelse : List Stmt} {D : Ends} {x : Str}
theorem go_nil (h : D.nx σ H) : Go X [] D σ H := Go.of pss_nil h
theorem go_cons {st : Stmt} {t : TS} (h : PS X st t) (q : t { D with nx := Go X rest D } σ H) : Go X (st :: rest) D σ H := Go.of (pss_cons h pss_u) q
theorem go_ret (h : Ev X σ H e R) (q : ∀ v H1, Ex H H1 → R v H1 → D.rt v H1) : Go X (.Return (some e) pos :: rest) D σ H :=
  go_cons (ps_ret pe_u) (h H (ex_refl H) _ q)
theorem go_asg (i : Nat) (h : Ev X σ H e R) (q : ∀ v H1, Ex H H1 → R v H1 → Go X rest D (σ.set i (some v)) H1) (hN : X.N.Nodup) (hi : X.N[i]? = some x := by rfl) (hx : Loc X.env.scope x := by first | exact .inl rfl | exact .inr rfl) (hs : swapsWith e (some (.Name x p')) pos.line X.env = pure false := by rfl)
    (hf : X.fn x = true ∨ X.env.scope.names.lookup x = some .local := by first | exact .inl rfl | exact .inr rfl) : Go X (.Assign [.Name x p'] e pos :: rest) D σ H :=
  go_cons (ps_set hN hi hx pe_u hs hf) (h H (ex_refl H) _ q)
/-- an expression that is dropped -/
theorem go_expr (h : Ev X σ H e R) (q : ∀ v H1, Ex H H1 → R v H1 → Go X rest D σ H1) (hs : swapsWith e none pos.line X.env = pure false := by rfl) : Go X (.Expr e pos :: rest) D σ H :=
  go_cons (ps_expr pe_u hs) (h H (ex_refl H) _ q)
theorem go_if {k : Bool} (h : EvT X σ H c k) (h1 : k = true → ∀ H1, Ex H H1 → Go X body { D with nx := Go X rest D } σ H1) (h2 : k = false → ∀ H1, Ex H H1 → Go X orelse { D with nx := Go X rest D } σ H1) : Go X (.If c body orelse pos :: rest) D σ H :=
  go_cons (ps_if pt_u pss_u pss_u) (h H (ex_refl H) _ fun H1 e1 => by
    cases k with
    | true =>
      show Go X body { D with nx := Go X rest D } σ H1
      exact h1 rfl H1 e1
    | false =>
      show Go X orelse { D with nx := Go X rest D } σ H1
      exact h2 rfl H1 e1)
/-- an if without else -/
theorem go_when {k : Bool} (h : EvT X σ H c k) (h1 : k = true → ∀ H1, Ex H H1 → Go X body { D with nx := Go X rest D } σ H1) (h2 : k = false → ∀ H1, Ex H H1 → Go X rest D σ H1) : Go X (.If c body [] pos :: rest) D σ H :=
  go_if h h1 fun hk H1 e1 => go_nil (h2 hk H1 e1)
/-- an if whose answer is known -/
theorem go_yes (h : EvT X σ H c true) (h1 : ∀ H1, Ex H H1 → Go X body { D with nx := Go X rest D } σ H1) : Go X (.If c body orelse pos :: rest) D σ H :=
  go_if h (fun _ => h1) fun hk => absurd hk (by decide)
theorem go_no (h : EvT X σ H c false) (h2 : ∀ H1, Ex H H1 → Go X rest D σ H1) : Go X (.If c body [] pos :: rest) D σ H :=
  go_when h (fun hk => absurd hk (by decide)) fun _ => h2
/-- xs.append(e) -/
theorem go_app {l : Addr} {xs : List V} (hl : H l = some (.lst xs)) (ha : Ev X σ H a (fun v _ => v = .ref l)) (h : Ev X σ H e R) (hz : xs.length < 100000) (q : ∀ v H1, Ex H H1 → R v H1 → Go X rest D σ (upd H1 l (.lst (xs ++ [v])))) {apos cpos : Pos}
    (hs : swapsWith (.Call (.Attribute a "append" apos) [e] [] cpos) none pos.line X.env = pure false := by rfl) (hbase : attributeBase a "append" X.env (eval a X.env) = eval a X.env := by rfl)
    (hfew : ((backTo cpos (starEach [e] X.env)).all (fun x => !x.1) && (backToKw cpos (keywordEach [] X.env)).all (fun x => x.1.isSome)
      && decide (([e] : List Expr).length + ([] : List Keyword).length + (if ([] : List Keyword).isEmpty then 0 else 1) < 30)) = true := by rfl)
    (hline : (apos.endLine == cpos.line) = true := by rfl) (hs1 : starEach [e] X.env = (false, eval e X.env) :: starEach [] X.env := by rfl) (hplain : (backTo cpos (starEach [] X.env)).any (·.1) = false := by rfl) :
    Go X (.Expr (.Call (.Attribute a "append" apos) [e] [] cpos) pos :: rest) D σ H :=
  go_cons (ps_expr (pe_bm PySem.F.plainAttrs_list PySem.F.slot_list_append PySem.F.type_list_append mt_append pe_u (pa_cons pe_u pa_nil hs1) hbase hfew hline hs1 hplain) hs)
    (ha H (ex_refl H) _ fun v H1 e1 hv => by
      subst hv
      exact ⟨Or.inl ⟨rfl, xs, Or.inl (Or.inl (e1 l _ hl))⟩, h H1 e1 _ fun w H2 e2 r => ⟨l, xs, w, rfl, rfl, (e1.trans e2) l _ hl, Evl.sz_lt hz, q w H2 (e1.trans e2) r⟩⟩)
/-- xs.extend(e), e a new list -/
theorem go_ext {l : Addr} {xs : List V} (hl : H l = some (.lst xs)) (ha : Ev X σ H a (fun v _ => v = .ref l)) (h : Ev X σ H e (fun v H' => ∃ p ys, v = .ref p ∧ H' p = some (.lst ys) ∧ xs.length + ys.length ≤ 100000 ∧ R (.ref p) H'))
    (q : ∀ p ys H1, Ex H H1 → H1 p = some (.lst ys) → R (.ref p) H1 → Go X rest D σ (upd H1 l (.lst (xs ++ ys)))) {apos cpos : Pos}
    (hs : swapsWith (.Call (.Attribute a "extend" apos) [e] [] cpos) none pos.line X.env = pure false := by rfl) (hbase : attributeBase a "extend" X.env (eval a X.env) = eval a X.env := by rfl)
    (hfew : ((backTo cpos (starEach [e] X.env)).all (fun x => !x.1) && (backToKw cpos (keywordEach [] X.env)).all (fun x => x.1.isSome)
      && decide (([e] : List Expr).length + ([] : List Keyword).length + (if ([] : List Keyword).isEmpty then 0 else 1) < 30)) = true := by rfl)
    (hline : (apos.endLine == cpos.line) = true := by rfl) (hs1 : starEach [e] X.env = (false, eval e X.env) :: starEach [] X.env := by rfl) (hplain : (backTo cpos (starEach [] X.env)).any (·.1) = false := by rfl) :
    Go X (.Expr (.Call (.Attribute a "extend" apos) [e] [] cpos) pos :: rest) D σ H :=
  go_cons (ps_expr (pe_bm PySem.F.plainAttrs_list PySem.F.slot_list_extend PySem.F.type_list_extend mt_extend pe_u (pa_cons pe_u pa_nil hs1) hbase hfew hline hs1 hplain) hs)
    (ha H (ex_refl H) _ fun v H1 e1 hv => by
      subst hv
      refine ⟨Or.inl ⟨rfl, xs, Or.inl (Or.inl (e1 l _ hl))⟩, h H1 e1 _ fun w H2 e2 r => ?_⟩
      obtain ⟨p, ys, rfl, hp, hz, r⟩ := r
      exact ⟨l, p, xs, ys, rfl, rfl, (e1.trans e2) l _ hl, hp, Evl.sz_of hz, q p ys H2 (e1.trans e2) hp r⟩)
/-! targets that are tuples of names -/
inductive NmAt (X : Cx) : List Expr → List Nat → Prop
  | nil : NmAt X [] []
  | cons {x : Str} {p : Pos} {i : Nat} {es : List Expr} {is : List Nat} (hi : X.N[i]? = some x) (hx : Loc X.env.scope x) (hf : X.fn x = true ∨ X.env.scope.names.lookup x = some .local)
      (hs : (assignEach (.Name x p :: es) X.env).map (·.2) = assign (.Name x p) X.env :: (assignEach es X.env).map (·.2)) (r : NmAt X es is) : NmAt X (.Name x p :: es) (i :: is)
theorem nm_cons (i : Nat) {x : Str} {p : Pos} {es : List Expr} {is : List Nat} (r : NmAt X es is) (hi : X.N[i]? = some x := by rfl) (hx : Loc X.env.scope x := by first | exact .inl rfl | exact .inr rfl) (hf : X.fn x = true ∨ X.env.scope.names.lookup x = some .local := by first | exact .inl rfl | exact .inr rfl)
    (hs : (assignEach (.Name x p :: es) X.env).map (·.2) = assign (.Name x p) X.env :: (assignEach es X.env).map (·.2) := by rfl) : NmAt X (.Name x p :: es) (i :: is) := .cons hi hx hf hs r
def setAll : L2.St → List Nat → List V → L2.St
  | σ, i :: is, v :: vs => setAll (σ.set i (some v)) is vs
  | σ, _, _ => σ
def gAll (is : List Nat) : TGs := fun vs σ H Q => vs.length = is.length ∧ Q (setAll σ is vs) H
theorem pgs_names (hN : X.N.Nodup) : ∀ {es : List Expr} {is : List Nat}, NmAt X es is → PGs X es (gAll is) := by
  intro es is h
  induction h with
  | nil => exact ⟨fun pins s σ H vs us Q I r h => pgs_nil.run pins s σ H vs us Q I r (by
      obtain ⟨h1, h2⟩ := h
      have e : vs = [] := List.eq_nil_of_length_eq_zero h1
      subst e
      exact ⟨rfl, h2⟩)⟩
  | cons hi hx hf hs r ih => exact ⟨fun pins s σ H vs us Q I r h => (pgs_cons (pg_name hN hi hx hf) ih hs).run pins s σ H vs us Q I r (by
      obtain ⟨h1, h2⟩ := h
      cases vs with
      | nil => simp at h1
      | cons v vs => exact ⟨v, vs, rfl, by simpa using h1, h2⟩)⟩
/-- a, b, .. = e, e a tuple of data -/
theorem go_unp (is : List Nat) {ds : List PyData} {k : Nat} {tp : Pos} (h : EvD X σ H e (.tuple ds)) (hc : X.calm = true) (hN : X.N.Nodup) (nm : NmAt X es is) (q : ∀ vs H1, Ex H H1 → RpL X.K H1 vs ds → Go X rest D (setAll σ is vs) H1) (hl : ds.length = is.length := by rfl)
    (hn : (assignEach es X.env).length = is.length := by rfl) (hst : (assignEach es X.env).findIdx? (·.1) = none := by rfl) (hs : swapsWithSole [.Tuple es k tp] e pos.line X.env = pure false := by rfl) (hw : swappedStores [.Tuple es k tp] e X.env = pure none := by rfl)
    (h1 : (assignEach [.Tuple es k tp] X.env).map (·.2) = [assign (.Tuple es k tp) X.env] := by rfl) : Go X (.Assign [.Tuple es k tp] e pos :: rest) D σ H :=
  go_cons (ps_asg pe_u (pg_tup hc (pgs_names hN nm) hn hst) hs hw h1) (h H (ex_refl H) _ fun v H1 e1 r => by
    obtain ⟨a, xs, rfl, ht, rl⟩ := r.tup_inv
    exact ⟨a, xs, rfl, ht, by rw [rl.length]; exact hl, by rw [rl.length]; exact hl, q xs H1 e1 rl⟩)
/-- a, b = e1, e2: two local names -/
theorem go_par (i j : Nat) {y : Str} {px py pt : Pos} {kt k2 : Nat} {pt2 : Pos} {Ra Rb : V → Hp → Prop} (ha : Ev X σ H a Ra) (m : Mo Ra) (hb : Ev X σ H b Rb) (hc : X.calm = true) (hN : X.N.Nodup) (q : ∀ v w H1, Ex H H1 → Ra v H1 → Rb w H1 → Go X rest D ((σ.set i (some v)).set j (some w)) H1)
    (hi : X.N[i]? = some x := by rfl) (hj : X.N[j]? = some y := by rfl) (hij : i ≠ j := by decide) (hx : X.env.scope.names.lookup x = some .local := by rfl) (hy : X.env.scope.names.lookup y = some .local := by rfl)
    (hw : swappedStores [.Tuple [.Name x px, .Name y py] kt pt] (.Tuple [a, b] k2 pt2) X.env = pure (some [x, y]) := by rfl)
    (hs : swapsWithSole [.Tuple [.Name x px, .Name y py] kt pt] (.Tuple [a, b] k2 pt2) pos.line X.env = pure false := by rfl)
    (h1 : starEach [b] X.env = (false, eval b X.env) :: starEach [] X.env := by rfl) (he : starEach [a, b] X.env = (false, eval a X.env) :: starEach [b] X.env := by rfl) :
    Go X (.Assign [.Tuple [.Name x px, .Name y py] kt pt] (.Tuple [a, b] k2 pt2) pos :: rest) D σ H :=
  go_cons (ps_par hc hN hi hj hij hx hy (pa_cons pe_u (pa_cons pe_u pa_nil h1) he) hw hs)
    (ha H (ex_refl H) _ fun v H1 e1 r1 => hb H1 e1 _ fun w H2 e2 r2 => ⟨v, w, rfl, q v w H2 (e1.trans e2) (m _ _ _ e2 r1) r2⟩)
/-! loops -/
theorem go_while (hp : PassesOwn (model X.prog X.w) X.A X.env X.xe) (W : Nat → L2.St → Hp → Prop) (m0 : Nat) (h0 : W m0 σ H)
    (hs : ∀ m σ' H', W m σ' H' → ∃ k, EvT X σ' H' c k ∧ (k = true → ∀ H1, Ex H' H1 → Go X body { D with nx := fun σ2 H2 => ∃ m', m' < m ∧ W m' σ2 H2, ct := fun σ2 H2 => ∃ m', m' < m ∧ W m' σ2 H2, bk := Go X rest D } σ' H1) ∧ (k = false → ∀ H1, Ex H' H1 → Go X rest D σ' H1)) :
    Go X (.While c body [] pos :: rest) D σ H :=
  go_cons (ps_while hp pt_u pss_u) ⟨W, ⟨m0, h0⟩, fun m σ' H' w => by
    obtain ⟨k, hk, h1, h2⟩ := hs m σ' H' w
    refine hk H' (ex_refl H') _ fun H1 e1 => ?_
    cases k with
    | true => exact ⟨_, fun _ _ h => h, h1 rfl H1 e1⟩
    | false => exact h2 rfl H1 e1⟩
/-- for name in a list that stands through the loop -/
theorem go_forL (j : Nat) {xs : List V} (hp : PassesOwn (model X.prog X.w) X.A X.env X.xe) (hc : X.calm = true) (hN : X.N.Nodup) {it : Expr} {y : Str} (h : Ev X σ H it (fun v H' => ∃ a, v = .ref a ∧ SqL X.K H' a xs ∧ R v H'))
    (Pv : Nat → L2.St → Hp → Prop) (h0 : ∀ a H1, Ex H H1 → SqL X.K H1 a xs → R (.ref a) H1 → Pv 0 σ H1 ∧ ∀ i σ' H', i ≤ xs.length → Pv i σ' H' → SqL X.K H' a xs)
    (hs : ∀ i v σ' H', xs[i]? = some v → Pv i σ' H' → Go X body { D with nx := Pv (i + 1), ct := Pv (i + 1), bk := Go X rest D } (σ'.set j (some v)) H') (hd : ∀ σ' H', Pv xs.length σ' H' → Go X rest D σ' H')
    (hi : X.N[j]? = some y := by rfl) (hx : Loc X.env.scope y := by first | exact .inl rfl | exact .inr rfl) (hf : X.fn y = true ∨ X.env.scope.names.lookup y = some .local := by first | exact .inl rfl | exact .inr rfl)
    (hs' : ∀ x, foldedSetIterable it X.env x = pure x := by intro _; rfl) : Go X (.For (.Name y p') it body [] pos :: rest) D σ H :=
  go_cons (ps_for hp hc (pi_list pe_u) (pg_name hN hi hx hf) pss_u hs') (h H (ex_refl H) _ fun v H1 e1 r => by
    obtain ⟨a, rfl, h1, h2⟩ := r
    obtain ⟨g0, g1⟩ := h0 a H1 e1 h1 h2
    exact ⟨a, rfl, ⟨xs, h1⟩, for_list Pv g0 g1 (fun i x σ' H' hi p => hs i x σ' H' hi p) hd⟩)
/-- for name in a tuple -/
theorem go_forT (j : Nat) {xs : List V} (hp : PassesOwn (model X.prog X.w) X.A X.env X.xe) (hc : X.calm = true) (hN : X.N.Nodup) {it : Expr} {y : Str} (h : Ev X σ H it (fun v H' => ∃ a, v = .ref a ∧ SqT X.K H' a xs ∧ R v H'))
    (Pv : Nat → L2.St → Hp → Prop) (h0 : ∀ a H1, Ex H H1 → SqT X.K H1 a xs → R (.ref a) H1 → Pv 0 σ H1 ∧ ∀ i σ' H', i ≤ xs.length → Pv i σ' H' → SqT X.K H' a xs)
    (hs : ∀ i v σ' H', xs[i]? = some v → Pv i σ' H' → Go X body { D with nx := Pv (i + 1), ct := Pv (i + 1), bk := Go X rest D } (σ'.set j (some v)) H') (hd : ∀ σ' H', Pv xs.length σ' H' → Go X rest D σ' H')
    (hi : X.N[j]? = some y := by rfl) (hx : Loc X.env.scope y := by first | exact .inl rfl | exact .inr rfl) (hf : X.fn y = true ∨ X.env.scope.names.lookup y = some .local := by first | exact .inl rfl | exact .inr rfl)
    (hs' : ∀ x, foldedSetIterable it X.env x = pure x := by intro _; rfl) : Go X (.For (.Name y p') it body [] pos :: rest) D σ H :=
  go_cons (ps_for hp hc (pi_tup pe_u) (pg_name hN hi hx hf) pss_u hs') (h H (ex_refl H) _ fun v H1 e1 r => by
    obtain ⟨a, rfl, h1, h2⟩ := r
    obtain ⟨g0, g1⟩ := h0 a H1 e1 h1 h2
    exact ⟨a, rfl, ⟨xs, h1⟩, for_tup Pv g0 g1 (fun i x σ' H' hi p => hs i x σ' H' hi p) hd⟩)
/-- for name in range(n) -/
theorem go_forR (j : Nat) {n : Int} (hp : PassesOwn (model X.prog X.w) X.A X.env X.xe) (hc : X.calm = true) (hN : X.N.Nodup) (hm : X.mg "range" = none) {y : Str} {q1 q2 : Pos} (h : EvD X σ H e (.int n)) (hn : n ≤ 100000)
    (Pv : Nat → L2.St → Hp → Prop) (h0 : ∀ H1, Ex H H1 → Pv 0 σ H1)
    (hs : ∀ (i : Nat) σ' H', (i : Int) < n → Pv i σ' H' → Go X body { D with nx := Pv (i + 1), ct := Pv (i + 1), bk := Go X rest D } (σ'.set j (some (.int i))) H') (hd : ∀ σ' H', Pv n.toNat σ' H' → Go X rest D σ' H') (hn0 : -100000 ≤ n)
    (hi : X.N[j]? = some y := by rfl) (hx : Loc X.env.scope y := by first | exact .inl rfl | exact .inr rfl) (hf : X.fn y = true ∨ X.env.scope.names.lookup y = some .local := by first | exact .inl rfl | exact .inr rfl) (hg : Gl X "range" := by rfl)
    (h1 : starEach [e] X.env = (false, eval e X.env) :: starEach [] X.env := by rfl) (hpl : (backTo q2 (starEach [] X.env)).any (·.1) = false := by rfl)
    (hs' : ∀ x, foldedSetIterable (.Call (.Name "range" q1) [e] [] q2) X.env x = pure x := by intro _; rfl) : Go X (.For (.Name y p') (.Call (.Name "range" q1) [e] [] q2) body [] pos :: rest) D σ H :=
  go_cons (ps_for hp hc (pi_range1 hg hm (pa_cons pe_u pa_nil h1) h1) (pg_name hN hi hx hf) pss_u hs') (h H (ex_refl H) _ fun v H1 e1 r => ⟨n, by rw [r.int_inv], by omega, by omega, for_range (lo := 0) (n := n.toNat) Pv (h0 H1 e1) (fun i σ' H' hi p => by
    have e0 : (0 : Int) + (i : Int) = (i : Int) := Int.zero_add _
    show Go X body _ (σ'.set j (some (.int ((0 : Int) + (i : Int))))) H'
    rw [e0]
    exact hs i σ' H' (by omega) p) hd⟩)
end
end Ar
set_option maxHeartbeats 4000000
/-! A for over zip(list, list) whose target is one name: the pair stays held, so each turn makes a new one. -/
namespace Ar
open PySem L2 PySem.Spec PyProof.Rows
/-- every tuple stands, to the sign -/
def KU (H H' : Hp) : Prop := ∀ a xs, H a = some (.tup xs) → H' a = some (.tup xs)
theorem KU.trans {H H1 H2 : Hp} (a : KU H H1) (b : KU H1 H2) : KU H H2 := fun x o h => b x o (a x o h)
theorem Ex.ku {H H' : Hp} (e : Ex H H') : KU H H' := fun a xs h => e a _ h
theorem KU.lst {H : Hp} {l : Addr} {xs : List V} {o : HO} (h : H l = some (.lst xs)) : KU H (upd H l o) := fun a ys q => by
  have ne : a ≠ l := by
    rintro rfl
    rw [h] at q; cases q
  rw [upd_ne ne]
  exact q
/-- the zip at z, ahead of turn n; T the pair that it has given last -/
def ZipSt (h : Heap) (z u v i1 i2 a b : Addr) (n : Nat) (T : Option Addr) : Prop :=
  IsPair h u (.ref i1) (.ref i2) ∧ (∃ x y, IsPair h v x y) ∧ h.IsListIter i1 a n ∧ h.IsListIter i2 b n ∧
    match T with
    | none => IsZip h z u v .none
    | some t => ∃ f, IsZipHeld h z u v t f
section
variable {X : Cx} {σ : L2.St} {H : Hp} {D : Ends} {rest body : List Stmt} {e1 e2 : Expr} {pos p' q1 q2 : Pos} {y : Str}
theorem ZipSt.obj {h : Heap} {z u v i1 i2 a b : Addr} {n : Nat} {T : Option Addr} (s : ZipSt h z u v i1 i2 a b n T) : ∀ c ∈ [z, u, v, i1, i2], ∃ o, h.get? c = some o ∧ ∀ w, o.data ≠ .cell w := by
  obtain ⟨h1, ⟨x, y, h2⟩, ⟨o1, g1, _, d1⟩, ⟨o2, g2, _, d2⟩, h5⟩ := s
  have hz : ∃ o, h.get? z = some o ∧ ∀ w, o.data ≠ .cell w := by
    cases T with
    | none => exact ⟨_, h5, fun w q => nomatch q⟩
    | some t => obtain ⟨f, h5⟩ := h5; exact ⟨_, h5, fun w q => nomatch q⟩
  intro c hc
  simp only [List.mem_cons, List.not_mem_nil, or_false] at hc
  rcases hc with rfl | rfl | rfl | rfl | rfl
  · exact hz
  · exact ⟨_, h1, fun w q => nomatch q⟩
  · exact ⟨_, h2, fun w q => nomatch q⟩
  · exact ⟨o1, g1, fun w q => by rw [d1] at q; cases q⟩
  · exact ⟨o2, g2, fun w q => by rw [d2] at q; cases q⟩
theorem ZipSt.keep {h h' : Heap} {z u v i1 i2 a b : Addr} {n : Nat} {T : Option Addr} (s : ZipSt h z u v i1 i2 a b n T) (k : ∀ c ∈ [z, u, v, i1, i2], ∀ o, h.get? c = some o → h'.get? c = some o) : ZipSt h' z u v i1 i2 a b n T := by
  obtain ⟨h1, ⟨x, y, h2⟩, h3, h4, h5⟩ := s
  refine ⟨k u (by simp) _ h1, ⟨x, y, k v (by simp) _ h2⟩, h3.at fun o q => k i1 (by simp) o q, h4.at fun o q => k i2 (by simp) o q, ?_⟩
  cases T with
  | none => exact k z (by simp) _ h5
  | some t => obtain ⟨f, h5⟩ := h5; exact ⟨f, k z (by simp) _ h5⟩
/-- what the turns need: at turn n the last pair stands -/
def TupThere (H : Hp) : Option Addr → Prop
  | none => True
  | some t => ∃ xs, H t = some (.tup xs)
theorem held_get {pins : List (Addr × Obj)} {s : Shared} {t : Addr} {xs : List V} (I : Inv X pins σ H s) (h : H t = some (.tup xs)) : ∃ o, s.heap.get? t = some o := by
  have q := I.hok t _ h
  obtain ⟨_, its, _, o, ho, _⟩ := q
  exact ⟨o, ho⟩
theorem no_go {A : Around} {M : Model} {E : Value → Shared → Prop} {s : Shared} {it v : Value} {x : Str} {p : Pos} {Q : Unit → Shared → Prop} (h : Q () s) : wpAny M A (letOwnedTupleGo (.Name x p) it v) Q E s := by
  unfold letOwnedTupleGo
  exact wpAny_pure h
/-- one turn of the iterator: a new pair -/
theorem zip_turn {pins : List (Addr × Obj)} {s : Shared} {z u v i1 i2 a b : Addr} {n : Nat} {T : Option Addr} {xs ys : List V} {x y : V} {E : Value → Shared → Prop} {Q : Option Value → Shared → Prop} (I : Inv X pins σ H s) (AP : ZipApart z u v i1 i2 a b) (st : ZipSt s.heap z u v i1 i2 a b n T)
    (hf : ∀ c ∈ [z, u, v, i1, i2], FpOk X pins H c) (tt : TupThere H T) (ha : SqL X.K H a xs) (hb : SqL X.K H b ys) (hx : xs[n]? = some x) (hy : ys[n]? = some y)
    (q : ∀ s1 t t', H t = none → Inv X pins σ (upd H t (.tup [x, y])) s1 → ZipSt s1.heap z u v i1 i2 a b (n + 1) (some t') → TupThere (upd H t (.tup [x, y])) (some t') → (∀ c ∈ [z, u, v, i1, i2], (upd H t (.tup [x, y])) c = none) → Q (some (.ref t)) s1) :
    wpAny (model X.prog X.w) X.A (pyNext (.ref z)) Q E s := by
  obtain ⟨its, rv, p1, _⟩ := I.list ha
  obtain ⟨its2, rv2, p2, _⟩ := I.list hb
  obtain ⟨w1, hw1, r1⟩ := rv.get hx
  obtain ⟨w2, hw2, r2⟩ := rv2.get hy
  obtain ⟨h1, ⟨x0, y0, h2⟩, h3, h4, h5⟩ := id st
  have old : ∀ c ∈ [z, u, v, i1, i2], c < s.heap.objs.size := fun c hc => by
    obtain ⟨o, ho, _⟩ := st.obj c hc
    exact Heap.lt_size ho
  have fin : ∀ (h' : Heap) (t' : Addr), (∃ f, IsZipHeld h' z u v t' f) → TupThere (upd H s.heap.objs.size (.tup [x, y])) (some t') → IsPair h' u (.ref i1) (.ref i2) → (∃ x y, IsPair h' v x y) → h'.IsListIter i1 a (n + 1) → h'.IsListIter i2 b (n + 1) → IsPair h' s.heap.objs.size w1 w2 →
      (∀ c o, c ∉ [z, u, v, i1, i2] → s.heap.get? c = some o → h'.get? c = some o) → Q (some (.ref s.heap.objs.size)) { s with heap := h' } := fun h' t' g1 g0 g2 g3 g4 g5 g6 g7 => by
    have new : ObjOk X.prog X.w (upd H s.heap.objs.size (.tup [x, y])) h' s.heap.objs.size (.tup [x, y]) := ⟨(by show 2 ≤ sizeLine; decide), [w1, w2], .cons r1 (.cons r2 .nil), ⟨_, g6, rfl, _, rfl⟩⟩
    refine q _ _ t' (I.hok.fresh (Nat.le_refl _)) (I.turnedNew (t' := s.toks) (ch := [z, u, v, i1, i2]) g7 hf (Nat.le_refl _) new) ⟨g2, g3, g4, g5, g1⟩ g0 fun c hc => ?_
    rw [upd_ne (Nat.ne_of_lt (old c hc))]
    exact (hf c hc).1
  cases T with
  | none =>
    refine wpAny_pyNext_zip_item AP h5 h1 h2 h3 h4 p1.isList p2.isList (x := w1) (y := w2) (by simpa using hw1) (by simpa using hw2) fun h' c1 c2 c3 c4 c5 c6 c7 => ?_
    refine fin h' _ ⟨false, c1⟩ ⟨_, upd_same⟩ (c7 _ _ AP.TIz AP.TITO AP.TIi1 AP.TIi2 h1) ⟨_, _, c2⟩ c3 c4 c5 fun c o hc e => c7 c o (fun z' => hc (by simp [z'])) (fun z' => hc (by simp [z'])) (fun z' => hc (by simp [z'])) (fun z' => hc (by simp [z'])) e
  | some t =>
    obtain ⟨f, h5⟩ := h5
    obtain ⟨zs, ht⟩ := tt
    obtain ⟨ot, hot⟩ := held_get I ht
    refine wpAny_pyNext_zip_item_held AP h5 hot h1 h3 h4 p1.isList p2.isList (x := w1) (y := w2) (by simpa using hw1) (by simpa using hw2) fun h' c1 c3 c4 c5 c6 c7 => ?_
    refine fin h' t ⟨true, c1⟩ ⟨zs, ?_⟩ (c7 _ _ AP.TIz AP.TIi1 AP.TIi2 h1) ⟨x0, y0, c7 _ _ AP.TOz AP.TOi1 AP.TOi2 h2⟩ c3 c4 c5 fun c o hc e => c7 c o (fun z' => hc (by simp [z'])) (fun z' => hc (by simp [z'])) (fun z' => hc (by simp [z'])) e
    rw [upd_ne (ne_of_none ht (I.hok.fresh (Nat.le_refl _)))]
    exact ht
theorem zip_stop {pins : List (Addr × Obj)} {s : Shared} {z u v i1 i2 a b : Addr} {n : Nat} {T : Option Addr} {xs ys : List V} {E : Value → Shared → Prop} {Q : Option Value → Shared → Prop} (hc : X.calm = true) (I : Inv X pins σ H s) (AP : ZipApart z u v i1 i2 a b) (st : ZipSt s.heap z u v i1 i2 a b n T)
    (hf : ∀ c ∈ [z, u, v, i1, i2], FpOk X pins H c) (tt : TupThere H T) (ha : SqL X.K H a xs) (hb : SqL X.K H b ys) (he : xs.length ≤ n ∨ ys.length ≤ n) (q : ∀ s1, Inv X pins σ H s1 → Q none s1) :
    wpAny (model X.prog X.w) X.A (pyNext (.ref z)) Q E s := by
  obtain ⟨its, rv, p1, _⟩ := I.list ha
  obtain ⟨its2, rv2, p2, _⟩ := I.list hb
  obtain ⟨h1, ⟨x0, y0, h2⟩, h3, h4, h5⟩ := id st
  have l1 := rv.length
  have l2 := rv2.length
  have hend : its.toArray[n]? = none ∨ its2.toArray[n]? = none := by
    rcases he with g | g
    · left; simp; omega
    · right; simp; omega
  have fin : ∀ h' : Heap, (∀ c o, c ∉ [z, u, v, i1, i2] → s.heap.get? c = some o → h'.get? c = some o) → Q none { s with heap := h' } := fun h' k => q _ (I.turnedL (t' := s.toks) (ch := [z, u, v, i1, i2]) k hf)
  cases T with
  | none => exact wpAny_pyNext_zip_end (I.ok.hd hc) AP h5 h1 h2 h3 h4 p1.isList p2.isList hend fun h' k => fin h' fun c o hc' e => k c o (fun z' => hc' (by simp [z'])) (fun z' => hc' (by simp [z'])) (fun z' => hc' (by simp [z'])) (fun z' => hc' (by simp [z'])) e
  | some t =>
    obtain ⟨f, h5⟩ := h5
    obtain ⟨zs, ht⟩ := tt
    obtain ⟨ot, hot⟩ := held_get I ht
    exact wpAny_pyNext_zip_end_held (I.ok.hd hc) AP h5 hot h1 h3 h4 p1.isList p2.isList hend fun h' k => fin h' fun c o hc' e => k c o (fun z' => hc' (by simp [z'])) (fun z' => hc' (by simp [z'])) (fun z' => hc' (by simp [z'])) e
/-- for name in zip(e1, e2) -/
theorem ps_forZ {j : Nat} (hp : PassesOwn (model X.prog X.w) X.A X.env X.xe) (hc : X.calm = true) (hN : X.N.Nodup) (hm : X.mg "zip" = none) (hg : Gl X "zip") (hi : X.N[j]? = some y) (hx : Loc X.env.scope y) (hf : X.fn y = true ∨ X.env.scope.names.lookup y = some .local)
    (h1 : starEach [e2] X.env = (false, eval e2 X.env) :: starEach [] X.env) (h2 : starEach [e1, e2] X.env = (false, eval e1 X.env) :: starEach [e2] X.env) (hpl : (backTo q2 (starEach [e2] X.env)).any (·.1) = false)
    (hfs : ∀ x, foldedSetIterable (.Call (.Name "zip" q1) [e1, e2] [] q2) X.env x = pure x) :
    PS X (.For (.Name y p') (.Call (.Name "zip" q1) [e1, e2] [] q2) body [] pos) (fun D σ H => uE X e1 σ H fun w1 H1 => uE X e2 σ H1 fun w2 H2 => ∃ a b xs ys, w1 = .ref a ∧ w2 = .ref b ∧ SqL X.K H2 a xs ∧ SqL X.K H2 b ys ∧ ∃ Pv : Nat → L2.St → Hp → Prop, Pv 0 σ H2 ∧
      (∀ n σ' H', Pv n σ' H' → SqL X.K H' a xs ∧ SqL X.K H' b ys) ∧
      (∀ n x y t σ' H', xs[n]? = some x → ys[n]? = some y → Pv n σ' H' → H' t = none → Go X body { D with nx := fun σ2 H2 => Pv (n + 1) σ2 H2 ∧ KU (upd H' t (.tup [x, y])) H2, ct := fun σ2 H2 => Pv (n + 1) σ2 H2 ∧ KU (upd H' t (.tup [x, y])) H2, bk := D.nx } (σ'.set j (some (.ref t))) (upd H' t (.tup [x, y]))) ∧
      ∀ σ' H', Pv (min xs.length ys.length) σ' H' → D.nx σ' H') := by
  refine ⟨fun pins s σ H D I h => ?_⟩
  refine wpAny_For (Call_ (ld_blt I hg hm PyProof.Rows.boot_zip (PyProof.Rows.callWith_type1 (thn ((pa_cons pe_u (pa_cons pe_u pa_nil h1) h2).run q2 pins s σ H (fun vs H' => ∃ a b xs ys, vs = [.ref a, .ref b] ∧ SqL X.K H' a xs ∧ SqL X.K H' b ys ∧ ∃ Pv : Nat → L2.St → Hp → Prop, Pv 0 σ H' ∧
      (∀ n σ' H', Pv n σ' H' → SqL X.K H' a xs ∧ SqL X.K H' b ys) ∧
      (∀ n x y t σ' H', xs[n]? = some x → ys[n]? = some y → Pv n σ' H' → H' t = none → Go X body { D with nx := fun σ2 H2 => Pv (n + 1) σ2 H2 ∧ KU (upd H' t (.tup [x, y])) H2, ct := fun σ2 H2 => Pv (n + 1) σ2 H2 ∧ KU (upd H' t (.tup [x, y])) H2, bk := D.nx } (σ'.set j (some (.ref t))) (upd H' t (.tup [x, y]))) ∧
      ∀ σ' H', Pv (min xs.length ys.length) σ' H' → D.nx σ' H') I ?_) fun us s1 hA => ?_) h2 hpl))) hfs
  · refine fun pins' s' I' => thn (h pins' s' I') fun w1 s2 hw => ?_
    obtain ⟨v1, H1, I1, r1, hw⟩ := hw
    refine ⟨v1, H1, I1, r1, fun pins2 s3 I3 => thn (hw pins2 s3 I3) fun w2 s4 hw2 => ?_⟩
    obtain ⟨v2, H2, I2, r2, a, b, xs, ys, g1, g2, g⟩ := hw2
    exact ⟨v2, H2, I2, r2, a, b, xs, ys, by rw [g1, g2], g⟩
  · obtain ⟨vs, H1, I1, rr, a, b, xs, ys, rfl, ha, hb, Pv, p0, pl, pt, pe⟩ := hA
    obtain ⟨u1, u2, rfl, rfl, rfl⟩ : ∃ u1 u2, us = [u1, u2] ∧ u1 = Value.ref a ∧ u2 = Value.ref b := by
      cases rr with
      | cons r rr =>
        cases rr with
        | cons r' rr =>
          cases rr
          exact ⟨_, _, rfl, r, r'⟩
    obtain ⟨its, rv, p1, _⟩ := I1.list ha
    obtain ⟨its2, rv2, p2, _⟩ := I1.list hb
    have la : a < s1.heap.objs.size := p1.lt
    have lb : b < s1.heap.objs.size := p2.lt
    refine call_zip_2 p1.isList p2.isList fun h' hz hTI hTO g1 g2 hsz hk => wpAny_pyIter_zip hz ?_
    have I2 : Inv X pins σ H1 { s1 with heap := h' } := I1.kept (t' := s1.toks) hk
    generalize hzz : s1.heap.objs.size = N0 at *
    have AP := PySem.W.ktu_apart N0 a b la lb
    have fp0 : ∀ c ∈ [N0 + 4, N0 + 2, N0 + 3, N0, N0 + 1], FpOk X pins H1 c := fun c hc' => by
      have hle : s1.heap.objs.size ≤ c := by
        rw [hzz]
        simp only [List.mem_cons, List.not_mem_nil, or_false] at hc'
        rcases hc' with q | q | q | q | q <;> (rw [q]; first | exact Nat.le_refl _ | exact Nat.le_add_right _ _)
      exact I1.fpOk hle (I1.hok.fresh hle)
    have stat : ∀ {H' : Hp}, (∀ c ∈ [N0 + 4, N0 + 2, N0 + 3, N0, N0 + 1], H' c = none) → ∀ c ∈ [N0 + 4, N0 + 2, N0 + 3, N0, N0 + 1], FpOk X pins H' c := fun hn c hc' => ⟨hn c hc', (fp0 c hc').2⟩
    refine codeAny_forLoop_any (fun m s' => ∃ n σ' H' T, m = min xs.length ys.length - n ∧ n ≤ min xs.length ys.length ∧ Inv X pins σ' H' s' ∧ ZipSt s'.heap (N0 + 4) (N0 + 2) (N0 + 3) N0 (N0 + 1) a b n T ∧ TupThere H' T ∧ (∀ c ∈ [N0 + 4, N0 + 2, N0 + 3, N0, N0 + 1], H' c = none) ∧ Pv n σ' H') ?_ (min xs.length ys.length)
      ⟨0, σ, H1, none, by omega, Nat.zero_le _, I2, ⟨hTI, ⟨_, _, hTO⟩, g1, g2, hz⟩, trivial, fun c hc' => (fp0 c hc').1, p0⟩
    rintro m s3 ⟨n, σ3, H3, T, rfl, hn, I3, st3, tt3, fr3, w3⟩
    obtain ⟨la3, lb3⟩ := pl n σ3 H3 w3
    by_cases hlt : n < min xs.length ys.length
    · have hx1 : n < xs.length := by omega
      have hy1 : n < ys.length := by omega
      refine wpAny_passesOwn hp (zip_turn I3 AP st3 (stat fr3) tt3 la3 lb3 (List.getElem?_eq_getElem hx1) (List.getElem?_eq_getElem hy1) fun s5 t t' ht I5 st5 tt5 fr5 => ?_)
      refine no_go ?_
      have I5' := I5.pinned (stat fr5) st5.obj
      have kk : ∀ {σ7 : L2.St} {H7 : Hp} {s7 : Shared}, Inv X (pins ++ pinsAt [N0 + 4, N0 + 2, N0 + 3, N0, N0 + 1] s5.heap) σ7 H7 s7 → Pv (n + 1) σ7 H7 ∧ KU (upd H3 t (.tup [xs[n], ys[n]])) H7 →
          ∃ m', m' < min xs.length ys.length - n ∧ ∃ n' σ' H' T, m' = min xs.length ys.length - n' ∧ n' ≤ min xs.length ys.length ∧ Inv X pins σ' H' s7 ∧ ZipSt s7.heap (N0 + 4) (N0 + 2) (N0 + 3) N0 (N0 + 1) a b n' T ∧ TupThere H' T ∧ (∀ c ∈ [N0 + 4, N0 + 2, N0 + 3, N0, N0 + 1], H' c = none) ∧ Pv n' σ' H' := fun {σ7 H7 s7} I7 q7 => by
        have pin : ∀ c ∈ [N0 + 4, N0 + 2, N0 + 3, N0, N0 + 1], ∀ o, s5.heap.get? c = some o → s7.heap.get? c = some o ∧ H7 c = none := fun c hc' o e => by
          have q := I7.pin (c, o) (List.mem_append_right _ (List.mem_append_right _ (mem_pinsAt hc' e)))
          exact ⟨q.1, q.2.1⟩
        refine ⟨_, by omega, n + 1, σ7, H7, some t', rfl, by omega, I7.unpinned, st5.keep fun c hc' o e => (pin c hc' o e).1, ?_, fun c hc' => ?_, q7.1⟩
        · obtain ⟨zs, hz'⟩ := tt5
          exact ⟨zs, q7.2 t' zs hz'⟩
        · obtain ⟨o, e, _⟩ := st5.obj c hc'
          exact (pin c hc' o e).2
      refine wpAny_passesOwn hp (thn ((pg_name hN hi hx hf).run _ s5 σ3 _ (.ref t) _ (fun σ' H' => σ' = σ3.set j (some (.ref t)) ∧ H' = upd H3 t (.tup [xs[n], ys[n]])) I5' rfl ⟨rfl, rfl⟩) fun _ s6 h6 => ?_)
      obtain ⟨σ6, H6, I6, rfl, rfl⟩ := h6
      refine wpAny_passesOwn hp (thn ((pt n xs[n] ys[n] t σ3 H3 (List.getElem?_eq_getElem hx1) (List.getElem?_eq_getElem hy1) w3 ht).run _ s6 I6) fun f s7 q7 => ?_)
      cases f with
      | next =>
        obtain ⟨σ7, H7, I7, n7⟩ := q7
        exact kk I7 n7
      | cont =>
        obtain ⟨σ7, H7, I7, n7⟩ := q7
        exact kk I7 n7
      | brk =>
        obtain ⟨σ7, H7, I7, n7⟩ := q7
        exact ⟨σ7, H7, I7.unpinned, n7⟩
      | ret v =>
        obtain ⟨x7, σ7, H7, I7, r7, n7⟩ := q7
        exact ⟨x7, σ7, H7, I7.unpinned, r7, n7⟩
    · have e : n = min xs.length ys.length := by omega
      subst e
      refine wpAny_passesOwn hp (zip_stop hc I3 AP st3 (stat fr3) tt3 la3 lb3 (by omega) fun s4 I4 => ?_)
      exact wpAny_execs_nil ⟨σ3, H3, I4, pe σ3 H3 w3⟩
end
end Ar
set_option maxHeartbeats 4000000
/-! More: slices, sums of lists, loops over ranges, zips, comprehensions. -/
namespace Ar
open PySem L2
section
variable {X : Cx} {σ : L2.St} {H H' : Hp} {a b c e e1 e2 : Expr} {es : List Expr} {pos p' q1 q2 : Pos} {R : V → Hp → Prop} {sts rest body orelse : List Stmt} {D : Ends} {x y : Str} {d d' : PyData}
def cutD {α : Type} (xs : List α) (lo hi : Option Int) : List α := (xs.drop (HT.sIx xs.length 0 lo)).take (HT.sIx xs.length xs.length hi - HT.sIx xs.length 0 lo)
theorem cut_rp {K : PySem.W.Frag} {vs : List V} {ds : List PyData} (h : RpL K H vs ds) (lo hi : Option Int) : RpL K H (cutV vs lo hi) (cutD ds lo hi) := by
  unfold cutV cutD
  rw [h.length]
  exact (h.drop _).take _
theorem cut_tail {α : Type} (xs : List α) : cutD xs (some 1) none = xs.tail := by
  unfold cutD
  rw [show HT.sIx xs.length 0 (some 1) = min 1 xs.length from HT.sIx_nat xs.length 0 1, HT.sIx_none]
  cases xs with
  | nil => rfl
  | cons x r =>
    rw [show min 1 (x :: r).length = 1 by rw [List.length_cons]; omega, List.drop_one, List.tail_cons, List.length_cons, Nat.add_sub_cancel]
    exact List.take_length
theorem cut_init {α : Type} (xs : List α) : cutD xs none (some (-1)) = xs.dropLast := by
  unfold cutD
  rw [HT.sIx_none, List.drop_zero, Nat.sub_zero, List.dropLast_eq_take]
  congr 1
  have e : HT.sIx xs.length xs.length (some (-1)) = ((-1 : Int) + (xs.length : Int)).toNat := rfl
  rw [e]
  omega
theorem cut_to {α : Type} (xs : List α) (k : Nat) : cutD xs none (some (k : Int)) = xs.take k := by
  unfold cutD
  rw [HT.sIx_none, List.drop_zero, Nat.sub_zero, HT.sIx_nat]
  by_cases h : k ≤ xs.length
  · rw [Nat.min_eq_left h]
  · rw [Nat.min_eq_right (by omega), List.take_length, List.take_of_length_le (by omega)]
theorem cut_ft {α : Type} (xs : List α) (i j : Nat) : cutD xs (some (i : Int)) (some (j : Int)) = (xs.take j).drop i := by
  unfold cutD
  rw [HT.sIx_nat, HT.sIx_nat]
  apply List.ext_getElem?
  intro n
  rw [List.getElem?_take, List.getElem?_drop, List.getElem?_drop, List.getElem?_take]
  by_cases h1 : i ≤ xs.length
  · rw [Nat.min_eq_left h1]
    by_cases h2 : i + n < xs.length
    · by_cases h3 : i + n < j
      · rw [if_pos (by omega), if_pos h3]
      · rw [if_neg (by omega), if_neg h3]
    · rw [List.getElem?_eq_none (by omega)]
      split <;> split <;> rfl
  · rw [Nat.min_eq_right (show xs.length ≤ i by omega), List.getElem?_eq_none (by omega), List.getElem?_eq_none (by omega)]
    split <;> split <;> rfl
/-- xs[i:j]: a new list; the bounds written -/
theorem ev_slL {ds : List PyData} {lo hi : Option Expr} {l u : Option Int} {p2 : Pos} {tl th : TO} (ha : EvL X σ H a ds) (hl : PO X lo tl) (hh : PO X hi th) (gl : ∀ H1 Q, Q l H1 → tl σ H1 Q) (gh : ∀ H1 Q, Q u H1 → th σ H1 Q) :
    Ev X σ H (.Subscript a (.Slice lo hi none p2) pos) (NewR X.K H (cutD ds l u)) := fun H1 e1 Q q =>
  uE.of (pe_slice sl_list pe_u hl hh) (ha H1 e1 _ fun v H2 e2 r => gl H2 _ (gh H2 _ (by
    obtain ⟨p, xs, rfl, hs, rr⟩ := r
    exact ⟨p, xs, rfl, hs, fun t ht => q _ _ (e2.trans (ex_new ht)) ⟨t, _, rfl, Evl.fresh_back (e1.trans e2) ht, upd_same, (cut_rp rr l u).ex (ex_new ht)⟩⟩)))
theorem po_int {n : Int} {j : Nat} {p : Pos} : ∀ H1 (Q : Option Int → Hp → Prop), Q (some n) H1 → tPart (tC (.int n)) σ H1 Q := fun _ _ q => ⟨n, rfl, q⟩
theorem ev_tail {ds : List PyData} {j : Nat} {p p2 : Pos} (ha : EvL X σ H a ds) : Ev X σ H (.Subscript a (.Slice (some (.Constant (.int 1) j p)) none none p2) pos) (NewR X.K H ds.tail) := by
  have h := ev_slL (X := X) (σ := σ) (H := H) (pos := pos) (p2 := p2) (l := some 1) (u := none) ha (po_some (e := .Constant (.int 1) j p) pe_int) po_none (fun H1 Q q => ⟨1, rfl, q⟩) (fun H1 Q q => q)
  rw [cut_tail] at h
  exact h
theorem ev_init {ds : List PyData} {j : Nat} {p p2 p3 : Pos} (ha : EvL X σ H a ds) : Ev X σ H (.Subscript a (.Slice none (some (.UnaryOp .USub (.Constant (.int 1) j p) p3)) none p2) pos) (NewR X.K H ds.dropLast) := by
  have h := ev_slL (X := X) (σ := σ) (H := H) (pos := pos) (p2 := p2) (l := none) (u := some (-1)) ha po_none (po_some (e := .UnaryOp .USub (.Constant (.int 1) j p) p3) (pe_un un_neg pe_int)) (fun H1 Q q => q) (fun H1 Q q => ⟨1, rfl, -1, rfl, q⟩)
  rw [cut_init] at h
  exact h
/-- xs + ys -/
theorem ev_cat {ds es : List PyData} {Ra Rb : V → Hp → Prop} (ha : Ev X σ H a Ra) (hb : Ev X σ H b Rb) (m : Mo Ra) (ga : ∀ v H1, Ra v H1 → ∃ p xs, v = .ref p ∧ H1 p = some (.lst xs) ∧ RpL X.K H1 xs ds) (gb : ∀ v H1, Rb v H1 → ∃ p xs, v = .ref p ∧ H1 p = some (.lst xs) ∧ RpL X.K H1 xs es)
    (hz : ds.length + es.length ≤ 100000) : Ev X σ H (.BinOp a .Add b pos) (NewR X.K H (ds ++ es)) :=
  ev_opR op_cat ha hb m fun x y H2 x2 rx ry Q q => by
    obtain ⟨p, xs, rfl, h1, h2⟩ := ga x H2 rx
    obtain ⟨p2, ys, rfl, h3, h4⟩ := gb y H2 ry
    refine ⟨p, p2, xs, ys, rfl, rfl, h1, h3, Evl.sz_of (by rw [h2.length, h4.length]; exact hz), fun t ht => q _ _ (ex_new ht) ⟨t, _, rfl, Evl.fresh_back x2 ht, upd_same, (h2.append h4).ex (ex_new ht)⟩⟩
theorem new_lst {K : PySem.W.Frag} {H0 : Hp} {ds : List PyData} (v : V) (H1 : Hp) (h : NewR K H0 ds v H1) : ∃ p xs, v = .ref p ∧ H1 p = some (.lst xs) ∧ RpL K H1 xs ds := let ⟨p, xs, h1, _, h3, h4⟩ := h; ⟨p, xs, h1, h3, h4⟩
/-- a tracked list in a slot -/
def TrR (K : PySem.W.Frag) (l : Addr) (ds : List PyData) : V → Hp → Prop := fun v H => v = .ref l ∧ ∃ xs, H l = some (.lst xs) ∧ RpL K H xs ds
theorem mo_tr {K : PySem.W.Frag} {l : Addr} {ds : List PyData} : Mo (TrR K l ds) := fun _ _ _ e ⟨h1, xs, h2, h3⟩ => ⟨h1, xs, e _ _ h2, h3.ex e⟩
theorem TrR.ls {K : PySem.W.Frag} {l : Addr} {ds : List PyData} {v : V} (h : TrR K l ds v H) : LsR K ds v H := let ⟨h1, xs, h2, h3⟩ := h; ⟨l, xs, h1, Or.inl (Or.inl h2), h3⟩
/-- for name in range(a, b) -/
theorem go_forR2 (j : Nat) {lo n : Int} (hp : PassesOwn (model X.prog X.w) X.A X.env X.xe) (hc : X.calm = true) (hN : X.N.Nodup) (hm : X.mg "range" = none) (h1 : EvD X σ H e1 (.int lo)) (h2 : EvD X σ H e2 (.int n)) (hb : -1000 ≤ lo ∧ lo ≤ 1000 ∧ -1000 ≤ n ∧ n ≤ 1000)
    (Pv : Nat → L2.St → Hp → Prop) (h0 : ∀ H1, Ex H H1 → Pv 0 σ H1)
    (hs : ∀ (i : Nat) σ' H', i < (n - lo).toNat → Pv i σ' H' → Go X body { D with nx := Pv (i + 1), ct := Pv (i + 1), bk := Go X rest D } (σ'.set j (some (.int (lo + i)))) H') (hd : ∀ σ' H', Pv (n - lo).toNat σ' H' → Go X rest D σ' H')
    (hi : X.N[j]? = some y := by rfl) (hx : Loc X.env.scope y := by first | exact .inl rfl | exact .inr rfl) (hf : X.fn y = true ∨ X.env.scope.names.lookup y = some .local := by first | exact .inl rfl | exact .inr rfl) (hg : Gl X "range" := by rfl)
    (s1 : starEach [e2] X.env = [(false, eval e2 X.env)] := by rfl) (s2 : starEach [e1, e2] X.env = [(false, eval e1 X.env), (false, eval e2 X.env)] := by rfl) (s3 : starEach [e2] X.env = (false, eval e2 X.env) :: starEach [] X.env := by rfl) (s4 : starEach [e1, e2] X.env = (false, eval e1 X.env) :: starEach [e2] X.env := by rfl)
    (hs' : ∀ x, foldedSetIterable (.Call (.Name "range" q1) [e1, e2] [] q2) X.env x = pure x := by intro _; rfl) : Go X (.For (.Name y p') (.Call (.Name "range" q1) [e1, e2] [] q2) body [] pos :: rest) D σ H :=
  go_cons (ps_for hp hc (pi_range2 hg hm (pa_cons pe_u (pa_cons pe_u pa_nil s3) s4) s2 s1) (pg_name hN hi hx hf) pss_u hs') (h1 H (ex_refl H) _ fun v H1 e1 r1 => h2 H1 e1 _ fun w H2 e2 r2 =>
    ⟨lo, n, by rw [r1.int_inv, r2.int_inv], ⟨by omega, by omega, by omega, by omega⟩, for_range (lo := lo) (n := (n - lo).toNat) Pv (h0 H2 (e1.trans e2)) (fun i σ' H' hi p => hs i σ' H' hi p) hd⟩)
/-- for name in zip(e1, e2) -/
theorem go_forZ (j : Nat) {Ra Rb : V → Hp → Prop} {xs ys : List PyData} (hp : PassesOwn (model X.prog X.w) X.A X.env X.xe) (hc : X.calm = true) (hN : X.N.Nodup) (hm : X.mg "zip" = none) (h1 : Ev X σ H e1 Ra) (m : Mo Ra) (h2 : Ev X σ H e2 Rb)
    (ga : ∀ v H1, Ra v H1 → LsR X.K xs v H1) (gb : ∀ v H1, Rb v H1 → LsR X.K ys v H1) (Pv : Nat → L2.St → Hp → Prop) (h0 : ∀ H1, Ex H H1 → Pv 0 σ H1)
    (hk : ∀ H1 n σ' H', Ex H H1 → Pv n σ' H' → Ex H1 H' → True)
    (hs : ∀ n x y v σ' H', xs[n]? = some x → ys[n]? = some y → Pv n σ' H' → Rp X.K H' v (.tuple [x, y]) → Go X body { D with nx := fun σ2 H2 => Pv (n + 1) σ2 H2 ∧ Ex H' H2, ct := fun σ2 H2 => Pv (n + 1) σ2 H2 ∧ Ex H' H2, bk := Go X rest D } (σ'.set j (some v)) H')
    (hx0 : ∀ n σ' H' H2, Pv n σ' H' → Ex H' H2 → Pv n σ' H2)
    (hd : ∀ σ' H', Pv (min xs.length ys.length) σ' H' → Go X rest D σ' H')
    (hi : X.N[j]? = some y := by rfl) (hx : Loc X.env.scope y := by first | exact .inl rfl | exact .inr rfl) (hf : X.fn y = true ∨ X.env.scope.names.lookup y = some .local := by first | exact .inl rfl | exact .inr rfl) (hg : Gl X "zip" := by rfl)
    (s1 : starEach [e2] X.env = (false, eval e2 X.env) :: starEach [] X.env := by rfl) (s2 : starEach [e1, e2] X.env = (false, eval e1 X.env) :: starEach [e2] X.env := by rfl) (hpl : (backTo q2 (starEach [e2] X.env)).any (·.1) = false := by rfl)
    (hfs : ∀ x, foldedSetIterable (.Call (.Name "zip" q1) [e1, e2] [] q2) X.env x = pure x := by intro _; rfl) : Go X (.For (.Name y p') (.Call (.Name "zip" q1) [e1, e2] [] q2) body [] pos :: rest) D σ H :=
  go_cons (ps_forZ hp hc hN hm hg hi hx hf s1 s2 hpl hfs) (h1 H (ex_refl H) _ fun v H1 x1 r1 => h2 H1 x1 _ fun w H2 x2 r2 => by
    obtain ⟨p, vs, rfl, g1, g2⟩ := ga _ _ (m _ _ _ x2 r1)
    obtain ⟨p2, ws, rfl, g3, g4⟩ := gb _ _ r2
    refine ⟨p, p2, vs, ws, rfl, rfl, g1, g3, fun n σ' H' => Pv n σ' H' ∧ Ex H2 H', ⟨h0 H2 (x1.trans x2), ex_refl H2⟩, fun n σ' H' q => ⟨Evl.ex_l q.2 g1, Evl.ex_l q.2 g3⟩, fun n x y t σ' H' hx hy q ht => ?_, fun σ' H' q => ?_⟩
    · obtain ⟨dx, hdx, rx⟩ := g2.get' hx
      obtain ⟨dy, hdy, ry⟩ := g4.get' hy
      have en : Ex H' (upd H' t (.tup [x, y])) := ex_new ht
      refine ⟨fun pins s I => thn ((hs n dx dy (.ref t) σ' _ hdx hdy (hx0 _ _ _ _ q.1 en) (.tup (Or.inl (Or.inl upd_same)) (.cons (rx.ex (q.2.trans en)) (.cons (ry.ex (q.2.trans en)) .nil)))).run pins s I) fun f s' hf => ?_⟩
      cases f with
      | next => obtain ⟨σ7, H7, I7, n7, x7⟩ := hf; exact ⟨σ7, H7, I7, ⟨n7, (q.2.trans en).trans x7⟩, Ex.ku x7⟩
      | cont => obtain ⟨σ7, H7, I7, n7, x7⟩ := hf; exact ⟨σ7, H7, I7, ⟨n7, (q.2.trans en).trans x7⟩, Ex.ku x7⟩
      | brk => exact hf
      | ret u => exact hf
    · rw [g2.length, g4.length] at q
      exact hd σ' H' q.1)
/-- all but the object at l stands -/
def Bt (l : Addr) (H H' : Hp) : Prop := ∀ a o, a ≠ l → H a = some o → H' a = some o
theorem Bt.refl (l : Addr) (H : Hp) : Bt l H H := fun _ _ _ h => h
theorem Bt.ex {l : Addr} {H H1 H2 : Hp} (b : Bt l H H1) (e : Ex H1 H2) : Bt l H H2 := fun a o n h => e a o (b a o n h)
theorem Bt.put {l : Addr} {H H1 : Hp} {o : HO} (b : Bt l H H1) : Bt l H (upd H1 l o) := fun a u n h => by rw [upd_ne n]; exact b a u n h
/-- for a, b in zip(e1, e2), both new lists; the object at l may change -/
theorem go_forZ2 (is : List Nat) (l : Addr) {ts : List Expr} {k : Nat} {tp : Pos} {xs ys : List PyData} (hp : PassesOwn (model X.prog X.w) X.A X.env X.xe) (hc : X.calm = true) (hN : X.N.Nodup) (hm : X.mg "zip" = none) (h1 : Ev X σ H e1 (NewR X.K H xs)) (h2 : Ev X σ H e2 (NewR X.K H ys))
    (hll : H l ≠ none) (nm : NmAt X ts is) (Pv : Nat → L2.St → Hp → Prop) (h0 : ∀ H1, Ex H H1 → Pv 0 σ H1)
    (hs : ∀ n x y v w σ' H', xs[n]? = some x → ys[n]? = some y → Pv n σ' H' → KT H H' → Rp X.K H' v x → Rp X.K H' w y → Go X body { D with nx := fun σ2 H2 => Pv (n + 1) σ2 H2 ∧ Bt l H' H2 ∧ KT H' H2, ct := fun σ2 H2 => Pv (n + 1) σ2 H2 ∧ Bt l H' H2 ∧ KT H' H2, bk := Go X rest D } (setAll σ' is [v, w]) H')
    (hx0 : ∀ n σ' H' H2, Pv n σ' H' → Ex H' H2 → Pv n σ' H2)
    (hd : ∀ σ' H', Pv (min xs.length ys.length) σ' H' → KT H H' → Go X rest D σ' H') (h2s : is.length = 2 := by rfl)
    (hg : Gl X "zip" := by rfl) (hn : (assignEach ts X.env).length = is.length := by rfl) (hst : (assignEach ts X.env).findIdx? (·.1) = none := by rfl)
    (s1 : starEach [e2] X.env = (false, eval e2 X.env) :: starEach [] X.env := by rfl) (s2 : starEach [e1, e2] X.env = (false, eval e1 X.env) :: starEach [e2] X.env := by rfl) (hpl : (backTo q2 (starEach [e2] X.env)).any (·.1) = false := by rfl)
    (hfs : ∀ x, foldedSetIterable (.Call (.Name "zip" q1) [e1, e2] [] q2) X.env x = pure x := by intro _; rfl) : Go X (.For (.Tuple ts k tp) (.Call (.Name "zip" q1) [e1, e2] [] q2) body [] pos :: rest) D σ H :=
  go_cons (ps_for hp hc (pi_zip hg hm (pa_cons pe_u (pa_cons pe_u pa_nil s1) s2) s2 hpl) (pg_tup hc (pgs_names hN nm) hn hst) pss_u hfs) (h1 H (ex_refl H) _ fun v H1 x1 r1 => h2 H1 x1 _ fun w H2 x2 r2 => by
    obtain ⟨p, vs, rfl, f1, g1, g2⟩ := mo_new _ _ _ x2 r1
    obtain ⟨p2, ws, rfl, f2, g3, g4⟩ := r2
    have np : p ≠ l := fun z => hll (z ▸ f1)
    have np2 : p2 ≠ l := fun z => hll (z ▸ f2)
    refine ⟨p, p2, vs, ws, rfl, Or.inl (Or.inl g1), Or.inl (Or.inl g3), for_it (walk_zip rfl) (fun n σ' H' => Pv n σ' H' ∧ Bt l H2 H' ∧ KT H2 H') ⟨h0 H2 (x1.trans x2), Bt.refl _ _, KT.refl _⟩ (fun n σ' H' _ q => ⟨Or.inl (Or.inl (q.2.1 _ _ np g1)), Or.inl (Or.inl (q.2.1 _ _ np2 g3))⟩) (fun n z σ' H' H3 hn q hy => ?_) fun σ' H' q => ?_⟩
    · obtain ⟨t, x, y, rfl, ht', rfl, hx, hy⟩ := hy
      obtain ⟨dx, hdx, rx⟩ := g2.get' hx
      obtain ⟨dy, hdy, ry⟩ := g4.get' hy
      have en : Ex H' (upd H' t (.tup [x, y])) := ex_new ht'
      have kk : KT H2 (upd H' t (.tup [x, y])) := q.2.2.trans (Ex.kt en)
      refine ⟨t, [x, y], rfl, Or.inl (Or.inl upd_same), h2s.symm, h2s.symm, ⟨fun pins s I => thn ((hs n dx dy x y σ' _ hdx hdy (hx0 _ _ _ _ q.1 en) ((Ex.kt (x1.trans x2)).trans kk) (Rp.kt kk _ _ rx) (Rp.kt kk _ _ ry)).run pins s I) fun f s' hf => ?_⟩⟩
      have key : ∀ {σ7 : L2.St} {H7 : Hp}, (Pv (n + 1) σ7 H7 ∧ Bt l (upd H' t (.tup [x, y])) H7 ∧ KT (upd H' t (.tup [x, y])) H7) → Pv (n + 1) σ7 H7 ∧ Bt l H2 H7 ∧ KT H2 H7 := fun {σ7 H7} h => ⟨h.1, fun a o na ho => h.2.1 a o na (en a o (q.2.1 a o na ho)), kk.trans h.2.2⟩
      cases f with
      | next => obtain ⟨σ7, H7, I7, h7⟩ := hf; exact ⟨σ7, H7, I7, key h7⟩
      | cont => obtain ⟨σ7, H7, I7, h7⟩ := hf; exact ⟨σ7, H7, I7, key h7⟩
      | brk => exact hf
      | ret u => exact hf
    · rw [g2.length, g4.length] at q
      exact hd σ' H' q.1 ((Ex.kt (x1.trans x2)).trans q.2.2))
end
end Ar
set_option maxHeartbeats 4000000
/-! list(reversed(a list)) -/
namespace Ar
open PySem L2 PySem.Spec PyProof.Rows
section
variable {prog : Program} {w : World} {A : Around} {E : Value → Shared → Prop} {s : Shared}
/-- the new list at S takes what the iterator at it gives -/
theorem ext_rev {R : Result → Shared → Prop} {it l S : Addr} {items : Array Value} {res : Value} {c0 : Nat} (hh : A.handled = none) (hit : s.heap.IsRevIter it l ((items.size : Int) - 1)) (hl : s.heap.IsList l items) (hne : l ≠ it) (hz : items.size ≤ sizeLine)
    (hSi : S ≠ it) (hSl : S ≠ l) (hS : s.heap.get? S = some { cls := .type "list", data := .seq #[] c0 })
    (hR : ∀ h' tk acc c', (∀ b o, b ≠ S → b ≠ it → s.heap.get? b = some o → h'.get? b = some o) → h'.get? S = some { cls := .type "list", dict := none, data := .seq acc c', slots := #[] } →
      ItemsOf (fun i v => items[items.size - 1 - i]? = some v) acc items.size → R (.ok (.ret res)) { s with heap := h', toks := tk }) :
    wpAny (model prog w) A.in1 (Builtin.List.listExtendWith (.ref S) (.ref it) res)
      (fun fin s' => match fin with | .done f => R (.ok f) s' | .again c' => c'.quiet = true ∧ codeAny (model prog w) A c' R s') (fun e s' => R (.error e) s') s := by
  have WK := (Walks.listRev (prog := prog) (w := w) (A := A.in1) hh it l hne items).toS
  have Sf : S ∉ [it, l] := by simp [hSi, hSl]
  have hTy : s.TypeIs (.ref it) "list_reverseiterator" := hit.typeIs
  have same : Builtin.List.listSameRef (.ref S) (.ref it) = false := by simp [Builtin.List.listSameRef, hSi]
  unfold Builtin.List.listExtendWith
  refine wpAny_bind (wpAny_typeOf hTy ?_)
  rw [if_neg (by rw [same]; decide)]
  refine wpAny_bind (wpAny_pyIter_revIter hit (wpAny_bind (wpAny_holding ?_)))
  unfold Builtin.List.listLengthHint
  refine wpAny_bind (wpAny_specialOf hTy RT.nolen_lri ?_)
  show wpAny _ A.in1 (specialOf (.ref it) (Str.ofString "__length_hint__") >>= _) _ _ _
  refine wpAny_bind (wpAny_specialOf hTy RT.hint_lri ?_)
  generalize hw : ("list_reverseiterator.__length_hint__" : String) = word
  wp_delta
  have sp : splitId word = some ("list_reverseiterator", "__length_hint__") := by subst hw; decide +kernel
  rw [sp]
  subst hw
  refine wpAny_bind (wpAny_isInstance (b := true) hTy (by rw [isSubtype_type]; kernel_rfl) (wpAny_pure ?_))
  rw [if_neg (by decide)]
  have e0 : ((items.size : Nat) : Int) - 1 - ((0 : Nat) : Int) = (items.size : Int) - 1 := by omega
  refine wpAny_pure ⟨plainId_quiet F.plain_extend_loop _, codeAny_extend_loopS WK hz S Sf res items.size 0 _ #[] c0 rfl (Nat.zero_le _) ⟨Nat.zero_le _, (by rw [e0]; exact hit), hl⟩ hS (ItemsOf.nil _) fun s' acc c' hm hS' ha => ?_⟩
  rw [Moved.eq_with hm]
  refine hR s'.heap s'.toks acc c' (fun b o h1 h2 e => hm.heap b o (fun hb => ?_) e) hS' ha
  simp only [List.mem_cons, List.not_mem_nil, or_false] at hb
  rcases hb with hb | hb
  · exact h1 hb
  · exact h2 hb
theorem call_list_rev {it l : Addr} {items : Array Value} {Q : Value → Shared → Prop} (hh : A.handled = none) (hit : s.heap.IsRevIter it l ((items.size : Int) - 1)) (hl : s.heap.IsList l items) (hne : l ≠ it) (hz : items.size ≤ sizeLine)
    (hQ : ∀ (h' : Heap) (tk : Nat) (acc : Array Value) (c' : Nat), (∀ b o, b ≠ it → s.heap.get? b = some o → h'.get? b = some o) → h'.get? s.heap.objs.size = some { cls := .type "list", dict := none, data := .seq acc c', slots := #[] } →
      ItemsOf (fun i v => items[items.size - 1 - i]? = some v) acc items.size → Q (.ref s.heap.objs.size) { s with heap := h', toks := tk }) : wpAny (model prog w) A (call (.type "list") [.ref it]) Q E s := by
  obtain ⟨oi, hoi, _⟩ := id hit
  obtain ⟨ol, hol, _⟩ := id hl
  have ni : s.heap.objs.size ≠ it := Nat.ne_of_gt (Heap.lt_size hoi)
  have nl : s.heap.objs.size ≠ l := Nat.ne_of_gt (Heap.lt_size hol)
  refine callType_codes (Q₁ := fun obj s1 => obj = .ref s.heap.objs.size ∧ s1 = { s with heap := s.heap.push { cls := .type "list", data := .seq #[] } }) F.called_list (F.typeCall_list_1 _) F.entry_list_init (code_list_new _ ⟨rfl, rfl⟩) fun obj s1 h1 => ?_
  obtain ⟨rfl, rfl⟩ := h1
  have h0 : (s.heap.push { cls := .type "list", data := .seq #[] }).get? s.heap.objs.size = some { cls := .type "list", data := .seq #[] } := Heap.get?_push_size _ rfl
  refine ⟨⟨_, h0, rfl⟩, F.args_list_init_2 _ _, ?_⟩
  show wpAny _ _ (do let old ← Builtin.List.listItems (.ref s.heap.objs.size); Builtin.List.listUpdate (.ref s.heap.objs.size) (fun _ => #[]); letGo old.toList.reverse; Builtin.List.listExtendWith (.ref s.heap.objs.size) (.ref it) .none) _ _ _
  refine wpAny_bind ?_
  unfold Builtin.List.listItems
  refine wpAny_bind (wpAny_seqItems h0 rfl (wpAny_pure ?_))
  show wpAny _ _ (updateSeq s.heap.objs.size (fun _ => #[]) >>= fun _ => letGo (#[] : Array Value).toList.reverse >>= fun _ => Builtin.List.listExtendWith (.ref s.heap.objs.size) (.ref it) .none) _ _ _
  refine wpAny_bind (wpAny_updateSeq h0 rfl (wpAny_bind (wpAny_letGo ?_)))
  have h2 := Heap.get?_update_self (Obj.mapSeq (fun _ => (#[] : Array Value))) h0 rfl
  have oth : ∀ b o, b ≠ s.heap.objs.size → s.heap.get? b = some o → ((s.heap.push { cls := .type "list", data := .seq #[] }).update s.heap.objs.size (Obj.mapSeq (fun _ => (#[] : Array Value)))).get? b = some o :=
    fun b o hb e => (Heap.get?_update_other _ _ (Ne.symm hb)).trans (Heap.get?_push_of_some _ e)
  refine ext_rev (A := A.in1) hh (hit.at fun o e => oth it o ni.symm e) (hl.at fun o e => oth l o nl.symm e) hne hz ni nl h2 fun h' tk acc c' hk hS' ha => ?_
  exact ⟨rfl, hQ h' tk acc c' (fun b o hb e => hk b o (Nat.ne_of_lt (Heap.lt_size e)) hb (oth b o (Nat.ne_of_lt (Heap.lt_size e)) e)) hS' ha⟩
end
end Ar
set_option maxHeartbeats 4000000
/-! Comprehensions; list(reversed(xs)). -/
namespace Ar
open PySem L2 PySem.Spec PyProof.Rows
section
variable {X : Cx} {σ : L2.St} {H : Hp} {e e1 e2 elt it tg : Expr} {pos p p2 pos2 q1 q2 : Pos} {scope : Scope}
/-- what an expression asks in a comprehension's block -/
def uB (X : Cx) (scope : Scope) (e : Expr) : TE := fun σ H Q => ∀ (s : Shared) (H0 : Hp) (C : Addr) (cl : List (Str × Addr)) (fp : List Addr), uE (X.blk s H0 scope (compEnvC scope cl C X.env) fp) e σ H Q
def EvB (X : Cx) (scope : Scope) (σ : L2.St) (H : Hp) (e : Expr) (d : PyData) : Prop := ∀ (s : Shared) (H0 : Hp) (C : Addr) (cl : List (Str × Addr)) (fp : List Addr), EvD (X.blk s H0 scope (compEnvC scope cl C X.env) fp) σ H e d
def MoG (g : TG) : Prop := ∀ x σ H (Q Q' : L2.St → Hp → Prop), (∀ σ2 H2, Q σ2 H2 → Q' σ2 H2) → g x σ H Q → g x σ H Q'
theorem mog_name (i : Nat) : MoG (gName i) := fun _ _ _ _ _ h q => h _ _ q
theorem mog_tup (K : PySem.W.Frag) (n : Nat) (is : List Nat) : MoG (gTup K n (gAll is)) := fun _ _ _ _ _ h ⟨a, xs, h1, h2, h3, h4, h5⟩ => ⟨a, xs, h1, h2, h3, h4, h _ _ h5⟩
theorem ev_lc {wi : TI} {g : TG} {own : List (Str × Nat)} {n : Nat} {rs : List PyData} (hc : X.calm = true) (hN : X.N.Nodup) (hi : PI X tg it wi) (ok : BlkOk X.N X.env.scope scope own)
    (hg : ∀ (s : Shared) (H : Hp) (C : Addr) (cl : List (Str × Addr)) (fp : List Addr), PG (X.blk s H scope (compEnvC scope cl C X.env) fp) tg g) (mg : MoG g)
    (hw : ∀ H1, Ex H H1 → ∀ R : It → Hp → Prop, (∀ J H2, Ex H1 H2 → (∃ G Y, Walk J n G Y ∧ (∀ H3, Ex H2 H3 → G H3) ∧ ∀ i H3 x H4, i < n → Ex H2 H3 → Y i H3 x H4 → Ex H3 H4 ∧ g x (wipe σ (own.map (·.2))) H4 fun σ2 H5 => H5 = H4 ∧ wipe σ2 (own.map (·.2)) = wipe σ (own.map (·.2)) ∧ ∃ d, rs[i]? = some d ∧ EvB X scope σ2 H4 elt d) → R J H2) → wi σ H1 R)
    (hl : rs.length = n) (hz : n ≤ 90000) (hs : ∀ x, foldedSetIterable it X.env x = pure x := by intro _; rfl) : Ev X σ H (.ListComp elt [⟨tg, it, [], 0⟩] scope pos) (NewR X.K H rs) := fun H1 e1 Q q =>
  uE.of (pe_lc (te := uB X scope elt) hc hN hi ok hg (fun _ _ _ _ _ => pts_nil) (fun s H C cl fp => ⟨fun pins s' σ' H' Q' I h => h s H C cl fp pins s' I⟩) hs) (hw H1 e1 _ fun J H2 e2 hG D hD => by
    obtain ⟨G, Y, W, hG1, hY⟩ := hG
    refine lc_it W (fun i H' => Ex H2 H' ∧ ∃ acc, H' D = some (.lst acc) ∧ RpL X.K H' acc (rs.take i)) ⟨ex_new hD, [], upd_same, .nil⟩ (fun i H' _ h => hG1 H' h.1) (fun i x H3 H4 hin hp hy => ?_) fun H' h => ?_
    · obtain ⟨x2, acc, h1, h2⟩ := hp
      obtain ⟨x3, hgo⟩ := hY i H3 x H4 hin x2 hy
      refine mg _ _ _ _ _ (fun σ2 H5 h5 => ?_) hgo
      obtain ⟨rfl, w1, d, hd, hB⟩ := h5
      refine ⟨w1, ?_⟩
      unfold tYes
      dsimp only
      rw [if_pos rfl]
      intro s H0 C cl fp
      refine hB s H0 C cl fp H5 (ex_refl H5) _ fun v H6 x6 rv => ?_
      have hD6 : H6 D = some (.lst acc) := x6 _ _ (x3 _ _ h1)
      have r6 : RpL X.K H6 acc (rs.take i) := (h2.ex x3).ex x6
      have rv' : Rp X.K H6 v d := rv
      refine ⟨acc, hD6, Evl.sz_lt (by rw [h2.length, List.length_take]; omega), Evl.Ex.mut ((x2.trans x3).trans x6) hD, acc ++ [v], upd_same, ?_⟩
      have kt : KT H6 (upd H6 D (.lst (acc ++ [v]))) := KT.lst hD6
      rw [List.take_add_one, hd]
      exact (RpL.kt kt _ _ r6).append (.one (Rp.kt kt _ _ rv'))
    · obtain ⟨x2, acc, h1, h2⟩ := h
      rw [← hl, List.take_length] at h2
      exact q _ _ (e2.trans x2) ⟨D, acc, rfl, Evl.fresh_back (e1.trans e2) hD, h1, h2⟩)
/-- [e for name in xs] -/
theorem ev_lcL (j : Nat) {y : Str} {ds rs : List PyData} {py : Pos} (hc : X.calm = true) (hN : X.N.Nodup) (he : EvL X σ H it ds) (ok : BlkOk X.N X.env.scope scope [(y, j)]) (hg : ∀ (s : Shared) (H : Hp) (C : Addr) (cl : List (Str × Addr)) (fp : List Addr), PG (X.blk s H scope (compEnvC scope cl C X.env) fp) (.Name y py) (gName j))
    (hl : rs.length = ds.length) (hz : rs.length ≤ 90000) (hi : ∀ (i : Nat) (H1 : Hp) (v : V) (d : PyData), Ex H H1 → ds[i]? = some d → Rp X.K H1 v d → ∃ r, rs[i]? = some r ∧ EvB X scope ((wipe σ [j]).set j (some v)) H1 elt r) (hw : ∀ x, wipe ((wipe σ [j]).set j (some x)) [j] = wipe σ [j] := by intro _; rfl)
    (hs : ∀ x, foldedSetIterable it X.env x = pure x := by intro _; rfl) : Ev X σ H (.ListComp elt [⟨.Name y py, it, [], 0⟩] scope pos) (NewR X.K H rs) :=
  ev_lc (n := ds.length) hc hN (pi_list pe_u) ok hg (mog_name j) (fun H1 e1 R hR => he H1 e1 _ fun v H2 e2 r => by
    obtain ⟨a, xs, rfl, h1, h2⟩ := r
    refine ⟨a, rfl, ⟨xs, h1⟩, hR _ H2 e2 ⟨_, _, (by rw [← h2.length]; exact walk_list (K := X.K) (a := a) (xs := xs)), fun H3 e3 => Evl.ex_l e3 h1, fun i H3 x H4 hin e3 hy => ?_⟩⟩
    obtain ⟨rfl, hx⟩ := hy
    obtain ⟨d, hd, rv⟩ := h2.get' hx
    obtain ⟨r, hr, hB⟩ := hi i H4 x d ((e1.trans e2).trans e3) hd (rv.ex e3)
    exact ⟨ex_refl _, rfl, hw x, r, hr, hB⟩) hl (by omega) hs
/-- [e for a, b in zip(xs, ys)] -/
theorem ev_lcZ (is : List Nat) {own : List (Str × Nat)} {ts : List Expr} {k : Nat} {tp : Pos} {xs ys rs : List PyData} {R1 R2 : V → Hp → Prop} (hc : X.calm = true) (hN : X.N.Nodup) (hm : X.mg "zip" = none) (h1 : Ev X σ H e1 R1) (m1 : Mo R1) (h2 : Ev X σ H e2 R2) (g1 : ∀ v H1, R1 v H1 → LsR X.K xs v H1) (g2 : ∀ v H1, R2 v H1 → LsR X.K ys v H1)
    (ok : BlkOk X.N X.env.scope scope own) (hg : ∀ (s : Shared) (H : Hp) (C : Addr) (cl : List (Str × Addr)) (fp : List Addr), PG (X.blk s H scope (compEnvC scope cl C X.env) fp) (.Tuple ts k tp) (gTup X.K 2 (gAll is)))
    (hl : rs.length = min xs.length ys.length) (hz : rs.length ≤ 90000) (hi : ∀ (i : Nat) (H1 : Hp) (v w : V) (x y : PyData), Ex H H1 → xs[i]? = some x → ys[i]? = some y → Rp X.K H1 v x → Rp X.K H1 w y → ∃ r, rs[i]? = some r ∧ EvB X scope (setAll (wipe σ (own.map (·.2))) is [v, w]) H1 elt r)
    (hw : ∀ v w, wipe (setAll (wipe σ (own.map (·.2))) is [v, w]) (own.map (·.2)) = wipe σ (own.map (·.2)) := by intro _ _; rfl) (h2s : is.length = 2 := by rfl) (hgz : Gl X "zip" := by rfl)
    (s1 : starEach [e2] X.env = (false, eval e2 X.env) :: starEach [] X.env := by rfl) (s2 : starEach [e1, e2] X.env = (false, eval e1 X.env) :: starEach [e2] X.env := by rfl) (hpl : (backTo q2 (starEach [e2] X.env)).any (·.1) = false := by rfl)
    (hs : ∀ x, foldedSetIterable (.Call (.Name "zip" q1) [e1, e2] [] q2) X.env x = pure x := by intro _; rfl) : Ev X σ H (.ListComp elt [⟨.Tuple ts k tp, .Call (.Name "zip" q1) [e1, e2] [] q2, [], 0⟩] scope pos) (NewR X.K H rs) :=
  ev_lc (n := min xs.length ys.length) hc hN (pi_zip hgz hm (pa_cons pe_u (pa_cons pe_u pa_nil s1) s2) s2 hpl) ok hg (mog_tup X.K 2 is) (fun H1 x1 R hR => h1 H1 x1 _ fun v H2 x2 r1 => h2 H2 (x1.trans x2) _ fun w H3 x3 r2 => by
    obtain ⟨a, vs, rfl, f1, f2⟩ := g1 _ _ (m1 _ _ _ x3 r1)
    obtain ⟨b, ws, rfl, f3, f4⟩ := g2 _ _ r2
    refine ⟨a, b, vs, ws, rfl, f1, f3, hR _ H3 (x2.trans x3) ⟨_, _, walk_zip (K := X.K) (a := a) (b := b) (xs := vs) (ys := ws) (by rw [f2.length, f4.length]), fun H4 x4 => ⟨Evl.ex_l x4 f1, Evl.ex_l x4 f3⟩, fun i H4 z H5 hin x4 hy => ?_⟩⟩
    obtain ⟨T, x, y, rfl, hT, rfl, hx, hy⟩ := hy
    obtain ⟨dx, hdx, rx⟩ := f2.get' hx
    obtain ⟨dy, hdy, ry⟩ := f4.get' hy
    have en : Ex H4 (upd H4 T (.tup [x, y])) := ex_new hT
    obtain ⟨r, hr, hB⟩ := hi i _ x y dx dy ((((x1.trans x2).trans x3).trans x4).trans en) hdx hdy (rx.ex (x4.trans en)) (ry.ex (x4.trans en))
    exact ⟨en, T, [x, y], rfl, Or.inl (Or.inl upd_same), rfl, h2s.symm, rfl, hw x y, r, hr, hB⟩) hl (by omega) hs
/-- [e for a, b in reversed(xs)] -/
theorem ev_lcR (is : List Nat) {own : List (Str × Nat)} {ts : List Expr} {k : Nat} {tp : Pos} {ds rs : List PyData} (hc : X.calm = true) (hN : X.N.Nodup) (hm : X.mg "reversed" = none) (he : EvL X σ H e ds) (hpair : ∀ d ∈ ds, ∃ a b, d = .tuple [a, b])
    (ok : BlkOk X.N X.env.scope scope own) (hg : ∀ (s : Shared) (H : Hp) (C : Addr) (cl : List (Str × Addr)) (fp : List Addr), PG (X.blk s H scope (compEnvC scope cl C X.env) fp) (.Tuple ts k tp) (gTup X.K 2 (gAll is)))
    (hl : rs.length = ds.length) (hz : rs.length ≤ 90000) (hi : ∀ (i : Nat) (H1 : Hp) (v w : V) (x y : PyData), Ex H H1 → ds.reverse[i]? = some (PyData.tuple [x, y]) → Rp X.K H1 v x → Rp X.K H1 w y → ∃ r, rs[i]? = some r ∧ EvB X scope (setAll (wipe σ (own.map (·.2))) is [v, w]) H1 elt r)
    (hw : ∀ v w, wipe (setAll (wipe σ (own.map (·.2))) is [v, w]) (own.map (·.2)) = wipe σ (own.map (·.2)) := by intro _ _; rfl) (h2s : is.length = 2 := by rfl) (hgr : Gl X "reversed" := by rfl)
    (s1 : starEach [e] X.env = [(false, eval e X.env)] := by rfl) (s2 : starEach [e] X.env = (false, eval e X.env) :: starEach [] X.env := by rfl)
    (hs : ∀ x, foldedSetIterable (.Call (.Name "reversed" q1) [e] [] q2) X.env x = pure x := by intro _; rfl) : Ev X σ H (.ListComp elt [⟨.Tuple ts k tp, .Call (.Name "reversed" q1) [e] [] q2, [], 0⟩] scope pos) (NewR X.K H rs) :=
  ev_lc (n := ds.length) hc hN (pi_reversed hgr hm (pa_cons pe_u pa_nil s2) s1) ok hg (mog_tup X.K 2 is) (fun H1 x1 R hR => he H1 x1 _ fun v H2 x2 r => by
    obtain ⟨a, vs, rfl, f1, f2⟩ := r
    refine ⟨a, vs, rfl, f1, hR _ H2 x2 ⟨_, _, (by rw [← f2.length]; exact walk_rev (K := X.K) (a := a) (xs := vs)), fun H4 x4 => Evl.ex_l x4 f1, fun i H4 z H5 hin x4 hy => ?_⟩⟩
    obtain ⟨rfl, hx⟩ := hy
    obtain ⟨d, hd, rz⟩ := f2.get' hx
    obtain ⟨da, db, rfl⟩ := hpair d (List.mem_of_getElem? hd)
    obtain ⟨c, zs, rfl, hc', rr⟩ := (rz.ex x4).tup_inv
    obtain ⟨v1, v2, rfl, r1, r2⟩ := two_inv rr
    have hrev : ds.reverse[i]? = some (PyData.tuple [da, db]) := by
      rw [List.getElem?_reverse hin, ← f2.length]
      exact hd
    obtain ⟨r, hr, hB⟩ := hi i _ v1 v2 da db ((x1.trans x2).trans x4) hrev r1 r2
    exact ⟨ex_refl _, c, [v1, v2], rfl, hc', rfl, h2s.symm, rfl, hw v1 v2, r, hr, hB⟩) hl (by omega) hs
/-- list(reversed(xs)) -/
theorem ev_lstRev {ds : List PyData} (hc : X.calm = true) (hm : X.mg "list" = none) (hm2 : X.mg "reversed" = none) (he : EvL X σ H e ds) (hg : Gl X "list" := by rfl) (hg2 : Gl X "reversed" := by rfl)
    (s1 : starEach [e] X.env = (false, eval e X.env) :: starEach [] X.env := by rfl) (s2 : starEach [.Call (.Name "reversed" p2) [e] [] pos2] X.env = (false, eval (.Call (.Name "reversed" p2) [e] [] pos2) X.env) :: starEach [] X.env := by rfl) :
    Ev X σ H (.Call (.Name "list" p) [.Call (.Name "reversed" p2) [e] [] pos2] [] pos) (NewR X.K H ds.reverse) := fun H1 x1 Q q pins s I => by
  refine Call_ (ld_blt I hg hm (show bootBuiltins "list" = some (.type "list") by decide +kernel) (PyProof.Rows.callWith_type1 (args_cons (Call_ (ld_blt I hg2 hm2 PyProof.Rows.boot_reversed (PyProof.Rows.callWith_type1 (args_cons (thn (he H1 x1 _ (fun v H2 x2 r => (⟨x2, r⟩ : Ex H1 H2 ∧ LsR X.K ds v H2)) pins s I) fun u s1 hq => args_nil ?_) s1) s1 rfl))) s2) s2 rfl))
  obtain ⟨v, H2, I2, r1, x2, a, xs, rfl, hl, rr⟩ := hq
  obtain rfl : u = Value.ref a := r1
  obtain ⟨its, rv, p', hz⟩ := I2.list hl
  refine call_reversed_list p'.isList (args_nil ?_)
  have k0 : ∀ b o, s1.heap.get? b = some o → (s1.heap.push (revObj a ((its.toArray.size : Int) - 1))).get? b = some o := fun b o e => Heap.get?_push_of_some _ e
  have I3 : Inv X pins σ H2 { s1 with heap := s1.heap.push (revObj a ((its.toArray.size : Int) - 1)) } := I2.kept (t' := s1.toks) k0
  obtain ⟨f0, f1, f2, f3, f4, f5⟩ := I2.fpOk (H' := H2) (b := s1.heap.objs.size) (Nat.le_refl _) (I2.hok.fresh (Nat.le_refl _))
  have hli := p'.isList
  obtain ⟨ol, hol, _⟩ := id hli
  have hne : a ≠ s1.heap.objs.size := Nat.ne_of_lt (Heap.lt_size hol)
  have hn : its.toArray.size ≤ sizeLine := by rw [List.size_toArray, ← rv.length]; exact hz
  refine call_list_rev (s := { s1 with heap := s1.heap.push (revObj a ((its.toArray.size : Int) - 1)) }) (I2.ok.hd hc) ⟨_, Heap.get?_push_size _ rfl, rfl, rfl⟩ (hli.push _) hne hn fun h' tk acc c' hk hS hi => ?_
  have new : ObjOk X.prog X.w (upd H2 (s1.heap.push (revObj a ((its.toArray.size : Int) - 1))).objs.size (.lst xs.reverse)) h' (s1.heap.push (revObj a ((its.toArray.size : Int) - 1))).objs.size (.lst xs.reverse) :=
    ⟨by rw [List.length_reverse]; exact hz, acc.toList, c', RT.vals_rev rv hi, by rw [Array.toArray_toList]; exact hS⟩
  have I4 := I3.turnedNew (t' := tk) (ch := [s1.heap.objs.size]) (fun b o hb e => hk b o (fun z => hb (by simp [z])) e) (fun b hb => by rw [List.mem_singleton.mp hb]; exact ⟨f0, f1, f2, f3, f4, f5⟩) (Nat.le_refl _) new
  have hn2 : H2 (s1.heap.push (revObj a ((its.toArray.size : Int) - 1))).objs.size = none := I3.hok.fresh (Nat.le_refl _)
  exact ⟨.ref _, _, I4, rfl, q _ _ (x2.trans (ex_new hn2)) ⟨_, _, rfl, Evl.fresh_back (x1.trans x2) hn2, upd_same, rr.reverse.ex (ex_new hn2)⟩⟩
end
end Ar
set_option maxHeartbeats 4000000
/-! The text by places. -/
namespace Ar
open PySem L2
def topS (i : Nat) : Stmt := PySem.Challenge.pw_arcmill_k76_whole_cut_strokes_wind_alike.main.body.getD i (.Pass ⟨0, 0, 0, 0⟩)
abbrev s_divisor : Stmt := topS 6
abbrev n_divisor : List Str := ["one", "other"]
theorem sc_divisor : FnScope n_divisor ["one", "other"] (C8.fnScope s_divisor) := ⟨rfl, rfl, rfl, by decide +kernel, rfl, by decide +kernel, by decide +kernel⟩
abbrev s_ratio : Stmt := topS 7
abbrev n_ratio : List Str := ["top", "bottom", "by"]
theorem sc_ratio : FnScope n_ratio ["top", "bottom"] (C8.fnScope s_ratio) := ⟨rfl, rfl, rfl, by decide +kernel, rfl, by decide +kernel, by decide +kernel⟩
abbrev s_plus : Stmt := topS 8
abbrev n_plus : List Str := ["one", "other"]
theorem sc_plus : FnScope n_plus ["one", "other"] (C8.fnScope s_plus) := ⟨rfl, rfl, rfl, by decide +kernel, rfl, by decide +kernel, by decide +kernel⟩
abbrev s_minus : Stmt := topS 9
abbrev n_minus : List Str := ["one", "other"]
theorem sc_minus : FnScope n_minus ["one", "other"] (C8.fnScope s_minus) := ⟨rfl, rfl, rfl, by decide +kernel, rfl, by decide +kernel, by decide +kernel⟩
abbrev s_times : Stmt := topS 10
abbrev n_times : List Str := ["one", "other"]
theorem sc_times : FnScope n_times ["one", "other"] (C8.fnScope s_times) := ⟨rfl, rfl, rfl, by decide +kernel, rfl, by decide +kernel, by decide +kernel⟩
abbrev s_over : Stmt := topS 11
abbrev n_over : List Str := ["one", "other"]
theorem sc_over : FnScope n_over ["one", "other"] (C8.fnScope s_over) := ⟨rfl, rfl, rfl, by decide +kernel, rfl, by decide +kernel, by decide +kernel⟩
abbrev s_below : Stmt := topS 12
abbrev n_below : List Str := ["one", "other"]
theorem sc_below : FnScope n_below ["one", "other"] (C8.fnScope s_below) := ⟨rfl, rfl, rfl, by decide +kernel, rfl, by decide +kernel, by decide +kernel⟩
abbrev s_together : Stmt := topS 14
abbrev n_together : List Str := ["p", "q"]
theorem sc_together : FnScope n_together ["p", "q"] (C8.fnScope s_together) := ⟨rfl, rfl, rfl, by decide +kernel, rfl, by decide +kernel, by decide +kernel⟩
abbrev s_off : Stmt := topS 15
abbrev n_off : List Str := ["p", "q"]
theorem sc_off : FnScope n_off ["p", "q"] (C8.fnScope s_off) := ⟨rfl, rfl, rfl, by decide +kernel, rfl, by decide +kernel, by decide +kernel⟩
abbrev s_grown : Stmt := topS 16
abbrev n_grown : List Str := ["p", "number"]
theorem sc_grown : FnScope n_grown ["p", "number"] (C8.fnScope s_grown) := ⟨rfl, rfl, rfl, by decide +kernel, rfl, by decide +kernel, by decide +kernel⟩
abbrev s_turned : Stmt := topS 17
abbrev n_turned : List Str := ["p", "quarters", "x", "y", "turn"]
theorem sc_turned : FnScope n_turned ["p", "quarters"] (C8.fnScope s_turned) := ⟨rfl, rfl, rfl, by decide +kernel, rfl, by decide +kernel, by decide +kernel⟩
abbrev s_along : Stmt := topS 18
abbrev n_along : List Str := ["p", "q"]
theorem sc_along : FnScope n_along ["p", "q"] (C8.fnScope s_along) := ⟨rfl, rfl, rfl, by decide +kernel, rfl, by decide +kernel, by decide +kernel⟩
abbrev s_across : Stmt := topS 19
abbrev n_across : List Str := ["p", "q"]
theorem sc_across : FnScope n_across ["p", "q"] (C8.fnScope s_across) := ⟨rfl, rfl, rfl, by decide +kernel, rfl, by decide +kernel, by decide +kernel⟩
abbrev s_far : Stmt := topS 20
abbrev n_far : List Str := ["p", "q", "way"]
theorem sc_far : FnScope n_far ["p", "q"] (C8.fnScope s_far) := ⟨rfl, rfl, rfl, by decide +kernel, rfl, by decide +kernel, by decide +kernel⟩
abbrev s_sign_of : Stmt := topS 21
abbrev n_sign_of : List Str := ["number"]
theorem sc_sign_of : FnScope n_sign_of ["number"] (C8.fnScope s_sign_of) := ⟨rfl, rfl, rfl, by decide +kernel, rfl, by decide +kernel, by decide +kernel⟩
abbrev s_side : Stmt := topS 22
abbrev n_side : List Str := ["a", "b", "p"]
theorem sc_side : FnScope n_side ["a", "b", "p"] (C8.fnScope s_side) := ⟨rfl, rfl, rfl, by decide +kernel, rfl, by decide +kernel, by decide +kernel⟩
abbrev s_before : Stmt := topS 23
abbrev n_before : List Str := ["p", "q"]
theorem sc_before : FnScope n_before ["p", "q"] (C8.fnScope s_before) := ⟨rfl, rfl, rfl, by decide +kernel, rfl, by decide +kernel, by decide +kernel⟩
abbrev s_stretch : Stmt := topS 25
abbrev n_stretch : List Str := ["p", "q"]
theorem sc_stretch : FnScope n_stretch ["p", "q"] (C8.fnScope s_stretch) := ⟨rfl, rfl, rfl, by decide +kernel, rfl, by decide +kernel, by decide +kernel⟩
abbrev s_lies_on : Stmt := topS 26
abbrev n_lies_on : List Str := ["piece", "p"]
theorem sc_lies_on : FnScope n_lies_on ["piece", "p"] (C8.fnScope s_lies_on) := ⟨rfl, rfl, rfl, by decide +kernel, rfl, by decide +kernel, by decide +kernel⟩
abbrev s_arc : Stmt := topS 28
abbrev n_arc : List Str := ["c", "p", "q"]
theorem sc_arc : FnScope n_arc ["c", "p", "q"] (C8.fnScope s_arc) := ⟨rfl, rfl, rfl, by decide +kernel, rfl, by decide +kernel, by decide +kernel⟩
abbrev s_quarter_of : Stmt := topS 29
abbrev n_quarter_of : List Str := ["one", "other", "straight", "left"]
theorem sc_quarter_of : FnScope n_quarter_of ["one", "other"] (C8.fnScope s_quarter_of) := ⟨rfl, rfl, rfl, by decide +kernel, rfl, by decide +kernel, by decide +kernel⟩
abbrev s_ahead : Stmt := topS 30
abbrev n_ahead : List Str := ["c", "a", "p", "q", "start", "one", "other", "here", "there"]
theorem sc_ahead : FnScope n_ahead ["c", "a", "p", "q"] (C8.fnScope s_ahead) := ⟨rfl, rfl, rfl, by decide +kernel, rfl, by decide +kernel, by decide +kernel⟩
abbrev s_on : Stmt := topS 31
abbrev n_on : List Str := ["piece", "p", "c"]
theorem sc_on : FnScope n_on ["piece", "p"] (C8.fnScope s_on) := ⟨rfl, rfl, rfl, by decide +kernel, rfl, by decide +kernel, by decide +kernel⟩
abbrev s_at_share : Stmt := topS 32
abbrev n_at_share : List Str := ["c", "a", "t", "square", "whole", "u", "v", "x", "y"]
theorem sc_at_share : FnScope n_at_share ["c", "a", "t"] (C8.fnScope s_at_share) := ⟨rfl, rfl, rfl, by decide +kernel, rfl, by decide +kernel, by decide +kernel⟩
abbrev s_share_of : Stmt := topS 33
abbrev n_share_of : List Str := ["c", "a", "p", "start", "way", "whole"]
theorem sc_share_of : FnScope n_share_of ["c", "a", "p"] (C8.fnScope s_share_of) := ⟨rfl, rfl, rfl, by decide +kernel, rfl, by decide +kernel, by decide +kernel⟩
abbrev s_quarters : Stmt := topS 34
abbrev n_quarters : List Str := ["piece", "c", "start", "found", "turn", "p"]
theorem sc_quarters : FnScope n_quarters ["piece"] (C8.fnScope s_quarters) := ⟨rfl, rfl, rfl, by decide +kernel, rfl, by decide +kernel, by decide +kernel⟩
abbrev s_piece_of : Stmt := topS 36
abbrev n_piece_of : List Str := ["leg"]
theorem sc_piece_of : FnScope n_piece_of ["leg"] (C8.fnScope s_piece_of) := ⟨rfl, rfl, rfl, by decide +kernel, rfl, by decide +kernel, by decide +kernel⟩
abbrev s_passed : Stmt := topS 37
abbrev n_passed : List Str := ["a", "b", "point"]
theorem sc_passed : FnScope n_passed ["a", "b", "point"] (C8.fnScope s_passed) := ⟨rfl, rfl, rfl, by decide +kernel, rfl, by decide +kernel, by decide +kernel⟩
abbrev s_is_between : Stmt := topS 38
abbrev n_is_between : List Str := ["c", "chord", "point", "a", "b", "hand", "up"]
theorem sc_is_between : FnScope n_is_between ["c", "chord", "point"] (C8.fnScope s_is_between) := ⟨rfl, rfl, rfl, by decide +kernel, rfl, by decide +kernel, by decide +kernel⟩
abbrev s_counted : Stmt := topS 39
abbrev n_counted : List Str := ["leg", "point", "marks", "many", "chord"]
theorem sc_counted : FnScope n_counted ["leg", "point"] (C8.fnScope s_counted) := ⟨rfl, rfl, rfl, by decide +kernel, rfl, by decide +kernel, by decide +kernel⟩
abbrev s_winding : Stmt := topS 40
abbrev n_winding : List Str := ["strokes", "point", "many", "stroke", "leg"]
theorem sc_winding : FnScope n_winding ["strokes", "point"] (C8.fnScope s_winding) := ⟨rfl, rfl, rfl, by decide +kernel, rfl, by decide +kernel, by decide +kernel⟩
abbrev s_marks_of : Stmt := topS 42
abbrev n_marks_of : List Str := ["leg", "parts", "c", "marks", "found", "a", "b", "share", "k"]
theorem sc_marks_of : FnScope n_marks_of ["leg", "parts"] (C8.fnScope s_marks_of) := ⟨rfl, rfl, rfl, by decide +kernel, rfl, by decide +kernel, by decide +kernel⟩
abbrev s_cut_leg : Stmt := topS 43
abbrev n_cut_leg : List Str := ["leg", "parts", "marks", "a", "b"]
theorem sc_cut_leg : FnScope n_cut_leg ["leg", "parts"] (C8.fnScope s_cut_leg) := ⟨rfl, rfl, rfl, by decide +kernel, rfl, by decide +kernel, by decide +kernel⟩
abbrev s_cut_strokes : Stmt := topS 44
abbrev n_cut_strokes : List Str := ["strokes", "parts", "found", "stroke", "legs", "leg"]
theorem sc_cut_strokes : FnScope n_cut_strokes ["strokes", "parts"] (C8.fnScope s_cut_strokes) := ⟨rfl, rfl, rfl, by decide +kernel, rfl, by decide +kernel, by decide +kernel⟩
abbrev s_first : Stmt := topS 47
abbrev n_first : List Str := []
theorem sc_first : FnScope n_first [] (C8.fnScope s_first) := ⟨rfl, rfl, rfl, by decide +kernel, rfl, by decide +kernel, by decide +kernel⟩
abbrev s_led : Stmt := topS 48
abbrev n_led : List Str := ["frame", "p", "place", "turns", "hand", "size", "x", "y"]
theorem sc_led : FnScope n_led ["frame", "p"] (C8.fnScope s_led) := ⟨rfl, rfl, rfl, by decide +kernel, rfl, by decide +kernel, by decide +kernel⟩
abbrev s_behind : Stmt := topS 49
abbrev n_behind : List Str := ["one", "other", "turns"]
theorem sc_behind : FnScope n_behind ["one", "other"] (C8.fnScope s_behind) := ⟨rfl, rfl, rfl, by decide +kernel, rfl, by decide +kernel, by decide +kernel⟩
abbrev s_stood : Stmt := topS 53
abbrev n_stood : List Str := ["place", "turns"]
theorem sc_stood : FnScope n_stood ["place", "turns"] (C8.fnScope s_stood) := ⟨rfl, rfl, rfl, by decide +kernel, rfl, by decide +kernel, by decide +kernel⟩
abbrev s_straight : Stmt := topS 54
abbrev n_straight : List Str := ["p"]
theorem sc_straight : FnScope n_straight ["p"] (C8.fnScope s_straight) := ⟨rfl, rfl, rfl, by decide +kernel, rfl, by decide +kernel, by decide +kernel⟩
abbrev s_bowed : Stmt := topS 55
abbrev n_bowed : List Str := ["number", "p", "turns", "c"]
theorem sc_bowed : FnScope n_bowed ["number", "p", "turns"] (C8.fnScope s_bowed) := ⟨rfl, rfl, rfl, by decide +kernel, rfl, by decide +kernel, by decide +kernel⟩
abbrev s_shaped : Stmt := topS 56
abbrev n_shaped : List Str := ["row", "word"]
theorem sc_shaped : FnScope n_shaped ["row"] (C8.fnScope s_shaped) := ⟨rfl, rfl, rfl, by decide +kernel, rfl, by decide +kernel, by decide +kernel⟩
abbrev s_moved_by : Stmt := topS 57
abbrev n_moved_by : List Str := ["row", "found", "once", "turn"]
theorem sc_moved_by : FnScope n_moved_by ["row"] (C8.fnScope s_moved_by) := ⟨rfl, rfl, rfl, by decide +kernel, rfl, by decide +kernel, by decide +kernel⟩
abbrev s_done_by : Stmt := topS 59
abbrev n_done_by : List Str := ["rows", "many", "row"]
theorem sc_done_by : FnScope n_done_by ["rows"] (C8.fnScope s_done_by) := ⟨rfl, rfl, rfl, by decide +kernel, rfl, by decide +kernel, by decide +kernel⟩
abbrev s_told_leg : Stmt := topS 61
abbrev n_told_leg : List Str := ["row", "place", "way"]
theorem sc_told_leg : FnScope n_told_leg ["row"] (C8.fnScope s_told_leg) := ⟨rfl, rfl, rfl, by decide +kernel, rfl, by decide +kernel, by decide +kernel⟩
abbrev s_led_leg : Stmt := topS 62
abbrev n_led_leg : List Str := ["frame", "leg"]
theorem sc_led_leg : FnScope n_led_leg ["frame", "leg"] (C8.fnScope s_led_leg) := ⟨rfl, rfl, rfl, by decide +kernel, rfl, by decide +kernel, by decide +kernel⟩
abbrev s_legs_from : Stmt := topS 63
abbrev n_legs_from : List Str := ["rows", "frame", "found", "row", "turn", "more", "leg"]
theorem sc_legs_from : FnScope n_legs_from ["rows", "frame"] (C8.fnScope s_legs_from) := ⟨rfl, rfl, rfl, by decide +kernel, rfl, by decide +kernel, by decide +kernel⟩
abbrev s_begin_of : Stmt := topS 64
abbrev n_begin_of : List Str := ["leg"]
theorem sc_begin_of : FnScope n_begin_of ["leg"] (C8.fnScope s_begin_of) := ⟨rfl, rfl, rfl, by decide +kernel, rfl, by decide +kernel, by decide +kernel⟩
abbrev s_end_of : Stmt := topS 65
abbrev n_end_of : List Str := ["leg"]
theorem sc_end_of : FnScope n_end_of ["leg"] (C8.fnScope s_end_of) := ⟨rfl, rfl, rfl, by decide +kernel, rfl, by decide +kernel, by decide +kernel⟩
abbrev s_closed : Stmt := topS 66
abbrev n_closed : List Str := ["stroke", "start", "last"]
theorem sc_closed : FnScope n_closed ["stroke"] (C8.fnScope s_closed) := ⟨rfl, rfl, rfl, by decide +kernel, rfl, by decide +kernel, by decide +kernel⟩
abbrev s_strokes : Stmt := topS 67
abbrev n_strokes : List Str := ["program", "found", "leg", "stroke"]
theorem sc_strokes : FnScope n_strokes ["program"] (C8.fnScope s_strokes) := ⟨rfl, rfl, rfl, by decide +kernel, rfl, by decide +kernel, by decide +kernel⟩
abbrev s_law_cell_at : Stmt := topS 69
abbrev n_law_cell_at : List Str := ["_law_script", "_law_k"]
theorem sc_law_cell_at : FnScope n_law_cell_at ["_law_script", "_law_k"] (C8.fnScope s_law_cell_at) := ⟨rfl, rfl, rfl, by decide +kernel, rfl, by decide +kernel, by decide +kernel⟩
abbrev s_law_row : Stmt := topS 70
abbrev n_law_row : List Str := ["_law_cell", "_law_many", "_law_found", "_law_number", "_law_k"]
theorem sc_law_row : FnScope n_law_row ["_law_cell", "_law_many"] (C8.fnScope s_law_row) := ⟨rfl, rfl, rfl, by decide +kernel, rfl, by decide +kernel, by decide +kernel⟩
abbrev s_law_ratio : Stmt := topS 71
abbrev n_law_ratio : List Str := ["_law_top", "_law_bottom", "_law_one", "_law_other"]
theorem sc_law_ratio : FnScope n_law_ratio ["_law_top", "_law_bottom"] (C8.fnScope s_law_ratio) := ⟨rfl, rfl, rfl, by decide +kernel, rfl, by decide +kernel, by decide +kernel⟩
abbrev s_law_plus : Stmt := topS 72
abbrev n_law_plus : List Str := ["_law_one", "_law_other"]
theorem sc_law_plus : FnScope n_law_plus ["_law_one", "_law_other"] (C8.fnScope s_law_plus) := ⟨rfl, rfl, rfl, by decide +kernel, rfl, by decide +kernel, by decide +kernel⟩
abbrev s_law_times : Stmt := topS 73
abbrev n_law_times : List Str := ["_law_one", "_law_other"]
theorem sc_law_times : FnScope n_law_times ["_law_one", "_law_other"] (C8.fnScope s_law_times) := ⟨rfl, rfl, rfl, by decide +kernel, rfl, by decide +kernel, by decide +kernel⟩
abbrev s_law_drawn : Stmt := topS 74
abbrev n_law_drawn : List Str := ["_law_one", "_law_other"]
theorem sc_law_drawn : FnScope n_law_drawn ["_law_one", "_law_other"] (C8.fnScope s_law_drawn) := ⟨rfl, rfl, rfl, by decide +kernel, rfl, by decide +kernel, by decide +kernel⟩
abbrev s_law_bow : Stmt := topS 75
abbrev n_law_bow : List Str := ["_law_row_here", "_law_x", "_law_y", "_law_p", "_law_q", "_law_u", "_law_v", "_law_back", "_law_right", "_law_up"]
theorem sc_law_bow : FnScope n_law_bow ["_law_row_here"] (C8.fnScope s_law_bow) := ⟨rfl, rfl, rfl, by decide +kernel, rfl, by decide +kernel, by decide +kernel⟩
abbrev s_law_plain : Stmt := topS 76
abbrev n_law_plain : List Str := ["_law_row_here", "_law_words", "_law_word", "_law_one"]
theorem sc_law_plain : FnScope n_law_plain ["_law_row_here"] (C8.fnScope s_law_plain) := ⟨rfl, rfl, rfl, by decide +kernel, rfl, by decide +kernel, by decide +kernel⟩
abbrev s_law_size : Stmt := topS 77
abbrev n_law_size : List Str := ["_law_rows", "_law_size_here", "_law_row_here", "_law_once", "_law_turn"]
theorem sc_law_size : FnScope n_law_size ["_law_rows"] (C8.fnScope s_law_size) := ⟨rfl, rfl, rfl, by decide +kernel, rfl, by decide +kernel, by decide +kernel⟩
abbrev s_law_draws : Stmt := topS 78
abbrev n_law_draws : List Str := ["_law_rows", "_law_many", "_law_row_here"]
theorem sc_law_draws : FnScope n_law_draws ["_law_rows"] (C8.fnScope s_law_draws) := ⟨rfl, rfl, rfl, by decide +kernel, rfl, by decide +kernel, by decide +kernel⟩
abbrev s_law_is_endless : Stmt := topS 79
abbrev n_law_is_endless : List Str := ["_law_rows", "_law_size_here"]
theorem sc_law_is_endless : FnScope n_law_is_endless ["_law_rows"] (C8.fnScope s_law_is_endless) := ⟨rfl, rfl, rfl, by decide +kernel, rfl, by decide +kernel, by decide +kernel⟩
abbrev s_law_done : Stmt := topS 80
abbrev n_law_done : List Str := ["_law_rows", "_law_many", "_law_row_here"]
theorem sc_law_done : FnScope n_law_done ["_law_rows"] (C8.fnScope s_law_done) := ⟨rfl, rfl, rfl, by decide +kernel, rfl, by decide +kernel, by decide +kernel⟩
abbrev s_law_close : Stmt := topS 81
abbrev n_law_close : List Str := ["_law_stack", "_law_word", "_law_many", "_law_rows", "_law_block"]
theorem sc_law_close : FnScope n_law_close ["_law_stack"] (C8.fnScope s_law_close) := ⟨rfl, rfl, rfl, by decide +kernel, rfl, by decide +kernel, by decide +kernel⟩
abbrev s_law_program : Stmt := topS 82
abbrev n_law_program : List Str := ["_law_cells", "_law_stack", "_law_cell", "_law_row_here", "_law_way", "_law_word", "_law_rows", "_law_block"]
theorem sc_law_program : FnScope n_law_program ["_law_cells"] (C8.fnScope s_law_program) := ⟨rfl, rfl, rfl, by decide +kernel, rfl, by decide +kernel, by decide +kernel⟩
abbrev s_law_minus : Stmt := topS 83
abbrev n_law_minus : List Str := ["_law_one", "_law_other"]
theorem sc_law_minus : FnScope n_law_minus ["_law_one", "_law_other"] (C8.fnScope s_law_minus) := ⟨rfl, rfl, rfl, by decide +kernel, rfl, by decide +kernel, by decide +kernel⟩
abbrev s_law_less : Stmt := topS 84
abbrev n_law_less : List Str := ["_law_one", "_law_other"]
theorem sc_law_less : FnScope n_law_less ["_law_one", "_law_other"] (C8.fnScope s_law_less) := ⟨rfl, rfl, rfl, by decide +kernel, rfl, by decide +kernel, by decide +kernel⟩
abbrev s_law_off : Stmt := topS 85
abbrev n_law_off : List Str := ["_law_p", "_law_q"]
theorem sc_law_off : FnScope n_law_off ["_law_p", "_law_q"] (C8.fnScope s_law_off) := ⟨rfl, rfl, rfl, by decide +kernel, rfl, by decide +kernel, by decide +kernel⟩
abbrev s_law_cross : Stmt := topS 86
abbrev n_law_cross : List Str := ["_law_p", "_law_q"]
theorem sc_law_cross : FnScope n_law_cross ["_law_p", "_law_q"] (C8.fnScope s_law_cross) := ⟨rfl, rfl, rfl, by decide +kernel, rfl, by decide +kernel, by decide +kernel⟩
abbrev s_law_dot : Stmt := topS 87
abbrev n_law_dot : List Str := ["_law_p", "_law_q"]
theorem sc_law_dot : FnScope n_law_dot ["_law_p", "_law_q"] (C8.fnScope s_law_dot) := ⟨rfl, rfl, rfl, by decide +kernel, rfl, by decide +kernel, by decide +kernel⟩
abbrev s_law_side : Stmt := topS 88
abbrev n_law_side : List Str := ["_law_a", "_law_b", "_law_p"]
theorem sc_law_side : FnScope n_law_side ["_law_a", "_law_b", "_law_p"] (C8.fnScope s_law_side) := ⟨rfl, rfl, rfl, by decide +kernel, rfl, by decide +kernel, by decide +kernel⟩
abbrev s_law_ends : Stmt := topS 91
abbrev n_law_ends : List Str := ["_law_leg"]
theorem sc_law_ends : FnScope n_law_ends ["_law_leg"] (C8.fnScope s_law_ends) := ⟨rfl, rfl, rfl, by decide +kernel, rfl, by decide +kernel, by decide +kernel⟩
abbrev s_law_some : Stmt := topS 92
abbrev n_law_some : List Str := ["_law_cells", "_law_most", "_law_rows"]
theorem sc_law_some : FnScope n_law_some ["_law_cells", "_law_most"] (C8.fnScope s_law_some) := ⟨rfl, rfl, rfl, by decide +kernel, rfl, by decide +kernel, by decide +kernel⟩
abbrev s_law_amid : Stmt := topS 93
abbrev n_law_amid : List Str := ["_law_p", "_law_q", "_law_half"]
theorem sc_law_amid : FnScope n_law_amid ["_law_p", "_law_q"] (C8.fnScope s_law_amid) := ⟨rfl, rfl, rfl, by decide +kernel, rfl, by decide +kernel, by decide +kernel⟩
abbrev s_law_points : Stmt := topS 94
abbrev n_law_points : List Str := ["_law_row_here", "_law_some_here", "_law_found", "_law_legs", "_law_one", "_law_k", "_law_leg", "_law_a", "_law_b", "_law_x", "_law_y"]
theorem sc_law_points : FnScope n_law_points ["_law_row_here", "_law_some_here"] (C8.fnScope s_law_points) := ⟨rfl, rfl, rfl, by decide +kernel, rfl, by decide +kernel, by decide +kernel⟩
abbrev s_law_is_between : Stmt := topS 95
abbrev n_law_is_between : List Str := ["_law_c", "_law_a", "_law_b", "_law_p", "_law_here", "_law_mark"]
theorem sc_law_is_between : FnScope n_law_is_between ["_law_c", "_law_a", "_law_b", "_law_p"] (C8.fnScope s_law_is_between) := ⟨rfl, rfl, rfl, by decide +kernel, rfl, by decide +kernel, by decide +kernel⟩
abbrev s_law_is_below : Stmt := topS 96
abbrev n_law_is_below : List Str := ["_law_c", "_law_a", "_law_b", "_law_p", "_law_mark"]
theorem sc_law_is_below : FnScope n_law_is_below ["_law_c", "_law_a", "_law_b", "_law_p"] (C8.fnScope s_law_is_below) := ⟨rfl, rfl, rfl, by decide +kernel, rfl, by decide +kernel, by decide +kernel⟩
abbrev s_law_out : Stmt := topS 97
abbrev n_law_out : List Str := ["_law_c", "_law_p", "_law_many", "_law_beside", "_law_part"]
theorem sc_law_out : FnScope n_law_out ["_law_c", "_law_p", "_law_many"] (C8.fnScope s_law_out) := ⟨rfl, rfl, rfl, by decide +kernel, rfl, by decide +kernel, by decide +kernel⟩
abbrev s_law_bent : Stmt := topS 98
abbrev n_law_bent : List Str := ["_law_some_here", "_law_cut_ones", "_law_found", "_law_legs", "_law_others", "_law_at", "_law_leg", "_law_row_here", "_law_a", "_law_b"]
theorem sc_law_bent : FnScope n_law_bent ["_law_some_here", "_law_cut_ones"] (C8.fnScope s_law_bent) := ⟨rfl, rfl, rfl, by decide +kernel, rfl, by decide +kernel, by decide +kernel⟩
abbrev s_law : Stmt := topS 99
abbrev n_law : List Str := ["_law_script", "_law_row_here", "_law_some_here", "_law_parts", "_law_cut_ones", "_law_bent_here", "_law_points_here", "_law_way", "_law_c", "_law_pairs", "_law_a", "_law_b", "_law_p", "_law_whole", "_law_level", "_law_many"]
theorem sc_law : FnScope n_law ["_law_script"] (C8.fnScope s_law) := ⟨rfl, rfl, rfl, by decide +kernel, rfl, by decide +kernel, by decide +kernel⟩
/-- what the top leaves -/
structure Tx (P : Program) (w : World) (K : PySem.W.Frag) (mg : Str → Option Value) (base : Heap) : Prop where
  seer : base.NoSeer
  tree : P.given.tree = none
  m_abs : mg "abs" = none
  m_range : mg "range" = none
  m_int : mg "int" = none
  m_len : mg "len" = none
  m_zip : mg "zip" = none
  m_tuple : mg "tuple" = none
  m_list : mg "list" = none
  m_reversed : mg "reversed" = none
  m_min : mg "min" = none
  d_divisor : HasDef K mg "divisor" s_divisor ["one", "other"]
  d_ratio : HasDef K mg "ratio" s_ratio ["top", "bottom"]
  d_plus : HasDef K mg "plus" s_plus ["one", "other"]
  d_minus : HasDef K mg "minus" s_minus ["one", "other"]
  d_times : HasDef K mg "times" s_times ["one", "other"]
  d_over : HasDef K mg "over" s_over ["one", "other"]
  d_below : HasDef K mg "below" s_below ["one", "other"]
  d_together : HasDef K mg "together" s_together ["p", "q"]
  d_off : HasDef K mg "off" s_off ["p", "q"]
  d_grown : HasDef K mg "grown" s_grown ["p", "number"]
  d_turned : HasDef K mg "turned" s_turned ["p", "quarters"]
  d_along : HasDef K mg "along" s_along ["p", "q"]
  d_across : HasDef K mg "across" s_across ["p", "q"]
  d_far : HasDef K mg "far" s_far ["p", "q"]
  d_sign_of : HasDef K mg "sign_of" s_sign_of ["number"]
  d_side : HasDef K mg "side" s_side ["a", "b", "p"]
  d_before : HasDef K mg "before" s_before ["p", "q"]
  d_stretch : HasDef K mg "stretch" s_stretch ["p", "q"]
  d_lies_on : HasDef K mg "lies_on" s_lies_on ["piece", "p"]
  d_arc : HasDef K mg "arc" s_arc ["c", "p", "q"]
  d_quarter_of : HasDef K mg "quarter_of" s_quarter_of ["one", "other"]
  d_ahead : HasDef K mg "ahead" s_ahead ["c", "a", "p", "q"]
  d_on : HasDef K mg "on" s_on ["piece", "p"]
  d_at_share : HasDef K mg "at_share" s_at_share ["c", "a", "t"]
  d_share_of : HasDef K mg "share_of" s_share_of ["c", "a", "p"]
  d_quarters : HasDef K mg "quarters" s_quarters ["piece"]
  d_piece_of : HasDef K mg "piece_of" s_piece_of ["leg"]
  d_passed : HasDef K mg "passed" s_passed ["a", "b", "point"]
  d_is_between : HasDef K mg "is_between" s_is_between ["c", "chord", "point"]
  d_counted : HasDef K mg "counted" s_counted ["leg", "point"]
  d_winding : HasDef K mg "winding" s_winding ["strokes", "point"]
  d_marks_of : HasDef K mg "marks_of" s_marks_of ["leg", "parts"]
  d_cut_leg : HasDef K mg "cut_leg" s_cut_leg ["leg", "parts"]
  d_cut_strokes : HasDef K mg "cut_strokes" s_cut_strokes ["strokes", "parts"]
  d_first : HasDef K mg "first" s_first []
  d_led : HasDef K mg "led" s_led ["frame", "p"]
  d_behind : HasDef K mg "behind" s_behind ["one", "other"]
  d_straight : HasDef K mg "straight" s_straight ["p"]
  d_bowed : HasDef K mg "bowed" s_bowed ["number", "p", "turns"]
  d_shaped : HasDef K mg "shaped" s_shaped ["row"]
  d_moved_by : HasDef K mg "moved_by" s_moved_by ["row"]
  d_done_by : HasDef K mg "done_by" s_done_by ["rows"]
  d_told_leg : HasDef K mg "told_leg" s_told_leg ["row"]
  d_led_leg : HasDef K mg "led_leg" s_led_leg ["frame", "leg"]
  d_legs_from : HasDef K mg "legs_from" s_legs_from ["rows", "frame"]
  d_begin_of : HasDef K mg "begin_of" s_begin_of ["leg"]
  d_end_of : HasDef K mg "end_of" s_end_of ["leg"]
  d_closed : HasDef K mg "closed" s_closed ["stroke"]
  d_strokes : HasDef K mg "strokes" s_strokes ["program"]
  d_law_cell_at : HasDef K mg "_law_cell_at" s_law_cell_at ["_law_script", "_law_k"]
  d_law_row : HasDef K mg "_law_row" s_law_row ["_law_cell", "_law_many"]
  d_law_ratio : HasDef K mg "_law_ratio" s_law_ratio ["_law_top", "_law_bottom"]
  d_law_plus : HasDef K mg "_law_plus" s_law_plus ["_law_one", "_law_other"]
  d_law_times : HasDef K mg "_law_times" s_law_times ["_law_one", "_law_other"]
  d_law_drawn : HasDef K mg "_law_drawn" s_law_drawn ["_law_one", "_law_other"]
  d_law_bow : HasDef K mg "_law_bow" s_law_bow ["_law_row_here"]
  d_law_plain : HasDef K mg "_law_plain" s_law_plain ["_law_row_here"]
  d_law_size : HasDef K mg "_law_size" s_law_size ["_law_rows"]
  d_law_draws : HasDef K mg "_law_draws" s_law_draws ["_law_rows"]
  d_law_is_endless : HasDef K mg "_law_is_endless" s_law_is_endless ["_law_rows"]
  d_law_done : HasDef K mg "_law_done" s_law_done ["_law_rows"]
  d_law_close : HasDef K mg "_law_close" s_law_close ["_law_stack"]
  d_law_program : HasDef K mg "_law_program" s_law_program ["_law_cells"]
  d_law_minus : HasDef K mg "_law_minus" s_law_minus ["_law_one", "_law_other"]
  d_law_less : HasDef K mg "_law_less" s_law_less ["_law_one", "_law_other"]
  d_law_off : HasDef K mg "_law_off" s_law_off ["_law_p", "_law_q"]
  d_law_cross : HasDef K mg "_law_cross" s_law_cross ["_law_p", "_law_q"]
  d_law_dot : HasDef K mg "_law_dot" s_law_dot ["_law_p", "_law_q"]
  d_law_side : HasDef K mg "_law_side" s_law_side ["_law_a", "_law_b", "_law_p"]
  d_law_ends : HasDef K mg "_law_ends" s_law_ends ["_law_leg"]
  d_law_some : HasDef K mg "_law_some" s_law_some ["_law_cells", "_law_most"]
  d_law_amid : HasDef K mg "_law_amid" s_law_amid ["_law_p", "_law_q"]
  d_law_points : HasDef K mg "_law_points" s_law_points ["_law_row_here", "_law_some_here"]
  d_law_is_between : HasDef K mg "_law_is_between" s_law_is_between ["_law_c", "_law_a", "_law_b", "_law_p"]
  d_law_is_below : HasDef K mg "_law_is_below" s_law_is_below ["_law_c", "_law_a", "_law_b", "_law_p"]
  d_law_out : HasDef K mg "_law_out" s_law_out ["_law_c", "_law_p", "_law_many"]
  d_law_bent : HasDef K mg "_law_bent" s_law_bent ["_law_some_here", "_law_cut_ones"]
  d_law : HasDef K mg "law" s_law ["_law_script"]
  d_stood : ∃ f fd, C8.Def K mg "stood" s_stood f fd ∧ Binds K fd ["place", "turns"] [] ∧ ∃ t, Binds K fd ["place", "turns"] [.int 0 t]
  c_nought : ∃ u v, mg "NOUGHT" = some u ∧ RelV v u ∧ ∀ H, Rp K H v (.tuple [.tuple [.int 0, .int 1], .tuple [.int 0, .int 1]])
  c_most : ∃ t, mg "MOST_DONE" = some (.int 300 t)
  c_turns : ∃ p, mg "TURNS" = some (.ref p) ∧ KDct K w p "left" (.int 1) ∧ KDct K w p "round" (.int 2) ∧ KDct K w p "right" (.int 3)
end Ar
set_option maxHeartbeats 4000000
/-! Plain: heights of fractions, divisions. -/
namespace Ar
/-- how many bits a number may have -/
def hn (n : Nat) : Nat := n.log2 + 1
theorem hn_lt (n : Nat) : n < 2 ^ hn n := Nat.lt_log2_self
theorem hn_le {n k : Nat} (h : n < 2 ^ k) (hk : 0 < k) : hn n ≤ k := by
  unfold hn
  by_cases z : n = 0
  · subst z
    rw [show Nat.log2 0 = 0 from by decide]
    omega
  · have := (Nat.log2_lt z).mpr h
    omega
theorem hn_pos (n : Nat) : 0 < hn n := Nat.succ_pos _
/-- a fraction's height -/
def ht (x : Rat) : Nat := hn (max x.num.natAbs x.den)
theorem ht_pos (x : Rat) : 0 < ht x := hn_pos _
theorem ht_num (x : Rat) : x.num.natAbs < 2 ^ ht x := Nat.lt_of_le_of_lt (Nat.le_max_left _ _) (hn_lt _)
theorem ht_den (x : Rat) : x.den < 2 ^ ht x := Nat.lt_of_le_of_lt (Nat.le_max_right _ _) (hn_lt _)
theorem ht_le {x : Rat} {k : Nat} (h1 : x.num.natAbs < 2 ^ k) (h2 : x.den < 2 ^ k) (hk : 0 < k) : ht x ≤ k := hn_le (Nat.max_lt.mpr ⟨h1, h2⟩) hk
theorem mul_lt_pow {a b m n : Nat} (h1 : a < 2 ^ m) (h2 : b < 2 ^ n) : a * b < 2 ^ (m + n) := by
  rw [Nat.pow_add]
  exact Nat.mul_lt_mul'' h1 h2
theorem imul_lt_pow {a b : Int} {m n : Nat} (h1 : a.natAbs < 2 ^ m) (h2 : b.natAbs < 2 ^ n) : (a * b).natAbs < 2 ^ (m + n) := by
  rw [Int.natAbs_mul]
  exact mul_lt_pow h1 h2
theorem iadd_lt_pow {a b : Int} {m : Nat} (h1 : a.natAbs < 2 ^ m) (h2 : b.natAbs < 2 ^ m) : (a + b).natAbs < 2 ^ (m + 1) := by
  have := Int.natAbs_add_le a b
  rw [Nat.pow_succ]
  omega
theorem isub_lt_pow {a b : Int} {m : Nat} (h1 : a.natAbs < 2 ^ m) (h2 : b.natAbs < 2 ^ m) : (a - b).natAbs < 2 ^ (m + 1) := by
  have : (a - b).natAbs ≤ a.natAbs + b.natAbs := by omega
  rw [Nat.pow_succ]
  omega
theorem num_mkRat_le (n : Int) (d : Nat) : (mkRat n d).num.natAbs ≤ n.natAbs := by
  rw [Rat.num_mkRat]
  split
  · simp
  · exact Int.natAbs_ediv_le_natAbs _ _
theorem den_mkRat_le {n : Int} {d : Nat} (h : 0 < d) : (mkRat n d).den ≤ d := by
  rw [Rat.den_mkRat]
  rw [if_neg (by omega)]
  exact Nat.div_le_self _ _
theorem ht_mkRat {n : Int} {d k : Nat} (h1 : n.natAbs < 2 ^ k) (h2 : d < 2 ^ k) (h0 : 0 < d) (hk : 0 < k) : ht (mkRat n d) ≤ k :=
  ht_le (Nat.lt_of_le_of_lt (num_mkRat_le n d) h1) (Nat.lt_of_le_of_lt (den_mkRat_le h0) h2) hk
theorem ht_add (x y : Rat) : ht (x + y) ≤ ht x + ht y + 1 := by
  rw [Rat.add_def']
  have h1 : (x.num * y.den).natAbs < 2 ^ (ht x + ht y) := imul_lt_pow (ht_num x) (by simpa using ht_den y)
  have h2 : (y.num * x.den).natAbs < 2 ^ (ht x + ht y) := by
    rw [Nat.add_comm]
    exact imul_lt_pow (ht_num y) (by simpa using ht_den x)
  refine ht_mkRat (iadd_lt_pow h1 h2) ?_ (Nat.mul_pos x.den_pos y.den_pos) (Nat.succ_pos _)
  exact Nat.lt_trans (mul_lt_pow (ht_den x) (ht_den y)) (Nat.pow_lt_pow_right (by decide) (Nat.lt_succ_self _))
theorem ht_sub (x y : Rat) : ht (x - y) ≤ ht x + ht y + 1 := by
  rw [Rat.sub_def']
  have h1 : (x.num * y.den).natAbs < 2 ^ (ht x + ht y) := imul_lt_pow (ht_num x) (by simpa using ht_den y)
  have h2 : (y.num * x.den).natAbs < 2 ^ (ht x + ht y) := by
    rw [Nat.add_comm]
    exact imul_lt_pow (ht_num y) (by simpa using ht_den x)
  refine ht_mkRat (isub_lt_pow h1 h2) ?_ (Nat.mul_pos x.den_pos y.den_pos) (Nat.succ_pos _)
  exact Nat.lt_trans (mul_lt_pow (ht_den x) (ht_den y)) (Nat.pow_lt_pow_right (by decide) (Nat.lt_succ_self _))
theorem ht_mul (x y : Rat) : ht (x * y) ≤ ht x + ht y := by
  rw [Rat.mul_def']
  exact ht_mkRat (imul_lt_pow (ht_num x) (ht_num y)) (mul_lt_pow (ht_den x) (ht_den y)) (Nat.mul_pos x.den_pos y.den_pos) (Nat.add_pos_left (ht_pos x) _)
theorem ht_neg (x : Rat) : ht (-x) = ht x := by
  unfold ht
  rw [Rat.neg_num, Rat.neg_den, Int.natAbs_neg]
theorem ht_inv (x : Rat) : ht x⁻¹ ≤ ht x := by
  refine ht_le ?_ ?_ (ht_pos x)
  · rw [Rat.num_inv, Int.natAbs_mul]
    have h1 : x.num.sign.natAbs ≤ 1 := by rw [Int.natAbs_sign]; split <;> omega
    have h2 : (x.den : Int).natAbs = x.den := Int.natAbs_natCast _
    rw [h2]
    refine Nat.lt_of_le_of_lt (Nat.mul_le_mul_right _ h1) ?_
    rw [Nat.one_mul]
    exact ht_den x
  · rw [Rat.den_inv]
    split
    · exact Nat.one_lt_two_pow (Nat.pos_iff_ne_zero.mp (ht_pos x))
    · exact ht_num x
theorem ht_div (x y : Rat) : ht (x / y) ≤ ht x + ht y := by
  rw [Rat.div_def]
  exact Nat.le_trans (ht_mul _ _) (Nat.add_le_add_left (ht_inv y) _)
theorem ht_int {n : Int} {k : Nat} (h : n.natAbs < 2 ^ k) (hk : 0 < k) : ht (n : Rat) ≤ k := ht_le (by simpa using h) (by simpa using Nat.one_lt_two_pow (Nat.pos_iff_ne_zero.mp hk)) hk
/-- what // by the divisor makes -/
theorem ratio_num {t b : Int} (hb : b ≠ 0) : t.fdiv (if b < 0 then 0 - (Int.gcd t b : Int) else (Int.gcd t b : Int)) = (Rat.divInt t b).num := by
  rw [Rat.num_divInt, Int.gcd_comm b t]
  have hd : (Int.gcd t b : Int) ∣ t := Int.gcd_dvd_left ..
  split
  · rename_i h
    rw [Int.zero_sub, Int.fdiv_eq_ediv_of_dvd (Int.neg_dvd.mpr hd), Int.sign_eq_neg_one_of_neg h, Int.ediv_neg, Int.neg_mul, Int.one_mul, Int.neg_ediv_of_dvd hd]
  · rename_i h
    rw [Int.fdiv_eq_ediv_of_dvd hd, Int.sign_eq_one_of_pos (by omega), Int.one_mul]
theorem ratio_den {t b : Int} (hb : b ≠ 0) : b.fdiv (if b < 0 then 0 - (Int.gcd t b : Int) else (Int.gcd t b : Int)) = ((Rat.divInt t b).den : Int) := by
  rw [Rat.den_divInt, Int.gcd_comm b t, if_neg hb]
  have hd : (Int.gcd t b : Int) ∣ b := Int.gcd_dvd_right ..
  split
  · rename_i h
    rw [Int.zero_sub, Int.fdiv_eq_ediv_of_dvd (Int.neg_dvd.mpr hd), Int.ediv_neg, Int.natCast_ediv, Int.ofNat_natAbs_of_nonpos (by omega), Int.neg_ediv_of_dvd hd]
  · rename_i h
    rw [Int.fdiv_eq_ediv_of_dvd hd, Int.natCast_ediv, Int.natAbs_of_nonneg (by omega)]
theorem gcd_ne {t b : Int} (hb : b ≠ 0) : (Int.gcd t b : Int) ≠ 0 := by
  have : Int.gcd t b ≠ 0 := fun h => hb (Int.gcd_eq_zero_iff.mp h).2
  omega
theorem gcd_step (a b : Int) (m n : Nat) (h : Int.gcd m n = Int.gcd a b) : Int.gcd n ((m % n : Nat) : Int) = Int.gcd a b := by
  rw [← h, Int.gcd_natCast_natCast, Int.gcd_natCast_natCast, Nat.gcd_comm m n, Nat.gcd_rec n m, Nat.gcd_comm]
/-- the fractions of the program -/
theorem q_add (x y : Rat) : Rat.divInt (x.num * y.den + y.num * x.den) ((x.den : Int) * y.den) = x + y := by
  rw [Rat.add_def', ← Rat.divInt_ofNat, Int.natCast_mul]
theorem q_sub (x y : Rat) : Rat.divInt (x.num * y.den - y.num * x.den) ((x.den : Int) * y.den) = x - y := by
  rw [Rat.sub_def', ← Rat.divInt_ofNat, Int.natCast_mul]
theorem q_mul (x y : Rat) : Rat.divInt (x.num * y.num) ((x.den : Int) * y.den) = x * y := by
  rw [Rat.mul_def', ← Rat.divInt_ofNat, Int.natCast_mul]
theorem q_div (x y : Rat) : Rat.divInt (x.num * y.den) ((x.den : Int) * y.num) = x / y := by
  rw [Rat.div_def, Rat.inv_def]
  conv => rhs; rw [← Rat.num_divInt_den x]
  rw [Rat.divInt_mul_divInt]
theorem den_ne (x : Rat) : (x.den : Int) ≠ 0 := by
  have := x.den_pos
  omega
theorem q_lt (x y : Rat) : decide (x.num * y.den < y.num * x.den) = decide (x < y) := decide_eq_decide.mpr (Rat.lt_iff x y).symm
theorem sg (x : Rat) : (if decide ((0 : Int) < x.num) = true then (1 : Int) else 0) - (if decide (x.num < 0) = true then 1 else 0) = x.num.sign := by
  rcases Int.lt_trichotomy x.num 0 with h | h | h
  · rw [Int.sign_eq_neg_one_of_neg h]; simp [h]; omega
  · rw [h]; rfl
  · rw [Int.sign_eq_one_of_pos h]; simp [h]; omega
end Ar
set_option maxHeartbeats 4000000
/-! Plain: points, pieces, legs over Rat. -/
namespace Ar
abbrev Pt := Rat × Rat
def hp (p : Pt) : Nat := ht p.1 + ht p.2
def gTog (p q : Pt) : Pt := (p.1 + q.1, p.2 + q.2)
def gOff (p q : Pt) : Pt := (p.1 - q.1, p.2 - q.2)
def gGrow (p : Pt) (k : Rat) : Pt := (p.1 * k, p.2 * k)
def gAlong (p q : Pt) : Rat := p.1 * q.1 + p.2 * q.2
def gAcross (p q : Pt) : Rat := p.1 * q.2 - p.2 * q.1
def gFar (p q : Pt) : Rat := gAlong (gOff p q) (gOff p q)
def gSgn (x : Rat) : Int := x.num.sign
def gSide (a b p : Pt) : Int := gSgn (gAcross (gOff b a) (gOff p a))
def gBef (p q : Pt) : Bool := decide (p.1 < q.1) || (decide (p.1 = q.1) && decide (p.2 < q.2))
theorem hp_tog (p q : Pt) : hp (gTog p q) ≤ hp p + hp q + 2 := by
  unfold hp gTog
  have := ht_add p.1 q.1
  have := ht_add p.2 q.2
  simp only
  omega
theorem hp_off (p q : Pt) : hp (gOff p q) ≤ hp p + hp q + 2 := by
  unfold hp gOff
  have := ht_sub p.1 q.1
  have := ht_sub p.2 q.2
  simp only
  omega
theorem hp_grow (p : Pt) (k : Rat) : hp (gGrow p k) ≤ hp p + 2 * ht k := by
  unfold hp gGrow
  have := ht_mul p.1 k
  have := ht_mul p.2 k
  simp only
  omega
theorem ht_along (p q : Pt) : ht (gAlong p q) ≤ hp p + hp q + 1 := by
  unfold hp gAlong
  have := ht_mul p.1 q.1
  have := ht_mul p.2 q.2
  have := ht_add (p.1 * q.1) (p.2 * q.2)
  omega
theorem ht_across (p q : Pt) : ht (gAcross p q) ≤ hp p + hp q + 1 := by
  unfold hp gAcross
  have := ht_mul p.1 q.2
  have := ht_mul p.2 q.1
  have := ht_sub (p.1 * q.2) (p.2 * q.1)
  omega
theorem ht_far (p q : Pt) : ht (gFar p q) ≤ 2 * hp p + 2 * hp q + 5 := by
  unfold gFar
  have := ht_along (gOff p q) (gOff p q)
  have := hp_off p q
  omega
theorem ht_1 (p : Pt) : ht p.1 ≤ hp p := Nat.le_add_right _ _
theorem ht_2 (p : Pt) : ht p.2 ≤ hp p := Nat.le_add_left _ _
theorem hp_mk (x y : Rat) : hp (x, y) = ht x + ht y := rfl
theorem sgn_pos {x : Rat} : 0 < gSgn x ↔ 0 < x := by
  unfold gSgn
  rw [Int.sign_pos_iff]
  have h := Rat.lt_iff 0 x
  simp at h
  exact h.symm
theorem sgn_neg {x : Rat} : gSgn x < 0 ↔ x < 0 := by
  unfold gSgn
  rw [Int.sign_neg_iff]
  have h := Rat.lt_iff x 0
  simp at h
  exact h.symm
theorem sgn_zero {x : Rat} : gSgn x = 0 ↔ x = 0 := by
  unfold gSgn
  rw [Int.sign_eq_zero_iff_zero]
  exact Rat.num_eq_zero
theorem sgn_le (x : Rat) : gSgn x = 1 ∨ gSgn x = 0 ∨ gSgn x = -1 := by
  unfold gSgn
  rcases Int.lt_trichotomy x.num 0 with h | h | h
  · exact Or.inr (Or.inr (Int.sign_eq_neg_one_of_neg h))
  · rw [h]; exact Or.inr (Or.inl rfl)
  · exact Or.inl (Int.sign_eq_one_of_pos h)
inductive Piece where
  | dot (p : Pt) | str (p q : Pt) | arc (c p q : Pt) | ring (c p : Pt)
inductive Leg where
  | str (p q : Pt) | bend (c p q : Pt) (way : Int)
end Ar
set_option maxHeartbeats 4000000
/-! Plain: pieces, arcs, legs: what the program's defs answer. -/
namespace Ar
def gStretch (p q : Pt) : Piece := if p = q then .dot p else if gBef q p = true then .str q p else .str p q
def gLies : Piece → Pt → Bool
  | .dot a, p => decide (p = a)
  | .str a b, p => decide (gSide a b p = 0) && (!gBef p a && !gBef b p)
  | _, _ => false
def gArc (c p q : Pt) : Piece := if p = q then .ring c p else .arc c p q
def gQuart (o w : Pt) : Int := if (decide (0 < gSgn (gAlong o w)) && decide (0 ≤ gSgn (gAcross o w))) = true then 0 else if 0 < gSgn (gAcross o w) then 1 else if gSgn (gAlong o w) < 0 then 2 else 3
def gAhead (c a p q : Pt) : Bool :=
  if gQuart (gOff a c) (gOff p c) = gQuart (gOff a c) (gOff q c) then decide (0 < (gAcross (gOff p c) (gOff q c)).num) else decide (gQuart (gOff a c) (gOff p c) < gQuart (gOff a c) (gOff q c))
def gOn : Piece → Pt → Bool
  | .dot a, p => gLies (.dot a) p
  | .str a b, p => gLies (.str a b) p
  | .ring c a, p => decide (gFar c p = gFar c a)
  | .arc c a b, p => decide (gFar c p = gFar c a) && (decide (p = a) || (decide (p = b) || gAhead c a p b))
/-- the rotation by the fraction t -/
def gU (t : Rat) : Rat := (1 - t * t) / (1 + t * t)
def gV (t : Rat) : Rat := (t + t) / (1 + t * t)
def gAt (c a : Pt) (t : Rat) : Pt := gTog c (gU t * (gOff a c).1 - gV t * (gOff a c).2, gV t * (gOff a c).1 + gU t * (gOff a c).2)
def gWhole (c a p : Pt) : Rat := gAlong (gOff a c) (gOff a c) + gAlong (gOff a c) (gOff p c)
def gShare (c a p : Pt) : Rat := gAcross (gOff a c) (gOff p c) / gWhole c a p
theorem sq_nn (t : Rat) : 0 ≤ t * t := by
  rcases Rat.le_total (a := t) (b := 0) with h | h
  · have := Rat.mul_nonneg (a := -t) (b := -t) (by grind) (by grind)
    grind
  · exact Rat.mul_nonneg h h
theorem one_sq_ne (t : Rat) : 1 + t * t ≠ 0 := by
  have := sq_nn t
  grind
theorem ht_one : ht 1 ≤ 1 := by decide
theorem ht_zero : ht 0 ≤ 1 := by decide
theorem ht_U (t : Rat) : ht (gU t) ≤ 4 * ht t + 4 := by
  unfold gU
  have := ht_div (1 - t * t) (1 + t * t)
  have := ht_sub 1 (t * t)
  have := ht_add 1 (t * t)
  have := ht_mul t t
  have := ht_one
  omega
theorem ht_V (t : Rat) : ht (gV t) ≤ 4 * ht t + 3 := by
  unfold gV
  have := ht_div (t + t) (1 + t * t)
  have := ht_add t t
  have := ht_add 1 (t * t)
  have := ht_mul t t
  have := ht_one
  omega
theorem hp_at (c a : Pt) (t : Rat) : hp (gAt c a t) ≤ 3 * hp c + 2 * hp a + 16 * ht t + 24 := by
  unfold gAt
  have h0 := hp_off a c
  have h1 := ht_U t
  have h2 := ht_V t
  have e := hp_tog c (gU t * (gOff a c).1 - gV t * (gOff a c).2, gV t * (gOff a c).1 + gU t * (gOff a c).2)
  have e2 := hp_mk (gU t * (gOff a c).1 - gV t * (gOff a c).2) (gV t * (gOff a c).1 + gU t * (gOff a c).2)
  have a1 := ht_mul (gU t) (gOff a c).1
  have a2 := ht_mul (gV t) (gOff a c).2
  have a3 := ht_mul (gV t) (gOff a c).1
  have a4 := ht_mul (gU t) (gOff a c).2
  have b1 := ht_sub (gU t * (gOff a c).1) (gV t * (gOff a c).2)
  have b2 := ht_add (gV t * (gOff a c).1) (gU t * (gOff a c).2)
  have c0 : hp (gOff a c) = ht (gOff a c).1 + ht (gOff a c).2 := rfl
  omega
theorem ht_whole (c a p : Pt) : ht (gWhole c a p) ≤ 3 * hp a + 4 * hp c + hp p + 11 := by
  unfold gWhole
  have := ht_add (gAlong (gOff a c) (gOff a c)) (gAlong (gOff a c) (gOff p c))
  have := ht_along (gOff a c) (gOff a c)
  have := ht_along (gOff a c) (gOff p c)
  have := hp_off a c
  have := hp_off p c
  omega
theorem ht_share (c a p : Pt) : ht (gShare c a p) ≤ 4 * hp a + 6 * hp c + 2 * hp p + 16 := by
  unfold gShare
  have := ht_div (gAcross (gOff a c) (gOff p c)) (gWhole c a p)
  have := ht_across (gOff a c) (gOff p c)
  have := ht_whole c a p
  have := hp_off a c
  have := hp_off p c
  omega
/-- the piece of a leg -/
def gPiece : Leg → Piece
  | .str p q => gStretch p q
  | .bend c p q way => if 0 < way then gArc c p q else gArc c q p
def gBegin : Leg → Pt
  | .str p _ => p
  | .bend _ p _ _ => p
def gEnd : Leg → Pt
  | .str _ q => q
  | .bend _ _ q _ => q
/-- a leg as the program makes it: of a bend both ends as far from the centre, which is neither -/
def LegOk : Leg → Prop
  | .str _ _ => True
  | .bend c p q way => gFar c p = gFar c q ∧ c ≠ p ∧ c ≠ q ∧ (way = 1 ∨ way = -1)
def hl : Leg → Nat
  | .str p q => hp p + hp q
  | .bend c p q _ => hp c + hp p + hp q
def liesPre : Piece → Pt → Prop
  | .dot a, p => hp a + hp p ≤ 10000000
  | .str a b, p => hp a + hp b + hp p ≤ 10000000
  | _, _ => False
def onPre : Piece → Pt → Prop
  | .dot a, p => hp a + hp p ≤ 10000000
  | .str a b, p => hp a + hp b + hp p ≤ 10000000
  | .arc c a b, p => hp c + hp a + hp b + hp p ≤ 8000000
  | .ring c a, p => hp c + hp a + hp p ≤ 8000000
def pcPre : Leg → Prop
  | .str a b => hp a + hp b ≤ 9000000
  | .bend c a b _ => hp c + hp a + hp b ≤ 1000000
/-- how large a leg may be beside a point -/
def legB : Leg → Pt → Prop
  | .str a b, p => hp a + hp b + hp p ≤ 9000000
  | .bend c a b _, p => hp c + hp a + hp b ≤ 100000 ∧ hp p ≤ 6000000
theorem legB_pc {l : Leg} {p : Pt} (h : legB l p) : pcPre l := by
  cases l with
  | str a b => have h : hp a + hp b + hp p ≤ 9000000 := h; show hp a + hp b ≤ 9000000; omega
  | bend c a b w => have h : hp c + hp a + hp b ≤ 100000 ∧ hp p ≤ 6000000 := h; show hp c + hp a + hp b ≤ 1000000; omega
theorem legB_on {l : Leg} {p : Pt} (h : legB l p) : onPre (gPiece l) p := by
  cases l with
  | str a b =>
    have h : hp a + hp b + hp p ≤ 9000000 := h
    show onPre (gStretch a b) p
    unfold gStretch
    split
    · show hp a + hp p ≤ 10000000; omega
    · split
      · show hp b + hp a + hp p ≤ 10000000; omega
      · show hp a + hp b + hp p ≤ 10000000; omega
  | bend c a b w =>
    have h : hp c + hp a + hp b ≤ 100000 ∧ hp p ≤ 6000000 := h
    show onPre (if 0 < w then gArc c a b else gArc c b a) p
    unfold gArc
    split
    · split
      · show hp c + hp a + hp p ≤ 8000000; omega
      · show hp c + hp a + hp b + hp p ≤ 8000000; omega
    · split
      · show hp c + hp b + hp p ≤ 8000000; omega
      · show hp c + hp b + hp a + hp p ≤ 8000000; omega
def gPassed (a b p : Pt) : Int :=
  if (decide (p.2 < b.2) && (!decide (p.2 < a.2) && decide (0 < gSide a b p))) = true then 1
  else if (decide (p.2 < a.2) && (!decide (p.2 < b.2) && decide (gSide a b p < 0))) = true then -1 else 0
def gBetween (c a b p : Pt) : Bool :=
  if decide (gFar c p < gFar c a) = true then
    (if gSide a b p = 0 then (if gSgn (b.2 - a.2) = 0 then decide (b.1 < a.1) else decide (0 < gSgn (b.2 - a.2))) else decide (gSide a b p < 0))
  else false
end Ar
set_option maxHeartbeats 4000000
/-! Plain: quarters, marks, cuts, windings. -/
namespace Ar
def gTurn (p : Pt) : Nat → Pt
  | 0 => p
  | n + 1 => (-(gTurn p n).2, (gTurn p n).1)
theorem hp_turn (p : Pt) : ∀ n, hp (gTurn p n) = hp p
  | 0 => rfl
  | n + 1 => by
    have e := hp_turn p n
    show hp (-(gTurn p n).2, (gTurn p n).1) = hp p
    rw [hp_mk, ht_neg, ← e]
    exact Nat.add_comm _ _
/-- the quarter points that stand on the way -/
def gCand (c a : Pt) (k : Nat) : Pt := gTog c (gTurn (gOff a c) k)
def gQs (c a : Pt) (f : Pt → Bool) : List Pt := ([1, 2, 3].map (gCand c a)).filter f
def gQuarters : Piece → List Pt
  | .arc c a b => (a :: gQs c a fun p => gAhead c a p b) ++ [b]
  | .ring c a => (a :: gQs c a fun _ => true) ++ [a]
  | _ => []
theorem hp_cand (c a : Pt) (k : Nat) : hp (gCand c a k) ≤ 2 * hp c + hp a + 4 := by
  unfold gCand
  have := hp_tog c (gTurn (gOff a c) k)
  have := hp_turn (gOff a c) k
  have := hp_off a c
  omega
theorem mem_qs {c a p : Pt} {f : Pt → Bool} (h : p ∈ gQs c a f) : ∃ k, (k = 1 ∨ k = 2 ∨ k = 3) ∧ p = gCand c a k ∧ f p = true := by
  unfold gQs at h
  rw [List.mem_filter, List.mem_map] at h
  obtain ⟨⟨k, hk, e⟩, hf⟩ := h
  refine ⟨k, ?_, e.symm, hf⟩
  simpa using hk
theorem qs_len (c a : Pt) (f : Pt → Bool) : (gQs c a f).length ≤ 3 := by
  unfold gQs
  exact Nat.le_trans (List.length_filter_le _ _) (by simp)
/-- neighbours in a list -/
def prs {α : Type} : List α → List (α × α)
  | x :: y :: r => (x, y) :: prs (y :: r)
  | _ => []
theorem prs_zip {α : Type} : ∀ l : List α, prs l = l.zip l.tail
  | [] => rfl
  | [_] => rfl
  | x :: y :: r => by
    show (x, y) :: prs (y :: r) = _
    rw [prs_zip (y :: r)]
    rfl
theorem prs_len {α : Type} : ∀ l : List α, (prs l).length = l.length - 1
  | [] => rfl
  | [_] => rfl
  | x :: y :: r => by
    show (prs (y :: r)).length + 1 = _
    rw [prs_len (y :: r)]
    rfl
theorem prs_mem {α : Type} {a b : α} : ∀ {l : List α}, (a, b) ∈ prs l → a ∈ l ∧ b ∈ l
  | x :: y :: r, h => by
    rcases List.mem_cons.mp h with h | h
    · cases h
      exact ⟨List.mem_cons_self, List.mem_cons_of_mem _ List.mem_cons_self⟩
    · have := prs_mem h
      exact ⟨List.mem_cons_of_mem _ this.1, List.mem_cons_of_mem _ this.2⟩
theorem prs_get {α : Type} : ∀ {l : List α} {i : Nat} {x y : α}, l[i]? = some x → l[i + 1]? = some y → (prs l)[i]? = some (x, y)
  | [], _, _, _, h, _ => by simp at h
  | [_], 0, _, _, _, h => by simp at h
  | [_], i + 1, _, _, h, _ => by simp at h
  | a :: b :: r, 0, x, y, h, h2 => by
    have e1 : a = x := Option.some.inj h
    have e2 : b = y := Option.some.inj h2
    rw [← e1, ← e2]
    rfl
  | a :: b :: r, i + 1, x, y, h, h2 => prs_get (l := b :: r) (i := i) h h2
theorem prs_get' {α : Type} {l : List α} {i : Nat} {z : α × α} (h : (prs l)[i]? = some z) : l[i]? = some z.1 ∧ l[i + 1]? = some z.2 := by
  have hi : i < (prs l).length := (List.getElem?_eq_some_iff.mp h).1
  rw [prs_len] at hi
  have h1 : l[i]? = some l[i] := List.getElem?_eq_getElem (by omega)
  have h2 : l[i + 1]? = some l[i + 1] := List.getElem?_eq_getElem (by omega)
  have := prs_get h1 h2
  rw [h] at this
  have e := Option.some.inj this
  rw [e]
  exact ⟨h1, h2⟩
/-- the cut of a quarter, without its first point -/
def gCut1 (c a b : Pt) (n : Nat) : List Pt := ((List.range (n - 1)).map fun k : Nat => gAt c a (gShare c a b * Rat.divInt ((k : Int) + 1) (n : Int))) ++ [b]
def gMarks (l : Leg) (n : Nat) : List Pt :=
  match l with
  | .str _ _ => []
  | .bend c _ _ _ => (gQuarters (gPiece l)).take 1 ++ (prs (gQuarters (gPiece l))).flatMap fun z => gCut1 c z.1 z.2 n
def gCutLeg (l : Leg) (n : Nat) : List Leg :=
  match l with
  | .str p q => [.str p q]
  | .bend c p q way => (prs (if way < 0 then (gMarks (.bend c p q way) n).reverse else gMarks (.bend c p q way) n)).map fun z => .str z.1 z.2
def gCutAll (ls : List (List Leg)) (n : Nat) : List (List Leg) := ls.map fun s => s.flatMap fun l => gCutLeg l n
def gCounted (l : Leg) (p : Pt) : Int :=
  match l with
  | .str a b => gPassed a b p
  | .bend c _ _ way => way * ((prs (gQuarters (gPiece l))).map fun z => gPassed z.1 z.2 p + (if gBetween c z.1 z.2 p = true then 1 else 0)).sum
/-- none where the point is on a leg -/
def gWind (ls : List Leg) (p : Pt) : Option Int := if ls.any (fun l => gOn (gPiece l) p) = true then none else some ((ls.map fun l => gCounted l p).sum)
end Ar
set_option maxHeartbeats 4000000
/-! Plain: bounds of marks, counts. -/
namespace Ar
theorem qs_hp {x : Piece} {p : Pt} (h : p ∈ gQuarters x) : match x with | .arc c a b => hp p ≤ 2 * hp c + hp a + hp b + 4 | .ring c a => hp p ≤ 2 * hp c + hp a + 4 | _ => False := by
  cases x with
  | dot _ => exact absurd h List.not_mem_nil
  | str _ _ => exact absurd h List.not_mem_nil
  | arc c a b =>
    show hp p ≤ 2 * hp c + hp a + hp b + 4
    have h : p ∈ (a :: gQs c a fun p => gAhead c a p b) ++ [b] := h
    rcases List.mem_append.mp h with h | h
    · rcases List.mem_cons.mp h with h | h
      · rw [h]; omega
      · obtain ⟨k, _, e, _⟩ := mem_qs h
        rw [e]
        have := hp_cand c a k
        omega
    · rw [List.mem_singleton.mp h]; omega
  | ring c a =>
    show hp p ≤ 2 * hp c + hp a + 4
    have h : p ∈ (a :: gQs c a fun _ => true) ++ [a] := h
    rcases List.mem_append.mp h with h | h
    · rcases List.mem_cons.mp h with h | h
      · rw [h]; omega
      · obtain ⟨k, _, e, _⟩ := mem_qs h
        rw [e]
        exact hp_cand c a k
    · rw [List.mem_singleton.mp h]; omega
theorem qs_bend {c a b : Pt} {way : Int} {p : Pt} (h : p ∈ gQuarters (gPiece (.bend c a b way))) : hp p ≤ 2 * hp c + hp a + hp b + 4 := by
  have h : p ∈ gQuarters (if 0 < way then gArc c a b else gArc c b a) := h
  unfold gArc at h
  split at h
  · split at h
    · have := qs_hp h; simp only at this; omega
    · exact qs_hp h
  · split at h
    · have := qs_hp h; simp only at this; omega
    · have := qs_hp h; simp only at this; omega
theorem round_bend (c a b : Pt) (way : Int) : (∃ p, gPiece (.bend c a b way) = .ring c p) ∨ ∃ p q, gPiece (.bend c a b way) = .arc c p q := by
  show (∃ p, (if 0 < way then gArc c a b else gArc c b a) = .ring c p) ∨ ∃ p q, (if 0 < way then gArc c a b else gArc c b a) = .arc c p q
  unfold gArc
  split
  · split
    · exact Or.inl ⟨_, rfl⟩
    · exact Or.inr ⟨_, _, rfl⟩
  · split
    · exact Or.inl ⟨_, rfl⟩
    · exact Or.inr ⟨_, _, rfl⟩
theorem quarters_len (x : Piece) : (gQuarters x).length ≤ 5 := by
  cases x with
  | dot _ => exact Nat.zero_le _
  | str _ _ => exact Nat.zero_le _
  | arc c a b =>
    have := qs_len c a fun p => gAhead c a p b
    show ((a :: gQs c a fun p => gAhead c a p b) ++ [b]).length ≤ 5
    rw [List.length_append, List.length_cons, List.length_singleton]
    omega
  | ring c a =>
    have := qs_len c a fun _ => true
    show ((a :: gQs c a fun _ => true) ++ [a]).length ≤ 5
    rw [List.length_append, List.length_cons, List.length_singleton]
    omega
theorem quarters_ne {c a b : Pt} {way : Int} : ∃ p r, gQuarters (gPiece (.bend c a b way)) = p :: r := by
  rcases round_bend c a b way with ⟨p, e⟩ | ⟨p, q, e⟩ <;> (rw [e]; exact ⟨_, _, rfl⟩)
theorem zip_at {α β : Type} {f : α → β} {l : List α} {i : Nat} {x y : β} (hx : ((l.map f).dropLast)[i]? = some x) (hy : ((l.map f).tail)[i]? = some y) : ∃ a b, (prs l)[i]? = some (a, b) ∧ x = f a ∧ y = f b := by
  rw [List.getElem?_dropLast] at hx
  rw [List.getElem?_tail] at hy
  split at hx
  · rw [List.getElem?_map] at hx hy
    obtain ⟨a, h1, e1⟩ := Option.map_eq_some_iff.mp hx
    obtain ⟨b, h2, e2⟩ := Option.map_eq_some_iff.mp hy
    exact ⟨a, b, prs_get h1 h2, e1.symm, e2.symm⟩
  · cases hx
theorem zip_len {α β : Type} (f : α → β) (l : List α) : min ((l.map f).dropLast).length ((l.map f).tail).length = (prs l).length := by
  rw [prs_len, List.length_dropLast, List.length_tail, List.length_map]
  omega
theorem sum_take1 {l : List Int} {i : Nat} {z : Int} (h : l[i]? = some z) : (l.take (i + 1)).sum = (l.take i).sum + z := by
  rw [List.take_add_one, h, List.sum_append]
  simp
theorem sum_bound {α : Type} (f : α → Int) (k : Nat) (hf : ∀ a, (f a).natAbs ≤ k) : ∀ l : List α, ((l.map f).sum).natAbs ≤ k * l.length
  | [] => by simp
  | a :: r => by
    have h1 := sum_bound f k hf r
    have h2 := hf a
    rw [List.map_cons, List.sum_cons, List.length_cons, Nat.mul_succ]
    omega
theorem passed_abs (a b p : Pt) : (gPassed a b p).natAbs ≤ 1 := by
  unfold gPassed
  split
  · decide
  · split <;> decide
end Ar
set_option maxHeartbeats 4000000
/-! Plain: rows, frames, legs, strokes. -/
namespace Ar
inductive Row where
  | go (x : Rat) | skip (x : Rat) | side (x y : Rat) | dot | turn (k : Nat) | mirror | grow (k : Rat) | quarter (x : Rat) | half (x : Rat) | arc (cx cy px py : Rat)
  | again (n : Nat) (rs : List Row) | keep (rs : List Row) | ever (rs : List Row)
structure Fr where
  place : Pt
  turns : Int
  hand : Int
  size : Rat
def gAbs (x : Rat) : Rat := if x < 0 then -x else x
theorem ht_abs (x : Rat) : ht (gAbs x) = ht x := by
  unfold gAbs
  split
  · exact ht_neg x
  · rfl
def gFlip (h : Int) (p : Pt) : Pt := (p.1, if h = 1 then p.2 else -p.2)
theorem hp_flip (h : Int) (p : Pt) : hp (gFlip h p) = hp p := by
  unfold gFlip
  rw [hp_mk]
  split
  · rfl
  · rw [ht_neg]; rfl
def gLed (f : Fr) (p : Pt) : Pt := gTog (gGrow (gTurn (gFlip f.hand p) (f.turns % 4).toNat) f.size) f.place
def gBehind (f g : Fr) : Fr := ⟨gLed f g.place, (f.turns + f.hand * g.turns) % 4, f.hand * g.hand, f.size * g.size⟩
def fr0 : Fr := ⟨(0, 0), 0, 1, 1⟩
def frAt (p : Pt) (k : Int) : Fr := ⟨p, k, 1, 1⟩
def gFr : Row → Fr
  | .go x => frAt (x, 0) 0
  | .skip x => frAt (x, 0) 0
  | .side x y => frAt (x, y) 0
  | .turn k => frAt (0, 0) k
  | .mirror => ⟨(0, 0), 0, -1, 1⟩
  | .grow k => ⟨(0, 0), 0, 1, k⟩
  | .quarter x => frAt (gAbs x, x) (if 0 < x then 1 else 3)
  | .half x => frAt (0, x + x) 2
  | .arc _ _ px py => frAt (px, py) 0
  | _ => fr0
def gTold : Row → Option Leg
  | .go x => if ((x, 0) : Pt) = (0, 0) then none else some (.str (0, 0) (x, 0))
  | .side x y => if ((x, y) : Pt) = (0, 0) then none else some (.str (0, 0) (x, y))
  | .quarter x => some (.bend (0, x) (0, 0) (gAbs x, x) (if x < 0 then -1 else 1))
  | .half x => some (.bend (0, x) (0, 0) (0, x + x) (if x < 0 then -1 else 1))
  | .arc cx cy px py => some (.bend (cx, cy) (0, 0) (px, py) 1)
  | _ => none
def isPlain : Row → Bool
  | .again _ _ => false
  | .keep _ => false
  | .ever _ => false
  | _ => true
def gLedLeg (f : Fr) : Leg → Leg
  | .str a b => .str (gLed f a) (gLed f b)
  | .bend c a b way => .bend (gLed f c) (gLed f a) (gLed f b) (way * f.hand)
def itF (g : Fr → List Leg × Fr) : Nat → Fr → List Leg × Fr
  | 0, f => ([], f)
  | n + 1, f => ((itF g n f).1 ++ (g (itF g n f).2).1, (g (itF g n f).2).2)
def gOne (r : Row) (f : Fr) : List Leg × Fr := ((gTold r).toList.map (gLedLeg f), gBehind f (gFr r))
mutual
def gLegs1 : Row → Fr → List Leg × Fr
  | .again n rs, f => itF (gLegs rs) n f
  | .keep rs, f => ((gLegs rs f).1, f)
  | .ever _, f => ([], f)
  | .go x, f => gOne (.go x) f
  | .skip x, f => gOne (.skip x) f
  | .side x y, f => gOne (.side x y) f
  | .dot, f => gOne .dot f
  | .turn k, f => gOne (.turn k) f
  | .mirror, f => gOne .mirror f
  | .grow k, f => gOne (.grow k) f
  | .quarter x, f => gOne (.quarter x) f
  | .half x, f => gOne (.half x) f
  | .arc a b c d, f => gOne (.arc a b c d) f
def gLegs : List Row → Fr → List Leg × Fr
  | [], f => ([], f)
  | r :: rs, f => ((gLegs1 r f).1 ++ (gLegs rs (gLegs1 r f).2).1, (gLegs rs (gLegs1 r f).2).2)
end
mutual
def gDone1 : Row → Nat
  | .again n rs => n * gDone rs
  | .keep rs => gDone rs
  | .ever rs => gDone rs
  | .go _ => 1
  | .skip _ => 1
  | .side _ _ => 1
  | .dot => 1
  | .turn _ => 1
  | .mirror => 1
  | .grow _ => 1
  | .quarter _ => 1
  | .half _ => 1
  | .arc _ _ _ _ => 1
def gDone : List Row → Nat
  | [] => 0
  | r :: rs => gDone1 r + gDone rs
end
mutual
def gDep1 : Row → Nat
  | .again _ rs => gDep rs + 1
  | .keep rs => gDep rs + 1
  | .ever rs => gDep rs + 1
  | .go _ => 0
  | .skip _ => 0
  | .side _ _ => 0
  | .dot => 0
  | .turn _ => 0
  | .mirror => 0
  | .grow _ => 0
  | .quarter _ => 0
  | .half _ => 0
  | .arc _ _ _ _ => 0
def gDep : List Row → Nat
  | [] => 0
  | r :: rs => max (gDep1 r) (gDep rs)
end
mutual
def RowOk : Row → Prop
  | .again n rs => n ≤ 12 ∧ RowsOk rs
  | .keep rs => RowsOk rs
  | .ever rs => RowsOk rs
  | .go x => ht x ≤ 40
  | .skip x => ht x ≤ 40
  | .side x y => ht x ≤ 40 ∧ ht y ≤ 40
  | .dot => True
  | .turn k => k = 1 ∨ k = 2 ∨ k = 3
  | .mirror => True
  | .grow k => 0 < k ∧ ht k ≤ 4
  | .quarter x => x ≠ 0 ∧ ht x ≤ 40
  | .half x => x ≠ 0 ∧ ht x ≤ 40
  | .arc cx cy px py => (ht cx ≤ 40 ∧ ht cy ≤ 40 ∧ ht px ≤ 40 ∧ ht py ≤ 40) ∧ gFar (cx, cy) (0, 0) = gFar (cx, cy) (px, py) ∧ ((cx, cy) : Pt) ≠ (0, 0)
def RowsOk : List Row → Prop
  | [] => True
  | r :: rs => RowOk r ∧ RowsOk rs
end
theorem rowsOk_iff : ∀ {rs : List Row}, RowsOk rs ↔ ∀ r ∈ rs, RowOk r
  | [] => by simp [RowsOk]
  | r :: rs => by
    show RowOk r ∧ RowsOk rs ↔ _
    rw [rowsOk_iff (rs := rs), List.forall_mem_cons]
theorem dep_mem : ∀ {rs : List Row} {r : Row}, r ∈ rs → gDep1 r ≤ gDep rs
  | s :: rs, r, h => by
    show gDep1 r ≤ max (gDep1 s) (gDep rs)
    rcases List.mem_cons.mp h with rfl | h
    · omega
    · have := dep_mem h
      omega
theorem done_app : ∀ (rs ss : List Row), gDone (rs ++ ss) = gDone rs + gDone ss
  | [], ss => (Nat.zero_add _).symm
  | r :: rs, ss => by
    show gDone1 r + gDone (rs ++ ss) = gDone1 r + gDone rs + gDone ss
    rw [done_app rs ss, Nat.add_assoc]
theorem done_one (r : Row) : gDone [r] = gDone1 r := rfl
theorem done_take1 {rs : List Row} {i : Nat} {r : Row} (h : rs[i]? = some r) : gDone (rs.take (i + 1)) = gDone (rs.take i) + gDone1 r := by
  rw [List.take_add_one, h, done_app]
  rfl
theorem done_take_le (rs : List Row) (i : Nat) : gDone (rs.take i) ≤ gDone rs := by
  have := done_app (rs.take i) (rs.drop i)
  rw [List.take_append_drop] at this
  omega
theorem legs_app : ∀ (rs ss : List Row) (f : Fr), gLegs (rs ++ ss) f = ((gLegs rs f).1 ++ (gLegs ss (gLegs rs f).2).1, (gLegs ss (gLegs rs f).2).2)
  | [], ss, f => rfl
  | r :: rs, ss, f => by
    show ((gLegs1 r f).1 ++ (gLegs (rs ++ ss) (gLegs1 r f).2).1, (gLegs (rs ++ ss) (gLegs1 r f).2).2) = _
    rw [legs_app rs ss]
    show _ = (((gLegs1 r f).1 ++ (gLegs rs (gLegs1 r f).2).1) ++ _, _)
    rw [List.append_assoc]
    rfl
theorem legs_take1 {rs : List Row} {i : Nat} {r : Row} (h : rs[i]? = some r) (f : Fr) : gLegs (rs.take (i + 1)) f = ((gLegs (rs.take i) f).1 ++ (gLegs1 r (gLegs (rs.take i) f).2).1, (gLegs1 r (gLegs (rs.take i) f).2).2) := by
  rw [List.take_add_one, h, legs_app]
  show ((gLegs (rs.take i) f).1 ++ ((gLegs1 r _).1 ++ []), _) = _
  rw [List.append_nil]
  rfl
theorem legs1_plain {r : Row} (h : isPlain r = true) (f : Fr) : gLegs1 r f = gOne r f := by
  cases r <;> first | rfl | cases h
theorem done1_plain {r : Row} (h : isPlain r = true) : gDone1 r = 1 := by
  cases r <;> first | rfl | cases h
/-- how large a frame is behind m rows -/
def FrB (m : Nat) (f : Fr) : Prop := hp f.place ≤ 206 * m + 2 ∧ ht f.size ≤ 4 * m + 1 ∧ (f.hand = 1 ∨ f.hand = -1) ∧ 0 < f.size ∧ 0 ≤ f.turns ∧ f.turns ≤ 3
/-- the frame of a plain row -/
def FrS (f : Fr) : Prop := hp f.place ≤ 82 ∧ ht f.size ≤ 4 ∧ (f.hand = 1 ∨ f.hand = -1) ∧ 0 < f.size ∧ 0 ≤ f.turns ∧ f.turns ≤ 3
theorem FrB.mono {m n : Nat} {f : Fr} (h : FrB m f) (l : m ≤ n) : FrB n f := by
  obtain ⟨h1, h2, h3⟩ := h
  exact ⟨by omega, by omega, h3⟩
theorem hp_led (f : Fr) (p : Pt) : hp (gLed f p) ≤ hp p + 2 * ht f.size + hp f.place + 2 := by
  unfold gLed
  have h1 := hp_tog (gGrow (gTurn (gFlip f.hand p) (f.turns % 4).toNat) f.size) f.place
  have h2 := hp_grow (gTurn (gFlip f.hand p) (f.turns % 4).toNat) f.size
  rw [hp_turn, hp_flip] at h2
  omega
theorem fr0_b : FrB 0 fr0 := ⟨by decide, by decide, Or.inl rfl, by decide, by decide, by decide⟩
theorem fr0_s : FrS fr0 := ⟨by decide, by decide, Or.inl rfl, by decide, by decide, by decide⟩
theorem frAt_s {p : Pt} {k : Int} (h : hp p ≤ 82) (h1 : 0 ≤ k) (h2 : k ≤ 3) : FrS (frAt p k) := ⟨h, by show ht 1 ≤ 4; decide, Or.inl rfl, by show (0 : Rat) < 1; decide, h1, h2⟩
theorem fr_s {r : Row} (h : RowOk r) : FrS (gFr r) := by
  have z := ht_zero
  cases r with
  | go x => have h : ht x ≤ 40 := h; exact frAt_s (by rw [hp_mk]; omega) (by decide) (by decide)
  | skip x => have h : ht x ≤ 40 := h; exact frAt_s (by rw [hp_mk]; omega) (by decide) (by decide)
  | side x y => have h : ht x ≤ 40 ∧ ht y ≤ 40 := h; exact frAt_s (by rw [hp_mk]; omega) (by decide) (by decide)
  | turn k => have h : k = 1 ∨ k = 2 ∨ k = 3 := h; exact frAt_s (by rw [hp_mk]; omega) (by omega) (by omega)
  | mirror => exact ⟨by decide, by decide, Or.inr rfl, by decide, by decide, by decide⟩
  | grow k => have h : 0 < k ∧ ht k ≤ 4 := h; exact ⟨by show hp (0, 0) ≤ 82; rw [hp_mk]; omega, h.2, Or.inl rfl, h.1, Int.le_refl 0, (by decide : (0:Int) ≤ 3)⟩
  | quarter x => have h : x ≠ 0 ∧ ht x ≤ 40 := h; exact frAt_s (by rw [hp_mk, ht_abs]; omega) (by split <;> decide) (by split <;> decide)
  | half x => have h : x ≠ 0 ∧ ht x ≤ 40 := h; exact frAt_s (by rw [hp_mk]; have := ht_add x x; omega) (by decide) (by decide)
  | arc cx cy px py => have h : (ht cx ≤ 40 ∧ ht cy ≤ 40 ∧ ht px ≤ 40 ∧ ht py ≤ 40) ∧ _ := h; exact frAt_s (by rw [hp_mk]; omega) (by decide) (by decide)
  | dot => exact fr0_s
  | again _ _ => exact fr0_s
  | keep _ => exact fr0_s
  | ever _ => exact fr0_s
theorem hand_mul {a b : Int} (h : a = 1 ∨ a = -1) (g : b = 1 ∨ b = -1) : a * b = 1 ∨ a * b = -1 := by
  rcases h with rfl | rfl <;> rcases g with rfl | rfl <;> decide
theorem behind_b {m : Nat} {f g : Fr} (h : FrB m f) (s : FrS g) (hm : m ≤ 15) : FrB (m + 1) (gBehind f g) := by
  obtain ⟨h1, h2, h3, h4, h5, h6⟩ := h
  obtain ⟨s1, s2, s3, s4, s5, s6⟩ := s
  have l := hp_led f g.place
  have t := ht_mul f.size g.size
  exact ⟨by show hp (gLed f g.place) ≤ _; omega, by show ht (f.size * g.size) ≤ _; omega, hand_mul h3 s3, Rat.mul_pos h4 s4, by show 0 ≤ (f.turns + f.hand * g.turns) % 4; omega, by show (f.turns + f.hand * g.turns) % 4 ≤ 3; omega⟩
/-- a leg as the walk makes it -/
def LegG (l : Leg) : Prop := LegOk l ∧ match l with
  | .str a b => hp a ≤ 3000 ∧ hp b ≤ 3000
  | .bend c a b _ => hp c ≤ 3000 ∧ hp a ≤ 3000 ∧ hp b ≤ 3000
theorem turn_sq (p q : Pt) (n : Nat) : gAlong (gTurn p n) (gTurn q n) = gAlong p q := by
  induction n with
  | zero => rfl
  | succ n ih =>
    rw [← ih]
    show -(gTurn p n).2 * -(gTurn q n).2 + (gTurn p n).1 * (gTurn q n).1 = (gTurn p n).1 * (gTurn q n).1 + (gTurn p n).2 * (gTurn q n).2
    grind
theorem turn_off (p q : Pt) (n : Nat) : gOff (gTurn p n) (gTurn q n) = gTurn (gOff p q) n := by
  induction n with
  | zero => rfl
  | succ n ih =>
    show (-(gTurn p n).2 - -(gTurn q n).2, (gTurn p n).1 - (gTurn q n).1) = (-(gTurn (gOff p q) n).2, (gTurn (gOff p q) n).1)
    rw [← ih]
    show (_, _) = (-((gTurn p n).2 - (gTurn q n).2), (gTurn p n).1 - (gTurn q n).1)
    congr 1
    grind
theorem led_far (f : Fr) (p q : Pt) (hh : f.hand = 1 ∨ f.hand = -1) : gFar (gLed f p) (gLed f q) = f.size * f.size * gFar p q := by
  have h1 : gOff (gLed f p) (gLed f q) = gGrow (gTurn (gOff (gFlip f.hand p) (gFlip f.hand q)) (f.turns % 4).toNat) f.size := by
    rw [← turn_off]
    unfold gLed gTog gGrow gOff
    refine Prod.ext ?_ ?_ <;> simp only <;> grind
  have h2 : ∀ (u : Pt) (k : Rat), gAlong (gGrow u k) (gGrow u k) = k * k * gAlong u u := fun u k => by
    unfold gAlong gGrow
    simp only
    grind
  have h3 : gAlong (gOff (gFlip f.hand p) (gFlip f.hand q)) (gOff (gFlip f.hand p) (gFlip f.hand q)) = gFar p q := by
    unfold gFar gAlong gOff gFlip
    simp only
    split <;> grind
  unfold gFar at h3 ⊢
  rw [h1, h2, turn_sq, h3]
theorem far_zero {p q : Pt} (h : gFar p q = 0) : p = q := by
  unfold gFar gAlong gOff at h
  simp only at h
  have h1 := sq_nn (p.1 - q.1)
  have h2 := sq_nn (p.2 - q.2)
  have z : ∀ t : Rat, t * t = 0 → t = 0 := fun t ht => by
    rcases Rat.mul_eq_zero.mp ht with h | h <;> exact h
  have e1 := z (p.1 - q.1) (by grind)
  have e2 := z (p.2 - q.2) (by grind)
  exact Prod.ext (by grind) (by grind)
theorem far_self (p : Pt) : gFar p p = 0 := by
  unfold gFar gAlong gOff
  simp only
  grind
theorem led_ne {f : Fr} {p q : Pt} (hh : f.hand = 1 ∨ f.hand = -1) (hs : 0 < f.size) (h : p ≠ q) : gLed f p ≠ gLed f q := fun e => by
  have h1 := led_far f p q hh
  rw [e, far_self] at h1
  have h2 : f.size * f.size ≠ 0 := by
    have := Rat.mul_pos hs hs
    grind
  rcases Rat.mul_eq_zero.mp h1.symm with z | z
  · exact h2 z
  · exact h (far_zero z)
/-- a leg of a row, small -/
def LegS (l : Leg) : Prop := LegOk l ∧ match l with
  | .str a b => hp a ≤ 82 ∧ hp b ≤ 82
  | .bend c a b _ => hp c ≤ 82 ∧ hp a ≤ 82 ∧ hp b ≤ 82
theorem ledleg_g {m : Nat} {f : Fr} {l : Leg} (h : FrB m f) (hm : m ≤ 13) (s : LegS l) : LegG (gLedLeg f l) := by
  obtain ⟨h1, h2, h3, h4, h5, h6⟩ := h
  cases l with
  | str a b =>
    obtain ⟨s0, s1, s2⟩ := s
    have l1 := hp_led f a
    have l2 := hp_led f b
    exact ⟨trivial, by show hp (gLed f a) ≤ 3000; omega, by show hp (gLed f b) ≤ 3000; omega⟩
  | bend c a b way =>
    obtain ⟨⟨g1, g2, g3, g4⟩, s1, s2, s3⟩ := s
    have l0 := hp_led f c
    have l1 := hp_led f a
    have l2 := hp_led f b
    refine ⟨⟨?_, led_ne h3 h4 g2, led_ne h3 h4 g3, hand_mul g4 h3⟩, by show hp (gLed f c) ≤ 3000; omega, by show hp (gLed f a) ≤ 3000; omega, by show hp (gLed f b) ≤ 3000; omega⟩
    rw [led_far f c a h3, led_far f c b h3, g1]
theorem far_arc {x a b c d : Rat} (h : x * x = a) : a = x * x := h.symm
theorem abs_sq (x : Rat) : gAbs x * gAbs x = x * x := by
  unfold gAbs
  split <;> grind
theorem told_s {r : Row} (h : RowOk r) {l : Leg} (e : gTold r = some l) : LegS l := by
  have z := ht_zero
  have z2 : hp (0, 0) ≤ 82 := by rw [hp_mk]; omega
  cases r with
  | go x =>
    have h : ht x ≤ 40 := h
    simp only [gTold] at e
    split at e
    · cases e
    · cases e; exact ⟨trivial, z2, by rw [hp_mk]; omega⟩
  | side x y =>
    have h : ht x ≤ 40 ∧ ht y ≤ 40 := h
    simp only [gTold] at e
    split at e
    · cases e
    · cases e; exact ⟨trivial, z2, by rw [hp_mk]; omega⟩
  | quarter x =>
    have h : x ≠ 0 ∧ ht x ≤ 40 := h
    cases e
    refine ⟨⟨?_, ?_, ?_, by split <;> simp⟩, by rw [hp_mk]; omega, z2, by rw [hp_mk, ht_abs]; omega⟩
    · have := abs_sq x
      unfold gFar gAlong gOff
      simp only
      grind
    · intro e; exact h.1 (congrArg Prod.snd e)
    · intro e
      have e1 : 0 = gAbs x := congrArg Prod.fst e
      have := abs_sq x
      rw [← e1] at this
      rcases Rat.mul_eq_zero.mp (show x * x = 0 by grind) with q | q <;> exact h.1 q
  | half x =>
    have h : x ≠ 0 ∧ ht x ≤ 40 := h
    cases e
    refine ⟨⟨?_, ?_, ?_, by split <;> simp⟩, by rw [hp_mk]; omega, z2, by rw [hp_mk]; have := ht_add x x; omega⟩
    · unfold gFar gAlong gOff
      simp only
      grind
    · intro e; exact h.1 (congrArg Prod.snd e)
    · intro e
      have e1 : x = x + x := congrArg Prod.snd e
      exact h.1 (by grind)
  | arc cx cy px py =>
    have h : (ht cx ≤ 40 ∧ ht cy ≤ 40 ∧ ht px ≤ 40 ∧ ht py ≤ 40) ∧ gFar (cx, cy) (0, 0) = gFar (cx, cy) (px, py) ∧ ((cx, cy) : Pt) ≠ (0, 0) := h
    cases e
    refine ⟨⟨h.2.1, h.2.2, ?_, Or.inl rfl⟩, by rw [hp_mk]; omega, z2, by rw [hp_mk]; omega⟩
    intro e
    have h1 := h.2.1
    rw [e, far_self, ← e] at h1
    exact h.2.2 (far_zero h1)
  | _ => cases e
/-- what the walk of the rows makes -/
def LgB (m : Nat) (d : Nat) (r : List Leg × Fr) : Prop := (∀ l ∈ r.1, LegG l) ∧ r.1.length ≤ d ∧ FrB (m + d) r.2
theorem one_b {m : Nat} {f : Fr} {r : Row} (h : FrB m f) (ok : RowOk r) (hm : m + 1 ≤ 14) : LgB m 1 (gOne r f) := by
  refine ⟨fun l hl => ?_, ?_, behind_b h (fr_s ok) (by omega)⟩
  · obtain ⟨l', h1, rfl⟩ := List.mem_map.mp hl
    have h2 : gTold r = some l' := Option.mem_toList.mp h1
    exact ledleg_g h (by omega) (told_s ok h2)
  · show ((gTold r).toList.map (gLedLeg f)).length ≤ 1
    rw [List.length_map]
    cases gTold r with
    | none => exact Nat.zero_le _
    | some _ => exact Nat.le_refl _
theorem it_b {g : Fr → List Leg × Fr} {d : Nat} (hg : ∀ m f, FrB m f → m + d ≤ 14 → LgB m d (g f)) : ∀ (n m : Nat) (f : Fr), FrB m f → m + n * d ≤ 14 → LgB m (n * d) (itF g n f)
  | 0, m, f, h, _ => ⟨fun l hl => absurd hl (by simp [itF]), Nat.zero_le _, by rw [Nat.zero_mul]; exact h⟩
  | n + 1, m, f, h, hm => by
    rw [Nat.succ_mul] at hm ⊢
    obtain ⟨a1, a2, a3⟩ := it_b hg n m f h (by omega)
    obtain ⟨b1, b2, b3⟩ := hg _ _ a3 (by omega)
    refine ⟨fun l hl => ?_, ?_, by rw [← Nat.add_assoc]; exact b3⟩
    · rcases List.mem_append.mp hl with hl | hl
      · exact a1 l hl
      · exact b1 l hl
    · show ((itF g n f).1 ++ _).length ≤ _
      rw [List.length_append]
      omega
mutual
theorem legs1_b : ∀ (r : Row) (m : Nat) (f : Fr), RowOk r → FrB m f → m + gDone1 r ≤ 14 → LgB m (gDone1 r) (gLegs1 r f)
  | .again n rs, m, f, ok, h, hm => it_b (fun m f h hm => legs_b rs m f ok.2 h hm) n m f h hm
  | .keep rs, m, f, ok, h, hm => by
    obtain ⟨a1, a2, a3⟩ := legs_b rs m f ok h hm
    exact ⟨a1, a2, h.mono (Nat.le_add_right _ _)⟩
  | .ever rs, m, f, ok, h, hm => ⟨fun l hl => absurd hl (by simp [gLegs1]), Nat.zero_le _, h.mono (Nat.le_add_right _ _)⟩
  | .go x, m, f, ok, h, hm => one_b (r := .go x) h ok hm
  | .skip x, m, f, ok, h, hm => one_b (r := .skip x) h ok hm
  | .side x y, m, f, ok, h, hm => one_b (r := .side x y) h ok hm
  | .dot, m, f, ok, h, hm => one_b (r := .dot) h ok hm
  | .turn k, m, f, ok, h, hm => one_b (r := .turn k) h ok hm
  | .mirror, m, f, ok, h, hm => one_b (r := .mirror) h ok hm
  | .grow k, m, f, ok, h, hm => one_b (r := .grow k) h ok hm
  | .quarter x, m, f, ok, h, hm => one_b (r := .quarter x) h ok hm
  | .half x, m, f, ok, h, hm => one_b (r := .half x) h ok hm
  | .arc a b c d, m, f, ok, h, hm => one_b (r := .arc a b c d) h ok hm
theorem legs_b : ∀ (rs : List Row) (m : Nat) (f : Fr), RowsOk rs → FrB m f → m + gDone rs ≤ 14 → LgB m (gDone rs) (gLegs rs f)
  | [], m, f, ok, h, hm => ⟨fun l hl => absurd hl (by simp [gLegs]), Nat.zero_le _, h⟩
  | r :: rs, m, f, ok, h, hm => by
    have hm : m + (gDone1 r + gDone rs) ≤ 14 := hm
    obtain ⟨a1, a2, a3⟩ := legs1_b r m f ok.1 h (by omega)
    obtain ⟨b1, b2, b3⟩ := legs_b rs _ _ ok.2 a3 (by omega)
    refine ⟨fun l hl => ?_, ?_, by show FrB (m + (gDone1 r + gDone rs)) _; rw [← Nat.add_assoc]; exact b3⟩
    · rcases List.mem_append.mp hl with hl | hl
      · exact a1 l hl
      · exact b1 l hl
    · show ((gLegs1 r f).1 ++ _).length ≤ gDone1 r + gDone rs
      rw [List.length_append]
      omega
end
theorem rowsOk_take {rs : List Row} (h : RowsOk rs) (i : Nat) : RowsOk (rs.take i) := rowsOk_iff.mpr fun r hr => rowsOk_iff.mp h r (List.mem_of_mem_take hr)
/-- strokes -/
def gStep (ss : List (List Leg)) (l : Leg) : List (List Leg) :=
  match ss.getLast? with
  | none => ss ++ [[l]]
  | some s => match s.getLast? with
    | none => ss ++ [[l]]
    | some e => if gEnd e = gBegin l then ss.dropLast ++ [s ++ [l]] else ss ++ [[l]]
def gStrokes (ls : List Leg) : List (List Leg) := ls.foldl gStep []
def gClosed (s : List Leg) : List Leg :=
  match s.head?, s.getLast? with
  | some a, some b => if gEnd b = gBegin a then s else s ++ [.str (gEnd b) (gBegin a)]
  | _, _ => s
end Ar
set_option maxHeartbeats 4000000
/-! Walk: numbers. -/
namespace Ar
open PySem L2

/-- a fraction as the program has it -/
def dQ (x : Rat) : PyData := .tuple [.int x.num, .int (x.den : Int)]
def lim : Nat := 60000000

/-- // by any number but 0, great ones too -/
theorem op_fdivP {X : Cx} (hs : X.base.NoSeer) (ht : X.prog.given.tree = none) (hd : X.A.depth + 100 < recursionLimit) (hst : X.stack = X.env :: X.outer) (hg : X.env.scope.isGenerator = false) (hc : X.env.scope.isCoroutine = false) :
    OpR X (binaryOp .FloorDiv) (rI (fun _ j => j ≠ 0) fun i j => .int (i.fdiv j)) := by
  intro pins s σ H x y v u Q I rx ry h
  obtain ⟨i, j, rfl, rfl, h0, q⟩ := h
  obtain ⟨t, rfl⟩ := rx
  obtain ⟨t', rfl⟩ := ry
  have fr : X.A.frames = some (X.env :: X.outer) := by rw [← hst]; exact I.ok.frames
  have se : SeerAt (model X.prog X.w) X.A s.heap := SeerAt.of (hs.keeps I.bk) ht fr hg hc I.ok.blt I.ok.glob
  exact PyProof.Rows.floordiv_int h0 (show EP X pins σ Q _ _ from ⟨.int (i.fdiv j), H, I.tok _, ⟨_, rfl⟩, q⟩) (Or.inr (PylongRoom.of I.nolimit hd se))
theorem ev_fdiv {X : Cx} {σ : L2.St} {H : Hp} {a b : Expr} {pos : Pos} {i j : Int} (ho : OpR X (binaryOp .FloorDiv) (rI (fun _ j => j ≠ 0) fun i j => .int (i.fdiv j))) (ha : EvD X σ H a (.int i)) (hb : EvD X σ H b (.int j)) (hc : j ≠ 0) : EvD X σ H (.BinOp a .FloorDiv b pos) (.int (i.fdiv j)) :=
  ev_opR ho ha hb mo_rp fun x y H2 _ rx ry Q q => ⟨i, j, rx.int_inv, ry.int_inv, hc, q _ H2 (ex_refl H2) (.int _)⟩

section
variable {P : Program} {w : World} {K : PySem.W.Frag} {mg : Str → Option Value} {base : Heap}

def dom_divisor : List PyData → PyData → Prop := fun ds r => ∃ a b : Int, ds = [.int a, .int b] ∧ r = .int (Int.gcd a b)
theorem ok_divisor (T : Tx P w K mg base) : C8.Cal P w K mg base 1 "divisor" (spD K 2 dom_divisor) [] := by
  refine cal_of T.d_divisor sc_divisor (fun vs H Q E h => h.1) fun f cdv A outer s H vs Q E hr h => ?_
  obtain ⟨_, ds, r, rs, ⟨a, b, rfl, rfl⟩, q⟩ := h
  obtain ⟨v, u, rfl, r1, r2⟩ := two_inv rs
  have e1 := r1.int_inv
  have e2 := r2.int_inv
  subst e1 e2
  refine go_asg 0 (ev_abs T.m_abs (ev_d 0 (.int a))) (fun v H1 e1 rv => ?_) sc_divisor.nd
  have ev := rv.int_inv
  subst ev
  refine go_asg 1 (ev_abs T.m_abs (ev_d 1 (.int b))) (fun v H2 e2 rv => ?_) sc_divisor.nd
  have ev := rv.int_inv
  subst ev
  refine go_while PassesOwn.never (fun n σ' H' => ∃ m : Nat, σ' = [some (.int m), some (.int n)] ∧ Int.gcd m n = Int.gcd a b ∧ Ex H H') b.natAbs ⟨a.natAbs, rfl, by rw [Int.gcd_natCast_natCast]; rfl, e1.trans e2⟩ ?_
  rintro n σ' H' ⟨m, rfl, hg, ex⟩
  refine ⟨_, et_gt (ev_d 1 (.int n)) ev_int, fun hk H3 e3 => ?_, fun hk H3 e3 => ?_⟩
  · have hn : 0 < (n : Int) := of_decide_eq_true hk
    refine go_par 0 1 (ev_d 1 (.int n)) mo_rp (ev_mod (ev_d 0 (.int m)) (ev_d 1 (.int n)) hn) rfl sc_divisor.nd fun v w H4 e4 rv rw' => go_nil ?_
    rw [rv.int_inv, rw'.int_inv]
    refine ⟨m % n, Nat.mod_lt _ (by omega), n, ?_, gcd_step a b m n hg, (ex.trans e3).trans e4⟩
    show [some (V.int n), some (V.int ((m : Int) % (n : Int)))] = _
    rw [← Int.natCast_emod]
  · have hn : ¬ 0 < (n : Int) := of_decide_eq_false hk
    have n0 : n = 0 := by omega
    subst n0
    refine go_ret (ev_d 0 (.int m)) fun v H4 e4 rv => q v H4 ((ex.trans e3).trans e4) ?_
    have e : (m : Int) = (Int.gcd a b : Int) := by
      rw [← hg, Int.gcd_natCast_natCast, Nat.gcd_zero_right]
    rw [← e]
    exact rv

def dom_ratio : List PyData → PyData → Prop := fun ds r => ∃ t b : Int, ds = [.int t, .int b] ∧ b ≠ 0 ∧ r = dQ (Rat.divInt t b)
theorem ok_ratio (T : Tx P w K mg base) : C8.Cal P w K mg base 33 "ratio" (spD K 2 dom_ratio) [] := by
  refine cal_of T.d_ratio sc_ratio (fun vs H Q E h => h.1) fun f cdv A outer s H vs Q E hr h => ?_
  obtain ⟨_, ds, r, rs, ⟨t, b, rfl, hb, rfl⟩, q⟩ := h
  obtain ⟨v, u, rfl, r1, r2⟩ := two_inv rs
  have e1 := r1.int_inv
  have e2 := r2.int_inv
  subst e1 e2
  have ho := op_fdivP (X := bX P w K mg base n_ratio "ratio" s_ratio f cdv A outer s H E) T.seer T.tree (by have := hr.dp; omega) rfl rfl rfl
  refine go_when (et_eqI (ev_d 1 (.int b)) ev_int) (fun hk => absurd (of_decide_eq_true hk) hb) fun _ H1 e1 => ?_
  refine go_asg 2 (ev_call (ok_divisor T) hr (ea_cons (ev_d 0 (.int t)) (ea_cons (ev_d 1 (.int b)) ea_nil)) ⟨t, b, rfl, rfl⟩) (fun v H2 e2 rv => ?_) sc_ratio.nd
  have ev := rv.int_inv
  subst ev
  have fin : ∀ (g : Int) H3, Ex H H3 → g ≠ 0 → t.fdiv g = (Rat.divInt t b).num → b.fdiv g = ((Rat.divInt t b).den : Int) →
      Go (bX P w K mg base n_ratio "ratio" s_ratio f cdv A outer s H E) (List.drop 3 (C8.fnBody s_ratio)) { nx := fun _ H' => Q .non H', rt := Q } [some (.int t), some (.int b), some (.int g)] H3 := fun g H3 e3 hg h1 h2 =>
    go_ret (ev_tup (ea_cons (ev_fdiv ho (ev_d 0 (.int t)) (ev_d 2 (.int g)) hg) (ea_cons (ev_fdiv ho (ev_d 1 (.int b)) (ev_d 2 (.int g)) hg) ea_nil))) fun v H4 e4 rv => q v H4 (e3.trans e4) (by
      rw [h1, h2] at rv
      exact rv)
  have g1 := ratio_num (t := t) hb
  have g2 := ratio_den (t := t) hb
  refine go_when (et_lt (ev_d 1 (.int b)) ev_int) (fun hk H3 e3 => ?_) fun hk H3 e3 => ?_
  · have hk' : b < 0 := of_decide_eq_true hk
    refine go_asg 2 (ev_sub ev_int (ev_d 2 (.int _))) (fun v H4 e4 rv => go_nil ?_) sc_ratio.nd
    have ev := rv.int_inv
    subst ev
    rw [if_pos hk'] at g1 g2
    refine fin _ H4 (((e1.trans e2).trans e3).trans e4) (by have := gcd_ne (t := t) hb; omega) g1 g2
  · have hk' : ¬ b < 0 := of_decide_eq_false hk
    rw [if_neg hk'] at g1 g2
    exact fin _ H3 ((e1.trans e2).trans e3) (gcd_ne hb) g1 g2
end
end Ar
set_option maxHeartbeats 4000000
/-! Walk: fractions, points. -/
namespace Ar
open PySem L2
def dP (p : Pt) : PyData := .tuple [dQ p.1, dQ p.2]
theorem cm_nd {x y : Rat} (h : ht x + ht y ≤ 60000000) : CMulX x.num (y.den : Int) := mulx_ok (ht_num x) (by simpa using ht_den y) (by omega)
theorem cm_nn {x y : Rat} (h : ht x + ht y ≤ 60000000) : CMulX x.num y.num := mulx_ok (ht_num x) (ht_num y) (by omega)
theorem cm_dd {x y : Rat} (h : ht x + ht y ≤ 60000000) : CMulX (x.den : Int) (y.den : Int) := mulx_ok (by simpa using ht_den x) (by simpa using ht_den y) (by omega)
theorem cm_dn {x y : Rat} (h : ht x + ht y ≤ 60000000) : CMulX (x.den : Int) y.num := mulx_ok (by simpa using ht_den x) (ht_num y) (by omega)
theorem dd_ne (x y : Rat) : (x.den : Int) * (y.den : Int) ≠ 0 := Int.mul_ne_zero (den_ne x) (den_ne y)
theorem dn_ne {x y : Rat} (h : y ≠ 0) : (x.den : Int) * y.num ≠ 0 := Int.mul_ne_zero (den_ne x) (fun z => h (Rat.num_eq_zero.mp z))
theorem eqv_dQ (x y : Rat) : PyData.eqv (dQ x) (dQ y) = decide (x = y) := by
  show ((x.num == y.num) && (((x.den : Int) == (y.den : Int)) && true)) = _
  rw [Bool.and_true, Bool.eq_iff_iff, Bool.and_eq_true, beq_iff_eq, beq_iff_eq, decide_eq_true_iff]
  exact ⟨fun h => Rat.ext h.1 (Int.ofNat.inj h.2), fun h => by rw [h]; exact ⟨rfl, rfl⟩⟩
theorem eqv_dP (p q : Pt) : PyData.eqv (dP p) (dP q) = decide (p = q) := by
  show ((PyData.eqv (dQ p.1) (dQ q.1)) && ((PyData.eqv (dQ p.2) (dQ q.2)) && true)) = _
  rw [eqv_dQ, eqv_dQ, Bool.and_true, Bool.eq_iff_iff, Bool.and_eq_true, decide_eq_true_iff, decide_eq_true_iff, decide_eq_true_iff]
  exact ⟨fun h => Prod.ext h.1 h.2, fun h => by rw [h]; exact ⟨rfl, rfl⟩⟩
theorem nbT {b : Bool} (h : (!b) = true) : b = false := by cases b <;> simp_all
theorem nbF {b : Bool} (h : (!b) = false) : b = true := by cases b <;> simp_all
section
variable {K : PySem.W.Frag} {H : Hp} {vs : List V} {d1 d2 d3 d4 d5 : PyData}
theorem inv1 (h : RpL K H vs [d1]) : ∃ v, vs = [v] ∧ Rp K H v d1 := one_inv h
theorem inv2 (h : RpL K H vs [d1, d2]) : ∃ v w, vs = [v, w] ∧ Rp K H v d1 ∧ Rp K H w d2 := two_inv h
theorem inv3 (h : RpL K H vs [d1, d2, d3]) : ∃ v w u, vs = [v, w, u] ∧ Rp K H v d1 ∧ Rp K H w d2 ∧ Rp K H u d3 := by
  cases h with
  | cons h1 h2 =>
    obtain ⟨w, u, rfl, h3, h4⟩ := inv2 h2
    exact ⟨_, _, _, rfl, h1, h3, h4⟩
theorem inv4 (h : RpL K H vs [d1, d2, d3, d4]) : ∃ v w u x, vs = [v, w, u, x] ∧ Rp K H v d1 ∧ Rp K H w d2 ∧ Rp K H u d3 ∧ Rp K H x d4 := by
  cases h with
  | cons h1 h2 =>
    obtain ⟨w, u, x, rfl, h3⟩ := inv3 h2
    exact ⟨_, _, _, _, rfl, h1, h3⟩
end
theorem ev_nought {P : Program} {w : World} {K : PySem.W.Frag} {mg : Str → Option Value} {base : Heap} (T : Tx P w K mg base) {X : Cx} {σ : L2.St} {H : Hp} {pos : Pos} (hK : X.K = K := by rfl) (hm : X.mg = mg := by rfl) (hg : Gl X "NOUGHT" := by rfl) : EvD X σ H (.Name "NOUGHT" pos) (dP (0, 0)) := by
  obtain ⟨u, v, h1, h2, h3⟩ := T.c_nought
  subst hK hm
  exact ev_glob h1 h2 (h3 H) hg
theorem ev_most {P : Program} {w : World} {K : PySem.W.Frag} {mg : Str → Option Value} {base : Heap} (T : Tx P w K mg base) {X : Cx} {σ : L2.St} {H : Hp} {pos : Pos} (hm : X.mg = mg := by rfl) (hg : Gl X "MOST_DONE" := by rfl) : EvD X σ H (.Name "MOST_DONE" pos) (.int 300) := by
  obtain ⟨t, h1⟩ := T.c_most
  subst hm
  exact ev_glob (v := .int 300) h1 ⟨t, rfl⟩ (.int 300) hg
local macro_rules | `(tactic| walk_at "bd") => `(tactic| (first | omega | (simp only [hp] at *; omega) | grind [hp, ht_add, ht_sub, ht_mul, ht_div, ht_neg, hp_tog, hp_off, hp_grow, ht_along, ht_across, ht_far, gTog, gOff]))
local macro_rules | `(tactic| walk_at "mu") => `(tactic| (first | exact cm_nd (by omega) | exact cm_nn (by omega) | exact cm_dd (by omega) | exact cm_dn (by omega)))
section
variable {P : Program} {w : World} {K : PySem.W.Frag} {mg : Str → Option Value} {base : Heap}

def dom_plus : List PyData → PyData → Prop := fun ds r => ∃ (x y : Rat), ds = [dQ x, dQ y] ∧ (ht x + ht y ≤ 60000000) ∧ r = dQ (x + y)
theorem ok_plus (T : Tx P w K mg base) : C8.Cal P w K mg base 34 "plus" (spD K 2 dom_plus) [] := by
  refine cal_of T.d_plus sc_plus (fun vs H Q E h => h.1) fun f cdv A outer s H vs Q E hr h => ?_
  obtain ⟨_, ds, r, rs, ⟨x, y, rfl, p0, rfl⟩, q⟩ := h
  obtain ⟨v_one, v_other, rfl, r_one, r_other⟩ := inv2 rs
  exact go_ret (ev_call (ok_ratio T) hr (ea_cons (ev_add (ev_mul (ev_ix (ev_d 0 r_one) ev_int) (ev_ix (ev_d 1 r_other) ev_int) (by walk_at "mu")) (ev_mul (ev_ix (ev_d 1 r_other) ev_int) (ev_ix (ev_d 0 r_one) ev_int) (by walk_at "mu"))) (ea_cons (ev_mul (ev_ix (ev_d 0 r_one) ev_int) (ev_ix (ev_d 1 r_other) ev_int) (by walk_at "mu")) ea_nil)) ⟨_, _, rfl, dd_ne _ _, rfl⟩) fun v H1 e1 rv => q v H1 ((ex_refl H).trans e1) (by rw [q_add] at rv; exact rv)
def dom_minus : List PyData → PyData → Prop := fun ds r => ∃ (x y : Rat), ds = [dQ x, dQ y] ∧ (ht x + ht y ≤ 60000000) ∧ r = dQ (x - y)
theorem ok_minus (T : Tx P w K mg base) : C8.Cal P w K mg base 34 "minus" (spD K 2 dom_minus) [] := by
  refine cal_of T.d_minus sc_minus (fun vs H Q E h => h.1) fun f cdv A outer s H vs Q E hr h => ?_
  obtain ⟨_, ds, r, rs, ⟨x, y, rfl, p0, rfl⟩, q⟩ := h
  obtain ⟨v_one, v_other, rfl, r_one, r_other⟩ := inv2 rs
  exact go_ret (ev_call (ok_ratio T) hr (ea_cons (ev_sub (ev_mul (ev_ix (ev_d 0 r_one) ev_int) (ev_ix (ev_d 1 r_other) ev_int) (by walk_at "mu")) (ev_mul (ev_ix (ev_d 1 r_other) ev_int) (ev_ix (ev_d 0 r_one) ev_int) (by walk_at "mu"))) (ea_cons (ev_mul (ev_ix (ev_d 0 r_one) ev_int) (ev_ix (ev_d 1 r_other) ev_int) (by walk_at "mu")) ea_nil)) ⟨_, _, rfl, dd_ne _ _, rfl⟩) fun v H1 e1 rv => q v H1 ((ex_refl H).trans e1) (by rw [q_sub] at rv; exact rv)
def dom_times : List PyData → PyData → Prop := fun ds r => ∃ (x y : Rat), ds = [dQ x, dQ y] ∧ (ht x + ht y ≤ 60000000) ∧ r = dQ (x * y)
theorem ok_times (T : Tx P w K mg base) : C8.Cal P w K mg base 34 "times" (spD K 2 dom_times) [] := by
  refine cal_of T.d_times sc_times (fun vs H Q E h => h.1) fun f cdv A outer s H vs Q E hr h => ?_
  obtain ⟨_, ds, r, rs, ⟨x, y, rfl, p0, rfl⟩, q⟩ := h
  obtain ⟨v_one, v_other, rfl, r_one, r_other⟩ := inv2 rs
  exact go_ret (ev_call (ok_ratio T) hr (ea_cons (ev_mul (ev_ix (ev_d 0 r_one) ev_int) (ev_ix (ev_d 1 r_other) ev_int) (by walk_at "mu")) (ea_cons (ev_mul (ev_ix (ev_d 0 r_one) ev_int) (ev_ix (ev_d 1 r_other) ev_int) (by walk_at "mu")) ea_nil)) ⟨_, _, rfl, dd_ne _ _, rfl⟩) fun v H1 e1 rv => q v H1 ((ex_refl H).trans e1) (by rw [q_mul] at rv; exact rv)
def dom_over : List PyData → PyData → Prop := fun ds r => ∃ (x y : Rat), ds = [dQ x, dQ y] ∧ (ht x + ht y ≤ 60000000) ∧ (y ≠ 0) ∧ r = dQ (x / y)
theorem ok_over (T : Tx P w K mg base) : C8.Cal P w K mg base 34 "over" (spD K 2 dom_over) [] := by
  refine cal_of T.d_over sc_over (fun vs H Q E h => h.1) fun f cdv A outer s H vs Q E hr h => ?_
  obtain ⟨_, ds, r, rs, ⟨x, y, rfl, p0, p1, rfl⟩, q⟩ := h
  obtain ⟨v_one, v_other, rfl, r_one, r_other⟩ := inv2 rs
  exact go_ret (ev_call (ok_ratio T) hr (ea_cons (ev_mul (ev_ix (ev_d 0 r_one) ev_int) (ev_ix (ev_d 1 r_other) ev_int) (by walk_at "mu")) (ea_cons (ev_mul (ev_ix (ev_d 0 r_one) ev_int) (ev_ix (ev_d 1 r_other) ev_int) (by walk_at "mu")) ea_nil)) ⟨_, _, rfl, dn_ne p1, rfl⟩) fun v H1 e1 rv => q v H1 ((ex_refl H).trans e1) (by rw [q_div] at rv; exact rv)
def dom_below : List PyData → PyData → Prop := fun ds r => ∃ (x y : Rat), ds = [dQ x, dQ y] ∧ (ht x + ht y ≤ 60000000) ∧ r = .bool (decide (x < y))
theorem ok_below (T : Tx P w K mg base) : C8.Cal P w K mg base 1 "below" (spD K 2 dom_below) [] := by
  refine cal_of T.d_below sc_below (fun vs H Q E h => h.1) fun f cdv A outer s H vs Q E hr h => ?_
  obtain ⟨_, ds, r, rs, ⟨x, y, rfl, p0, rfl⟩, q⟩ := h
  obtain ⟨v_one, v_other, rfl, r_one, r_other⟩ := inv2 rs
  exact go_ret (ev_lt (ev_mul (ev_ix (ev_d 0 r_one) ev_int) (ev_ix (ev_d 1 r_other) ev_int) (by walk_at "mu")) (ev_mul (ev_ix (ev_d 1 r_other) ev_int) (ev_ix (ev_d 0 r_one) ev_int) (by walk_at "mu"))) fun v H1 e1 rv => q v H1 ((ex_refl H).trans e1) (by rw [q_lt] at rv; exact rv)
def dom_together : List PyData → PyData → Prop := fun ds r => ∃ (p q : Pt), ds = [dP p, dP q] ∧ (hp p + hp q ≤ 25000000) ∧ r = dP (gTog p q)
theorem ok_together (T : Tx P w K mg base) : C8.Cal P w K mg base 35 "together" (spD K 2 dom_together) [] := by
  refine cal_of T.d_together sc_together (fun vs H Q E h => h.1) fun f cdv A outer s H vs Q E hr h => ?_
  obtain ⟨_, ds, r, rs, ⟨p, q, rfl, p0, rfl⟩, q⟩ := h
  obtain ⟨v_p, v_q, rfl, r_p, r_q⟩ := inv2 rs
  exact go_ret (ev_tup (ea_cons (ev_call (ok_plus T) hr (ea_cons (ev_ix (ev_d 0 r_p) ev_int) (ea_cons (ev_ix (ev_d 1 r_q) ev_int) ea_nil)) ⟨_, _, rfl, (by walk_at "bd"), rfl⟩) (ea_cons (ev_call (ok_plus T) hr (ea_cons (ev_ix (ev_d 0 r_p) ev_int) (ea_cons (ev_ix (ev_d 1 r_q) ev_int) ea_nil)) ⟨_, _, rfl, (by walk_at "bd"), rfl⟩) ea_nil))) fun v H1 e1 rv => q v H1 ((ex_refl H).trans e1) (rv)
def dom_off : List PyData → PyData → Prop := fun ds r => ∃ (p q : Pt), ds = [dP p, dP q] ∧ (hp p + hp q ≤ 25000000) ∧ r = dP (gOff p q)
theorem ok_off (T : Tx P w K mg base) : C8.Cal P w K mg base 35 "off" (spD K 2 dom_off) [] := by
  refine cal_of T.d_off sc_off (fun vs H Q E h => h.1) fun f cdv A outer s H vs Q E hr h => ?_
  obtain ⟨_, ds, r, rs, ⟨p, q, rfl, p0, rfl⟩, q⟩ := h
  obtain ⟨v_p, v_q, rfl, r_p, r_q⟩ := inv2 rs
  exact go_ret (ev_tup (ea_cons (ev_call (ok_minus T) hr (ea_cons (ev_ix (ev_d 0 r_p) ev_int) (ea_cons (ev_ix (ev_d 1 r_q) ev_int) ea_nil)) ⟨_, _, rfl, (by walk_at "bd"), rfl⟩) (ea_cons (ev_call (ok_minus T) hr (ea_cons (ev_ix (ev_d 0 r_p) ev_int) (ea_cons (ev_ix (ev_d 1 r_q) ev_int) ea_nil)) ⟨_, _, rfl, (by walk_at "bd"), rfl⟩) ea_nil))) fun v H1 e1 rv => q v H1 ((ex_refl H).trans e1) (rv)
def dom_grown : List PyData → PyData → Prop := fun ds r => ∃ (p : Pt) (k : Rat), ds = [dP p, dQ k] ∧ (hp p + ht k ≤ 25000000) ∧ r = dP (gGrow p k)
theorem ok_grown (T : Tx P w K mg base) : C8.Cal P w K mg base 35 "grown" (spD K 2 dom_grown) [] := by
  refine cal_of T.d_grown sc_grown (fun vs H Q E h => h.1) fun f cdv A outer s H vs Q E hr h => ?_
  obtain ⟨_, ds, r, rs, ⟨p, k, rfl, p0, rfl⟩, q⟩ := h
  obtain ⟨v_p, v_number, rfl, r_p, r_number⟩ := inv2 rs
  exact go_ret (ev_tup (ea_cons (ev_call (ok_times T) hr (ea_cons (ev_ix (ev_d 0 r_p) ev_int) (ea_cons (ev_d 1 r_number) ea_nil)) ⟨_, _, rfl, (by walk_at "bd"), rfl⟩) (ea_cons (ev_call (ok_times T) hr (ea_cons (ev_ix (ev_d 0 r_p) ev_int) (ea_cons (ev_d 1 r_number) ea_nil)) ⟨_, _, rfl, (by walk_at "bd"), rfl⟩) ea_nil))) fun v H1 e1 rv => q v H1 ((ex_refl H).trans e1) (rv)
def dom_along : List PyData → PyData → Prop := fun ds r => ∃ (p q : Pt), ds = [dP p, dP q] ∧ (hp p + hp q ≤ 25000000) ∧ r = dQ (gAlong p q)
theorem ok_along (T : Tx P w K mg base) : C8.Cal P w K mg base 35 "along" (spD K 2 dom_along) [] := by
  refine cal_of T.d_along sc_along (fun vs H Q E h => h.1) fun f cdv A outer s H vs Q E hr h => ?_
  obtain ⟨_, ds, r, rs, ⟨p, q, rfl, p0, rfl⟩, q⟩ := h
  obtain ⟨v_p, v_q, rfl, r_p, r_q⟩ := inv2 rs
  exact go_ret (ev_call (ok_plus T) hr (ea_cons (ev_call (ok_times T) hr (ea_cons (ev_ix (ev_d 0 r_p) ev_int) (ea_cons (ev_ix (ev_d 1 r_q) ev_int) ea_nil)) ⟨_, _, rfl, (by walk_at "bd"), rfl⟩) (ea_cons (ev_call (ok_times T) hr (ea_cons (ev_ix (ev_d 0 r_p) ev_int) (ea_cons (ev_ix (ev_d 1 r_q) ev_int) ea_nil)) ⟨_, _, rfl, (by walk_at "bd"), rfl⟩) ea_nil)) ⟨_, _, rfl, (by walk_at "bd"), rfl⟩) fun v H1 e1 rv => q v H1 ((ex_refl H).trans e1) (rv)
def dom_across : List PyData → PyData → Prop := fun ds r => ∃ (p q : Pt), ds = [dP p, dP q] ∧ (hp p + hp q ≤ 25000000) ∧ r = dQ (gAcross p q)
theorem ok_across (T : Tx P w K mg base) : C8.Cal P w K mg base 35 "across" (spD K 2 dom_across) [] := by
  refine cal_of T.d_across sc_across (fun vs H Q E h => h.1) fun f cdv A outer s H vs Q E hr h => ?_
  obtain ⟨_, ds, r, rs, ⟨p, q, rfl, p0, rfl⟩, q⟩ := h
  obtain ⟨v_p, v_q, rfl, r_p, r_q⟩ := inv2 rs
  exact go_ret (ev_call (ok_minus T) hr (ea_cons (ev_call (ok_times T) hr (ea_cons (ev_ix (ev_d 0 r_p) ev_int) (ea_cons (ev_ix (ev_d 1 r_q) ev_int) ea_nil)) ⟨_, _, rfl, (by walk_at "bd"), rfl⟩) (ea_cons (ev_call (ok_times T) hr (ea_cons (ev_ix (ev_d 0 r_p) ev_int) (ea_cons (ev_ix (ev_d 1 r_q) ev_int) ea_nil)) ⟨_, _, rfl, (by walk_at "bd"), rfl⟩) ea_nil)) ⟨_, _, rfl, (by walk_at "bd"), rfl⟩) fun v H1 e1 rv => q v H1 ((ex_refl H).trans e1) (rv)
def dom_far : List PyData → PyData → Prop := fun ds r => ∃ (p q : Pt), ds = [dP p, dP q] ∧ (hp p + hp q ≤ 10000000) ∧ r = dQ (gFar p q)
theorem ok_far (T : Tx P w K mg base) : C8.Cal P w K mg base 36 "far" (spD K 2 dom_far) [] := by
  refine cal_of T.d_far sc_far (fun vs H Q E h => h.1) fun f cdv A outer s H vs Q E hr h => ?_
  obtain ⟨_, ds, r, rs, ⟨p, q, rfl, p0, rfl⟩, q⟩ := h
  obtain ⟨v_p, v_q, rfl, r_p, r_q⟩ := inv2 rs
  refine go_asg 2 (ev_call (ok_off T) hr (ea_cons (ev_d 0 r_p) (ea_cons (ev_d 1 r_q) ea_nil)) ⟨_, _, rfl, (by walk_at "bd"), rfl⟩) (fun v_way H1 e1 r_way => ?_) sc_far.nd
  have r_p := r_p.ex e1
  have r_q := r_q.ex e1
  have x1 := (ex_refl H).trans e1
  exact go_ret (ev_call (ok_along T) hr (ea_cons (ev_d 2 r_way) (ea_cons (ev_d 2 r_way) ea_nil)) ⟨_, _, rfl, (by walk_at "bd"), rfl⟩) fun v H2 e2 rv => q v H2 (x1.trans e2) (rv)
def dom_sign_of : List PyData → PyData → Prop := fun ds r => ∃ (x : Rat), ds = [dQ x] ∧ r = .int (gSgn x)
theorem ok_sign_of (T : Tx P w K mg base) : C8.Cal P w K mg base 1 "sign_of" (spD K 1 dom_sign_of) [] := by
  refine cal_of T.d_sign_of sc_sign_of (fun vs H Q E h => h.1) fun f cdv A outer s H vs Q E hr h => ?_
  obtain ⟨_, ds, r, rs, ⟨x, rfl, rfl⟩, q⟩ := h
  obtain ⟨v_number, rfl, r_number⟩ := inv1 rs
  exact go_ret (ev_sub (ev_intB T.m_int (ev_gt (ev_ix (ev_d 0 r_number) ev_int) ev_int)) (ev_intB T.m_int (ev_lt (ev_ix (ev_d 0 r_number) ev_int) ev_int))) fun v H1 e1 rv => q v H1 ((ex_refl H).trans e1) (by rw [sg] at rv; exact rv)
def dom_side : List PyData → PyData → Prop := fun ds r => ∃ (a b p : Pt), ds = [dP a, dP b, dP p] ∧ (hp a + hp b + hp p ≤ 10000000) ∧ r = .int (gSide a b p)
theorem ok_side (T : Tx P w K mg base) : C8.Cal P w K mg base 36 "side" (spD K 3 dom_side) [] := by
  refine cal_of T.d_side sc_side (fun vs H Q E h => h.1) fun f cdv A outer s H vs Q E hr h => ?_
  obtain ⟨_, ds, r, rs, ⟨a, b, p, rfl, p0, rfl⟩, q⟩ := h
  obtain ⟨v_a, v_b, v_p, rfl, r_a, r_b, r_p⟩ := inv3 rs
  exact go_ret (ev_call (ok_sign_of T) hr (ea_cons (ev_call (ok_across T) hr (ea_cons (ev_call (ok_off T) hr (ea_cons (ev_d 1 r_b) (ea_cons (ev_d 0 r_a) ea_nil)) ⟨_, _, rfl, (by walk_at "bd"), rfl⟩) (ea_cons (ev_call (ok_off T) hr (ea_cons (ev_d 2 r_p) (ea_cons (ev_d 0 r_a) ea_nil)) ⟨_, _, rfl, (by walk_at "bd"), rfl⟩) ea_nil)) ⟨_, _, rfl, (by walk_at "bd"), rfl⟩) ea_nil) ⟨_, rfl, rfl⟩) fun v H1 e1 rv => q v H1 ((ex_refl H).trans e1) (rv)
def dom_before : List PyData → PyData → Prop := fun ds r => ∃ (p q : Pt), ds = [dP p, dP q] ∧ (hp p + hp q ≤ 25000000) ∧ r = .bool (gBef p q)
theorem ok_before (T : Tx P w K mg base) : C8.Cal P w K mg base 2 "before" (spD K 2 dom_before) [] := by
  refine cal_of T.d_before sc_before (fun vs H Q E h => h.1) fun f cdv A outer s H vs Q E hr h => ?_
  obtain ⟨_, ds, r, rs, ⟨p, q, rfl, p0, rfl⟩, q⟩ := h
  obtain ⟨v_p, v_q, rfl, r_p, r_q⟩ := inv2 rs
  exact go_ret (ev_or (ev_call (ok_below T) hr (ea_cons (ev_ix (ev_d 0 r_p) ev_int) (ea_cons (ev_ix (ev_d 1 r_q) ev_int) ea_nil)) ⟨_, _, rfl, (by walk_at "bd"), rfl⟩) fun _ => (ev_one (ev_and (ev_eq hr.units (ev_ix (ev_d 0 r_p) ev_int) (ev_ix (ev_d 1 r_q) ev_int) rfl rfl) fun _ => (ev_one (ev_call (ok_below T) hr (ea_cons (ev_ix (ev_d 0 r_p) ev_int) (ea_cons (ev_ix (ev_d 1 r_q) ev_int) ea_nil)) ⟨_, _, rfl, (by walk_at "bd"), rfl⟩))))) fun v H1 e1 rv => q v H1 ((ex_refl H).trans e1) (by rw [eqv_dQ] at rv; exact rv)
end
end Ar
set_option maxHeartbeats 4000000
/-! Walk: pieces, arcs. -/
namespace Ar
open PySem L2
def dPc : Piece → PyData
  | .dot p => .tuple [.str "dot", dP p]
  | .str p q => .tuple [.str "stretch", dP p, dP q]
  | .arc c p q => .tuple [.str "arc", dP c, dP p, dP q]
  | .ring c p => .tuple [.str "ring", dP c, dP p]
def dL : Leg → PyData
  | .str p q => .tuple [.str "straight", dP p, dP q]
  | .bend c p q way => .tuple [.str "bend", dP c, dP p, dP q, .int way]
theorem gOn_arc (c a b p : Pt) : gOn (.arc c a b) p = (decide (gFar c p = gFar c a) && (decide (p = a) || (decide (p = b) || gAhead c a p b))) := rfl
theorem gOn_ring (c a p : Pt) : gOn (.ring c a) p = decide (gFar c p = gFar c a) := rfl
theorem gPiece_bend (c p q : Pt) (way : Int) : gPiece (.bend c p q way) = if 0 < way then gArc c p q else gArc c q p := rfl
theorem ev_q11 {X : Cx} {σ : L2.St} {H : Hp} {i j k : Nat} {p1 p2 p3 : Pos} (h1 : starEach [.Constant (.int 1) j p2] X.env = (false, eval (.Constant (.int 1) j p2) X.env) :: starEach [] X.env := by rfl) (h2 : starEach [.Constant (.int 1) i p1, .Constant (.int 1) j p2] X.env = (false, eval (.Constant (.int 1) i p1) X.env) :: starEach [.Constant (.int 1) j p2] X.env := by rfl) :
    EvD X σ H (.Tuple [.Constant (.int 1) i p1, .Constant (.int 1) j p2] k p3) (dQ 1) := (ev_tup (ea_cons ev_int (ea_cons ev_int ea_nil h1) h2)).cast rfl
theorem num_ne {x : Rat} (h : x ≠ 0) : x.num ≠ 0 := fun z => h (Rat.num_eq_zero.mp z)
local macro_rules | `(tactic| walk_at "bd") => `(tactic| (first | omega | (simp only [hp] at *; omega) | grind [hp, ht_add, ht_sub, ht_mul, ht_div, ht_neg, hp_tog, hp_off, hp_grow, ht_along, ht_across, ht_far, gTog, gOff]))
section
variable {P : Program} {w : World} {K : PySem.W.Frag} {mg : Str → Option Value} {base : Heap}

def dom_stretch : List PyData → PyData → Prop := fun ds r => ∃ (p q : Pt), ds = [dP p, dP q] ∧ (hp p + hp q ≤ 20000000) ∧ r = dPc (gStretch p q)
theorem ok_stretch (T : Tx P w K mg base) : C8.Cal P w K mg base 3 "stretch" (spD K 2 dom_stretch) [] := by
  refine cal_of T.d_stretch sc_stretch (fun vs H Q E h => h.1) fun f cdv A outer s H vs Q E hr h => ?_
  obtain ⟨_, ds, r, rs, ⟨p, q, rfl, p0, rfl⟩, q⟩ := h
  obtain ⟨v_p, v_q, rfl, r_p, r_q⟩ := inv2 rs
  refine go_when (et_eq hr.units (ev_d 0 r_p) (ev_d 1 r_q) rfl rfl) (fun hk1 H1 e1 => ?_) (fun hk1 H1 e1 => ?_)
  · skip
    have r_p := r_p.ex e1
    have r_q := r_q.ex e1
    have x1 := (ex_refl H).trans e1
    rw [eqv_dP] at hk1
    have hE := of_decide_eq_true hk1
    exact go_ret (ev_tup (ea_cons ev_str (ea_cons (ev_d 0 r_p) ea_nil))) fun v H2 e2 rv => q v H2 (x1.trans e2) (by unfold gStretch; rw [if_pos hE]; exact rv)
  · skip
    have r_p := r_p.ex e1
    have r_q := r_q.ex e1
    have x1 := (ex_refl H).trans e1
    rw [eqv_dP] at hk1
    have hE := of_decide_eq_false hk1
    refine go_when (et_val (ev_call (ok_before T) hr (ea_cons (ev_d 1 r_q) (ea_cons (ev_d 0 r_p) ea_nil)) ⟨_, _, rfl, (by walk_at "bd"), rfl⟩)) (fun hk3 H3 e3 => ?_) (fun hk3 H3 e3 => ?_)
    · skip
      have r_p := r_p.ex e3
      have r_q := r_q.ex e3
      have x3 := x1.trans e3
      exact go_ret (ev_tup (ea_cons ev_str (ea_cons (ev_d 1 r_q) (ea_cons (ev_d 0 r_p) ea_nil)))) fun v H4 e4 rv => q v H4 (x3.trans e4) (by unfold gStretch; rw [if_neg hE, if_pos (by assumption)]; exact rv)
    · skip
      have r_p := r_p.ex e3
      have r_q := r_q.ex e3
      have x3 := x1.trans e3
      exact go_ret (ev_tup (ea_cons ev_str (ea_cons (ev_d 0 r_p) (ea_cons (ev_d 1 r_q) ea_nil)))) fun v H5 e5 rv => q v H5 (x3.trans e5) (by unfold gStretch; rw [if_neg hE, if_neg (by rw [Bool.not_eq_true]; assumption)]; exact rv)
def dom_lies_on : List PyData → PyData → Prop := fun ds r => ∃ (x : Piece) (p : Pt), ds = [dPc x, dP p] ∧ (liesPre x p) ∧ r = .bool (gLies x p)
theorem ok_lies_on (T : Tx P w K mg base) : C8.Cal P w K mg base 37 "lies_on" (spD K 2 dom_lies_on) [] := by
  refine cal_of T.d_lies_on sc_lies_on (fun vs H Q E h => h.1) fun f cdv A outer s H vs Q E hr h => ?_
  obtain ⟨_, ds, r, rs, ⟨x, p, rfl, p0, rfl⟩, q⟩ := h
  obtain ⟨v_piece, v_p, rfl, r_piece, r_p⟩ := inv2 rs
  cases x with
  | dot a =>
    refine go_yes (EvT.cast (et_eqS (ev_ix (ev_d 0 r_piece) ev_int) ev_str) (by decide)) (fun H1 e1 => ?_)
    have r_piece := r_piece.ex e1
    have r_p := r_p.ex e1
    have x1 := (ex_refl H).trans e1
    exact go_ret (ev_eq hr.units (ev_d 1 r_p) (ev_ix (ev_d 0 r_piece) ev_int) rfl rfl) fun v H2 e2 rv => q v H2 (x1.trans e2) (by rw [eqv_dP] at rv; exact rv)
  | str a b =>
    have p0 : hp a + hp b + hp p ≤ 10000000 := p0
    refine go_no (EvT.cast (et_eqS (ev_ix (ev_d 0 r_piece) ev_int) ev_str) (by decide)) (fun H3 e3 => ?_)
    have r_piece := r_piece.ex e3
    have r_p := r_p.ex e3
    have x3 := (ex_refl H).trans e3
    exact go_ret (ev_and (ev_eqI (ev_call (ok_side T) hr (ea_cons (ev_ix (ev_d 0 r_piece) ev_int) (ea_cons (ev_ix (ev_d 0 r_piece) ev_int) (ea_cons (ev_d 1 r_p) ea_nil))) ⟨_, _, _, rfl, (by walk_at "bd"), rfl⟩) ev_int) fun _ => (ev_and (ev_not (ev_call (ok_before T) hr (ea_cons (ev_d 1 r_p) (ea_cons (ev_ix (ev_d 0 r_piece) ev_int) ea_nil)) ⟨_, _, rfl, (by walk_at "bd"), rfl⟩)) fun _ => (ev_one (ev_not (ev_call (ok_before T) hr (ea_cons (ev_ix (ev_d 0 r_piece) ev_int) (ea_cons (ev_d 1 r_p) ea_nil)) ⟨_, _, rfl, (by walk_at "bd"), rfl⟩))))) fun v H4 e4 rv => q v H4 (x3.trans e4) (rv)
  | arc _ _ _ => exact p0.elim
  | ring _ _ => exact p0.elim
def dom_arc : List PyData → PyData → Prop := fun ds r => ∃ (c p q : Pt), ds = [dP c, dP p, dP q] ∧ (hp c + hp p + hp q ≤ 1000000) ∧ (gFar c p = gFar c q) ∧ (c ≠ p) ∧ r = dPc (gArc c p q)
theorem ok_arc (T : Tx P w K mg base) : C8.Cal P w K mg base 37 "arc" (spD K 3 dom_arc) [] := by
  refine cal_of T.d_arc sc_arc (fun vs H Q E h => h.1) fun f cdv A outer s H vs Q E hr h => ?_
  obtain ⟨_, ds, r, rs, ⟨c, p, q, rfl, p0, p1, p2, rfl⟩, q⟩ := h
  obtain ⟨v_c, v_p, v_q, rfl, r_c, r_p, r_q⟩ := inv3 rs
  refine go_when (et_w (ew_or (et_ne hr.units (ev_call (ok_far T) hr (ea_cons (ev_d 0 r_c) (ea_cons (ev_d 1 r_p) ea_nil)) ⟨_, _, rfl, (by walk_at "bd"), rfl⟩) (ev_call (ok_far T) hr (ea_cons (ev_d 0 r_c) (ea_cons (ev_d 2 r_q) ea_nil)) ⟨_, _, rfl, (by walk_at "bd"), rfl⟩) rfl rfl) fun _ => (ew_or1 (et_eq hr.units (ev_d 0 r_c) (ev_d 1 r_p) rfl rfl)))) (fun hk1 H1 e1 => ?_) (fun hk1 H1 e1 => ?_)
  · skip
    have r_c := r_c.ex e1
    have r_p := r_p.ex e1
    have r_q := r_q.ex e1
    have x1 := (ex_refl H).trans e1
    rw [eqv_dQ, eqv_dP, decide_eq_true p1, decide_eq_false p2] at hk1
    exact absurd hk1 (by decide)
  · skip
    have r_c := r_c.ex e1
    have r_p := r_p.ex e1
    have r_q := r_q.ex e1
    have x1 := (ex_refl H).trans e1
    refine go_when (et_eq hr.units (ev_d 1 r_p) (ev_d 2 r_q) rfl rfl) (fun hk2 H2 e2 => ?_) (fun hk2 H2 e2 => ?_)
    · skip
      have r_c := r_c.ex e2
      have r_p := r_p.ex e2
      have r_q := r_q.ex e2
      have x2 := x1.trans e2
      rw [eqv_dP] at hk2
      have hE := of_decide_eq_true hk2
      exact go_ret (ev_tup (ea_cons ev_str (ea_cons (ev_d 0 r_c) (ea_cons (ev_d 1 r_p) ea_nil)))) fun v H3 e3 rv => q v H3 (x2.trans e3) (by unfold gArc; rw [if_pos hE]; exact rv)
    · skip
      have r_c := r_c.ex e2
      have r_p := r_p.ex e2
      have r_q := r_q.ex e2
      have x2 := x1.trans e2
      rw [eqv_dP] at hk2
      have hE := of_decide_eq_false hk2
      exact go_ret (ev_tup (ea_cons ev_str (ea_cons (ev_d 0 r_c) (ea_cons (ev_d 1 r_p) (ea_cons (ev_d 2 r_q) ea_nil))))) fun v H4 e4 rv => q v H4 (x2.trans e4) (by unfold gArc; rw [if_neg hE]; exact rv)
def dom_quarter_of : List PyData → PyData → Prop := fun ds r => ∃ (o w : Pt), ds = [dP o, dP w] ∧ (hp o + hp w ≤ 20000000) ∧ r = .int (gQuart o w)
theorem ok_quarter_of (T : Tx P w K mg base) : C8.Cal P w K mg base 36 "quarter_of" (spD K 2 dom_quarter_of) [] := by
  refine cal_of T.d_quarter_of sc_quarter_of (fun vs H Q E h => h.1) fun f cdv A outer s H vs Q E hr h => ?_
  obtain ⟨_, ds, r, rs, ⟨o, w, rfl, p0, rfl⟩, q⟩ := h
  obtain ⟨v_one, v_other, rfl, r_one, r_other⟩ := inv2 rs
  refine go_asg 2 (ev_call (ok_sign_of T) hr (ea_cons (ev_call (ok_along T) hr (ea_cons (ev_d 0 r_one) (ea_cons (ev_d 1 r_other) ea_nil)) ⟨_, _, rfl, (by walk_at "bd"), rfl⟩) ea_nil) ⟨_, rfl, rfl⟩) (fun v_straight H1 e1 r_straight => ?_) sc_quarter_of.nd
  have r_one := r_one.ex e1
  have r_other := r_other.ex e1
  have x1 := (ex_refl H).trans e1
  refine go_asg 3 (ev_call (ok_sign_of T) hr (ea_cons (ev_call (ok_across T) hr (ea_cons (ev_d 0 r_one) (ea_cons (ev_d 1 r_other) ea_nil)) ⟨_, _, rfl, (by walk_at "bd"), rfl⟩) ea_nil) ⟨_, rfl, rfl⟩) (fun v_left H2 e2 r_left => ?_) sc_quarter_of.nd
  have r_one := r_one.ex e2
  have r_other := r_other.ex e2
  have r_straight := r_straight.ex e2
  have x2 := x1.trans e2
  refine go_when (et_w (ew_and (et_gt (ev_d 2 r_straight) ev_int) fun _ => (ew_and1 (et_ge (ev_d 3 r_left) ev_int)))) (fun hk3 H3 e3 => ?_) (fun hk3 H3 e3 => ?_)
  · skip
    have r_one := r_one.ex e3
    have r_other := r_other.ex e3
    have r_straight := r_straight.ex e3
    have r_left := r_left.ex e3
    have x3 := x2.trans e3
    exact go_ret ev_int fun v H4 e4 rv => q v H4 (x3.trans e4) (by unfold gQuart; rw [if_pos (by assumption)]; exact rv)
  · skip
    have r_one := r_one.ex e3
    have r_other := r_other.ex e3
    have r_straight := r_straight.ex e3
    have r_left := r_left.ex e3
    have x3 := x2.trans e3
    refine go_when (et_gt (ev_d 3 r_left) ev_int) (fun hk5 H5 e5 => ?_) (fun hk5 H5 e5 => ?_)
    · skip
      have r_one := r_one.ex e5
      have r_other := r_other.ex e5
      have r_straight := r_straight.ex e5
      have r_left := r_left.ex e5
      have x5 := x3.trans e5
      exact go_ret ev_int fun v H6 e6 rv => q v H6 (x5.trans e6) (by unfold gQuart; rw [if_neg (by rw [Bool.not_eq_true]; assumption), if_pos (of_decide_eq_true (by assumption))]; exact rv)
    · skip
      have r_one := r_one.ex e5
      have r_other := r_other.ex e5
      have r_straight := r_straight.ex e5
      have r_left := r_left.ex e5
      have x5 := x3.trans e5
      refine go_when (et_lt (ev_d 2 r_straight) ev_int) (fun hk7 H7 e7 => ?_) (fun hk7 H7 e7 => ?_)
      · skip
        have r_one := r_one.ex e7
        have r_other := r_other.ex e7
        have r_straight := r_straight.ex e7
        have r_left := r_left.ex e7
        have x7 := x5.trans e7
        exact go_ret ev_int fun v H8 e8 rv => q v H8 (x7.trans e8) (by unfold gQuart; rw [if_neg (by rw [Bool.not_eq_true]; assumption), if_neg (of_decide_eq_false (by assumption)), if_pos (of_decide_eq_true (by assumption))]; exact rv)
      · skip
        have r_one := r_one.ex e7
        have r_other := r_other.ex e7
        have r_straight := r_straight.ex e7
        have r_left := r_left.ex e7
        have x7 := x5.trans e7
        exact go_ret ev_int fun v H9 e9 rv => q v H9 (x7.trans e9) (by unfold gQuart; rw [if_neg (by rw [Bool.not_eq_true]; assumption), if_neg (of_decide_eq_false (by assumption)), if_neg (of_decide_eq_false (by assumption))]; exact rv)
def dom_ahead : List PyData → PyData → Prop := fun ds r => ∃ (c a p q : Pt), ds = [dP c, dP a, dP p, dP q] ∧ (hp c + hp a + hp p + hp q ≤ 9000000) ∧ r = .bool (gAhead c a p q)
theorem ok_ahead (T : Tx P w K mg base) : C8.Cal P w K mg base 37 "ahead" (spD K 4 dom_ahead) [] := by
  refine cal_of T.d_ahead sc_ahead (fun vs H Q E h => h.1) fun f cdv A outer s H vs Q E hr h => ?_
  obtain ⟨_, ds, r, rs, ⟨c, a, p, q, rfl, p0, rfl⟩, q⟩ := h
  obtain ⟨v_c, v_a, v_p, v_q, rfl, r_c, r_a, r_p, r_q⟩ := inv4 rs
  refine go_asg 4 (ev_call (ok_off T) hr (ea_cons (ev_d 1 r_a) (ea_cons (ev_d 0 r_c) ea_nil)) ⟨_, _, rfl, (by walk_at "bd"), rfl⟩) (fun v_start H1 e1 r_start => ?_) sc_ahead.nd
  have r_c := r_c.ex e1
  have r_a := r_a.ex e1
  have r_p := r_p.ex e1
  have r_q := r_q.ex e1
  have x1 := (ex_refl H).trans e1
  refine go_asg 5 (ev_call (ok_off T) hr (ea_cons (ev_d 2 r_p) (ea_cons (ev_d 0 r_c) ea_nil)) ⟨_, _, rfl, (by walk_at "bd"), rfl⟩) (fun v_one H2 e2 r_one => ?_) sc_ahead.nd
  have r_c := r_c.ex e2
  have r_a := r_a.ex e2
  have r_p := r_p.ex e2
  have r_q := r_q.ex e2
  have r_start := r_start.ex e2
  have x2 := x1.trans e2
  refine go_asg 6 (ev_call (ok_off T) hr (ea_cons (ev_d 3 r_q) (ea_cons (ev_d 0 r_c) ea_nil)) ⟨_, _, rfl, (by walk_at "bd"), rfl⟩) (fun v_other H3 e3 r_other => ?_) sc_ahead.nd
  have r_c := r_c.ex e3
  have r_a := r_a.ex e3
  have r_p := r_p.ex e3
  have r_q := r_q.ex e3
  have r_start := r_start.ex e3
  have r_one := r_one.ex e3
  have x3 := x2.trans e3
  refine go_asg 7 (ev_call (ok_quarter_of T) hr (ea_cons (ev_d 4 r_start) (ea_cons (ev_d 5 r_one) ea_nil)) ⟨_, _, rfl, (by walk_at "bd"), rfl⟩) (fun v_here H4 e4 r_here => ?_) sc_ahead.nd
  have r_c := r_c.ex e4
  have r_a := r_a.ex e4
  have r_p := r_p.ex e4
  have r_q := r_q.ex e4
  have r_start := r_start.ex e4
  have r_one := r_one.ex e4
  have r_other := r_other.ex e4
  have x4 := x3.trans e4
  refine go_asg 8 (ev_call (ok_quarter_of T) hr (ea_cons (ev_d 4 r_start) (ea_cons (ev_d 6 r_other) ea_nil)) ⟨_, _, rfl, (by walk_at "bd"), rfl⟩) (fun v_there H5 e5 r_there => ?_) sc_ahead.nd
  have r_c := r_c.ex e5
  have r_a := r_a.ex e5
  have r_p := r_p.ex e5
  have r_q := r_q.ex e5
  have r_start := r_start.ex e5
  have r_one := r_one.ex e5
  have r_other := r_other.ex e5
  have r_here := r_here.ex e5
  have x5 := x4.trans e5
  refine go_when (et_neI (ev_d 7 r_here) (ev_d 8 r_there)) (fun hk6 H6 e6 => ?_) (fun hk6 H6 e6 => ?_)
  · skip
    have r_c := r_c.ex e6
    have r_a := r_a.ex e6
    have r_p := r_p.ex e6
    have r_q := r_q.ex e6
    have r_start := r_start.ex e6
    have r_one := r_one.ex e6
    have r_other := r_other.ex e6
    have r_here := r_here.ex e6
    have r_there := r_there.ex e6
    have x6 := x5.trans e6
    have hk6 := of_decide_eq_false (nbT hk6)
    exact go_ret (ev_lt (ev_d 7 r_here) (ev_d 8 r_there)) fun v H7 e7 rv => q v H7 (x6.trans e7) (by unfold gAhead; rw [if_neg (by assumption)]; exact rv)
  · skip
    have r_c := r_c.ex e6
    have r_a := r_a.ex e6
    have r_p := r_p.ex e6
    have r_q := r_q.ex e6
    have r_start := r_start.ex e6
    have r_one := r_one.ex e6
    have r_other := r_other.ex e6
    have r_here := r_here.ex e6
    have r_there := r_there.ex e6
    have x6 := x5.trans e6
    have hk6 := of_decide_eq_true (nbF hk6)
    exact go_ret (ev_gt (ev_ix (ev_call (ok_across T) hr (ea_cons (ev_d 5 r_one) (ea_cons (ev_d 6 r_other) ea_nil)) ⟨_, _, rfl, (by walk_at "bd"), rfl⟩) ev_int) ev_int) fun v H8 e8 rv => q v H8 (x6.trans e8) (by unfold gAhead; rw [if_pos (by assumption)]; exact rv)
def dom_on : List PyData → PyData → Prop := fun ds r => ∃ (x : Piece) (p : Pt), ds = [dPc x, dP p] ∧ (onPre x p) ∧ r = .bool (gOn x p)
theorem ok_on (T : Tx P w K mg base) : C8.Cal P w K mg base 38 "on" (spD K 2 dom_on) [] := by
  refine cal_of T.d_on sc_on (fun vs H Q E h => h.1) fun f cdv A outer s H vs Q E hr h => ?_
  obtain ⟨_, ds, r, rs, ⟨x, p, rfl, p0, rfl⟩, q⟩ := h
  obtain ⟨v_piece, v_p, rfl, r_piece, r_p⟩ := inv2 rs
  cases x with
  | dot a =>
    have p0 : hp a + hp p ≤ 10000000 := p0
    refine go_yes (EvT.cast (et_w (ew_or (et_eqS (ev_ix (ev_d 0 r_piece) ev_int) ev_str) fun _ => (ew_or1 (et_eqS (ev_ix (ev_d 0 r_piece) ev_int) ev_str)))) (by decide)) (fun H1 e1 => ?_)
    have r_piece := r_piece.ex e1
    have r_p := r_p.ex e1
    have x1 := (ex_refl H).trans e1
    exact go_ret (ev_call (ok_lies_on T) hr (ea_cons (ev_d 0 r_piece) (ea_cons (ev_d 1 r_p) ea_nil)) ⟨.dot a, p, rfl, p0, rfl⟩) fun v H2 e2 rv => q v H2 (x1.trans e2) (rv)
  | str a b =>
    have p0 : hp a + hp b + hp p ≤ 10000000 := p0
    refine go_yes (EvT.cast (et_w (ew_or (et_eqS (ev_ix (ev_d 0 r_piece) ev_int) ev_str) fun _ => (ew_or1 (et_eqS (ev_ix (ev_d 0 r_piece) ev_int) ev_str)))) (by decide)) (fun H3 e3 => ?_)
    have r_piece := r_piece.ex e3
    have r_p := r_p.ex e3
    have x3 := (ex_refl H).trans e3
    exact go_ret (ev_call (ok_lies_on T) hr (ea_cons (ev_d 0 r_piece) (ea_cons (ev_d 1 r_p) ea_nil)) ⟨.str a b, p, rfl, p0, rfl⟩) fun v H4 e4 rv => q v H4 (x3.trans e4) (rv)
  | arc c a b =>
    have p0 : hp c + hp a + hp b + hp p ≤ 8000000 := p0
    refine go_no (EvT.cast (et_w (ew_or (et_eqS (ev_ix (ev_d 0 r_piece) ev_int) ev_str) fun _ => (ew_or1 (et_eqS (ev_ix (ev_d 0 r_piece) ev_int) ev_str)))) (by decide)) (fun H5 e5 => ?_)
    have r_piece := r_piece.ex e5
    have r_p := r_p.ex e5
    have x5 := (ex_refl H).trans e5
    refine go_asg 2 (ev_ix (ev_d 0 r_piece) ev_int) (fun v_c H6 e6 r_c => ?_) sc_on.nd
    have r_piece := r_piece.ex e6
    have r_p := r_p.ex e6
    have x6 := x5.trans e6
    refine go_when (et_ne hr.units (ev_call (ok_far T) hr (ea_cons (ev_d 2 r_c) (ea_cons (ev_d 1 r_p) ea_nil)) ⟨_, _, rfl, (by walk_at "bd"), rfl⟩) (ev_call (ok_far T) hr (ea_cons (ev_d 2 r_c) (ea_cons (ev_ix (ev_d 0 r_piece) ev_int) ea_nil)) ⟨_, _, rfl, (by walk_at "bd"), rfl⟩) rfl rfl) (fun hk7 H7 e7 => ?_) (fun hk7 H7 e7 => ?_)
    · skip
      have r_piece := r_piece.ex e7
      have r_p := r_p.ex e7
      have r_c := r_c.ex e7
      have x7 := x6.trans e7
      rw [eqv_dQ] at hk7
      have hF := of_decide_eq_false (nbT hk7)
      exact go_ret ev_bl fun v H8 e8 rv => q v H8 (x7.trans e8) (by rw [gOn_arc, decide_eq_false hF]; exact rv)
    · skip
      have r_piece := r_piece.ex e7
      have r_p := r_p.ex e7
      have r_c := r_c.ex e7
      have x7 := x6.trans e7
      rw [eqv_dQ] at hk7
      have hF := of_decide_eq_true (nbF hk7)
      refine go_when (et_w (ew_or (et_eqS (ev_ix (ev_d 0 r_piece) ev_int) ev_str) fun _ => (ew_or (et_eq hr.units (ev_d 1 r_p) (ev_ix (ev_d 0 r_piece) ev_int) rfl rfl) fun _ => (ew_or1 (et_eq hr.units (ev_d 1 r_p) (ev_ix (ev_d 0 r_piece) ev_int) rfl rfl))))) (fun hk9 H9 e9 => ?_) (fun hk9 H9 e9 => ?_)
      · skip
        have r_piece := r_piece.ex e9
        have r_p := r_p.ex e9
        have r_c := r_c.ex e9
        have x9 := x7.trans e9
        rw [eqv_dP, eqv_dP] at hk9
        have hOr : (decide (p = a) || decide (p = b)) = true := hk9
        exact go_ret ev_bl fun v H10 e10 rv => q v H10 (x9.trans e10) (by rw [gOn_arc, decide_eq_true hF, Bool.true_and, ← Bool.or_assoc, (show (decide (p = a) || decide (p = b)) = true from hOr), Bool.true_or]; exact rv)
      · skip
        have r_piece := r_piece.ex e9
        have r_p := r_p.ex e9
        have r_c := r_c.ex e9
        have x9 := x7.trans e9
        rw [eqv_dP, eqv_dP] at hk9
        have hOr : (decide (p = a) || decide (p = b)) = false := hk9
        exact go_ret (ev_call (ok_ahead T) hr (ea_cons (ev_d 2 r_c) (ea_cons (ev_ix (ev_d 0 r_piece) ev_int) (ea_cons (ev_d 1 r_p) (ea_cons (ev_ix (ev_d 0 r_piece) ev_int) ea_nil)))) ⟨_, _, _, _, rfl, (by walk_at "bd"), rfl⟩) fun v H11 e11 rv => q v H11 (x9.trans e11) (by rw [gOn_arc, decide_eq_true hF, Bool.true_and, ← Bool.or_assoc, (show (decide (p = a) || decide (p = b)) = false from hOr), Bool.false_or]; exact rv)
  | ring c a =>
    have p0 : hp c + hp a + hp p ≤ 8000000 := p0
    refine go_no (EvT.cast (et_w (ew_or (et_eqS (ev_ix (ev_d 0 r_piece) ev_int) ev_str) fun _ => (ew_or1 (et_eqS (ev_ix (ev_d 0 r_piece) ev_int) ev_str)))) (by decide)) (fun H12 e12 => ?_)
    have r_piece := r_piece.ex e12
    have r_p := r_p.ex e12
    have x12 := (ex_refl H).trans e12
    refine go_asg 2 (ev_ix (ev_d 0 r_piece) ev_int) (fun v_c H13 e13 r_c => ?_) sc_on.nd
    have r_piece := r_piece.ex e13
    have r_p := r_p.ex e13
    have x13 := x12.trans e13
    refine go_when (et_ne hr.units (ev_call (ok_far T) hr (ea_cons (ev_d 2 r_c) (ea_cons (ev_d 1 r_p) ea_nil)) ⟨_, _, rfl, (by walk_at "bd"), rfl⟩) (ev_call (ok_far T) hr (ea_cons (ev_d 2 r_c) (ea_cons (ev_ix (ev_d 0 r_piece) ev_int) ea_nil)) ⟨_, _, rfl, (by walk_at "bd"), rfl⟩) rfl rfl) (fun hk14 H14 e14 => ?_) (fun hk14 H14 e14 => ?_)
    · skip
      have r_piece := r_piece.ex e14
      have r_p := r_p.ex e14
      have r_c := r_c.ex e14
      have x14 := x13.trans e14
      rw [eqv_dQ] at hk14
      have hF := of_decide_eq_false (nbT hk14)
      exact go_ret ev_bl fun v H15 e15 rv => q v H15 (x14.trans e15) (by rw [gOn_ring, decide_eq_false hF]; exact rv)
    · skip
      have r_piece := r_piece.ex e14
      have r_p := r_p.ex e14
      have r_c := r_c.ex e14
      have x14 := x13.trans e14
      rw [eqv_dQ] at hk14
      have hF := of_decide_eq_true (nbF hk14)
      refine go_yes (EvT.cast (et_w (ew_or (l := false) (et_eqS (ev_ix (ev_d 0 r_piece) ev_int) ev_str) fun hz => absurd hz (by decide))) (by decide)) (fun H16 e16 => ?_)
      have r_piece := r_piece.ex e16
      have r_p := r_p.ex e16
      have r_c := r_c.ex e16
      have x16 := x14.trans e16
      exact go_ret ev_bl fun v H17 e17 rv => q v H17 (x16.trans e17) (by rw [gOn_ring, decide_eq_true hF]; exact rv)
def dom_at_share : List PyData → PyData → Prop := fun ds r => ∃ (c a : Pt) (t : Rat), ds = [dP c, dP a, dQ t] ∧ (hp c + hp a + ht t ≤ 1000000) ∧ r = dP (gAt c a t)
theorem ok_at_share (T : Tx P w K mg base) : C8.Cal P w K mg base 36 "at_share" (spD K 3 dom_at_share) [] := by
  refine cal_of T.d_at_share sc_at_share (fun vs H Q E h => h.1) fun f cdv A outer s H vs Q E hr h => ?_
  obtain ⟨_, ds, r, rs, ⟨c, a, t, rfl, p0, rfl⟩, q⟩ := h
  obtain ⟨v_c, v_a, v_t, rfl, r_c, r_a, r_t⟩ := inv3 rs
  have b0 := ht_one
  have b1 := ht_mul t t
  have b2 := ht_add 1 (t * t)
  have b3 := ht_sub 1 (t * t)
  have b4 := ht_add t t
  have b5 := ht_U t
  have b6 := ht_V t
  have b7 := hp_off a c
  have b8 := ht_1 (gOff a c)
  have b9 := ht_2 (gOff a c)
  have w1 := ht_mul (gU t) (gOff a c).1
  have w2 := ht_mul (gV t) (gOff a c).2
  have w3 := ht_mul (gV t) (gOff a c).1
  have w4 := ht_mul (gU t) (gOff a c).2
  have w5 := ht_sub (gU t * (gOff a c).1) (gV t * (gOff a c).2)
  have w6 := ht_add (gV t * (gOff a c).1) (gU t * (gOff a c).2)
  have w7 := hp_mk (gU t * (gOff a c).1 - gV t * (gOff a c).2) (gV t * (gOff a c).1 + gU t * (gOff a c).2)
  refine go_asg 3 (ev_call (ok_times T) hr (ea_cons (ev_d 2 r_t) (ea_cons (ev_d 2 r_t) ea_nil)) ⟨_, _, rfl, (by walk_at "bd"), rfl⟩) (fun v_square H1 e1 r_square => ?_) sc_at_share.nd
  have r_c := r_c.ex e1
  have r_a := r_a.ex e1
  have r_t := r_t.ex e1
  have x1 := (ex_refl H).trans e1
  refine go_asg 4 (ev_call (ok_plus T) hr (ea_cons ev_q11 (ea_cons (ev_d 3 r_square) ea_nil)) ⟨_, _, rfl, (by walk_at "bd"), rfl⟩) (fun v_whole H2 e2 r_whole => ?_) sc_at_share.nd
  have r_c := r_c.ex e2
  have r_a := r_a.ex e2
  have r_t := r_t.ex e2
  have r_square := r_square.ex e2
  have x2 := x1.trans e2
  refine go_asg 5 (ev_call (ok_over T) hr (ea_cons (ev_call (ok_minus T) hr (ea_cons ev_q11 (ea_cons (ev_d 3 r_square) ea_nil)) ⟨_, _, rfl, (by walk_at "bd"), rfl⟩) (ea_cons (ev_d 4 r_whole) ea_nil)) ⟨_, _, rfl, (by omega), one_sq_ne t, rfl⟩) (fun v_u H3 e3 r_u => ?_) sc_at_share.nd
  have r_c := r_c.ex e3
  have r_a := r_a.ex e3
  have r_t := r_t.ex e3
  have r_square := r_square.ex e3
  have r_whole := r_whole.ex e3
  have x3 := x2.trans e3
  refine go_asg 6 (ev_call (ok_over T) hr (ea_cons (ev_call (ok_plus T) hr (ea_cons (ev_d 2 r_t) (ea_cons (ev_d 2 r_t) ea_nil)) ⟨_, _, rfl, (by walk_at "bd"), rfl⟩) (ea_cons (ev_d 4 r_whole) ea_nil)) ⟨_, _, rfl, (by omega), one_sq_ne t, rfl⟩) (fun v_v H4 e4 r_v => ?_) sc_at_share.nd
  have r_c := r_c.ex e4
  have r_a := r_a.ex e4
  have r_t := r_t.ex e4
  have r_square := r_square.ex e4
  have r_whole := r_whole.ex e4
  have r_u := r_u.ex e4
  have x4 := x3.trans e4
  refine go_unp [7, 8] (ev_call (ok_off T) hr (ea_cons (ev_d 1 r_a) (ea_cons (ev_d 0 r_c) ea_nil)) ⟨_, _, rfl, (by walk_at "bd"), rfl⟩) rfl sc_at_share.nd (nm_cons 7 (nm_cons 8 NmAt.nil)) (fun vs5 H5 e5 rs5 => ?_)
  obtain ⟨v_x, v_y, rfl, r_x, r_y⟩ := inv2 rs5
  have r_c := r_c.ex e5
  have r_a := r_a.ex e5
  have r_t := r_t.ex e5
  have r_square := r_square.ex e5
  have r_whole := r_whole.ex e5
  have r_u := r_u.ex e5
  have r_v := r_v.ex e5
  have x5 := x4.trans e5
  exact go_ret (ev_call (ok_together T) hr (ea_cons (ev_d 0 r_c) (ea_cons (ev_tup (ea_cons (ev_call (ok_minus T) hr (ea_cons (ev_call (ok_times T) hr (ea_cons (ev_d 5 (show Rp K _ v_u (dQ (gU t)) from r_u)) (ea_cons (ev_d 7 r_x) ea_nil)) ⟨_, _, rfl, (by walk_at "bd"), rfl⟩) (ea_cons (ev_call (ok_times T) hr (ea_cons (ev_d 6 (show Rp K _ v_v (dQ (gV t)) from r_v)) (ea_cons (ev_d 8 r_y) ea_nil)) ⟨_, _, rfl, (by walk_at "bd"), rfl⟩) ea_nil)) ⟨_, _, rfl, (by walk_at "bd"), rfl⟩) (ea_cons (ev_call (ok_plus T) hr (ea_cons (ev_call (ok_times T) hr (ea_cons (ev_d 6 (show Rp K _ v_v (dQ (gV t)) from r_v)) (ea_cons (ev_d 7 r_x) ea_nil)) ⟨_, _, rfl, (by walk_at "bd"), rfl⟩) (ea_cons (ev_call (ok_times T) hr (ea_cons (ev_d 5 (show Rp K _ v_u (dQ (gU t)) from r_u)) (ea_cons (ev_d 8 r_y) ea_nil)) ⟨_, _, rfl, (by walk_at "bd"), rfl⟩) ea_nil)) ⟨_, _, rfl, (by walk_at "bd"), rfl⟩) ea_nil))) ea_nil)) ⟨_, _, rfl, (by walk_at "bd"), rfl⟩) fun v H6 e6 rv => q v H6 (x5.trans e6) (rv)
def dom_share_of : List PyData → PyData → Prop := fun ds r => ∃ (c a p : Pt), ds = [dP c, dP a, dP p] ∧ (hp c + hp a + hp p ≤ 1000000) ∧ (gWhole c a p ≠ 0) ∧ r = dQ (gShare c a p)
theorem ok_share_of (T : Tx P w K mg base) : C8.Cal P w K mg base 36 "share_of" (spD K 3 dom_share_of) [] := by
  refine cal_of T.d_share_of sc_share_of (fun vs H Q E h => h.1) fun f cdv A outer s H vs Q E hr h => ?_
  obtain ⟨_, ds, r, rs, ⟨c, a, p, rfl, p0, p1, rfl⟩, q⟩ := h
  obtain ⟨v_c, v_a, v_p, rfl, r_c, r_a, r_p⟩ := inv3 rs
  have b0 := hp_off a c
  have b1 := hp_off p c
  have b2 := ht_along (gOff a c) (gOff a c)
  have b3 := ht_along (gOff a c) (gOff p c)
  have b4 := ht_across (gOff a c) (gOff p c)
  have b5 := ht_whole c a p
  refine go_asg 3 (ev_call (ok_off T) hr (ea_cons (ev_d 1 r_a) (ea_cons (ev_d 0 r_c) ea_nil)) ⟨_, _, rfl, (by walk_at "bd"), rfl⟩) (fun v_start H1 e1 r_start => ?_) sc_share_of.nd
  have r_c := r_c.ex e1
  have r_a := r_a.ex e1
  have r_p := r_p.ex e1
  have x1 := (ex_refl H).trans e1
  refine go_asg 4 (ev_call (ok_off T) hr (ea_cons (ev_d 2 r_p) (ea_cons (ev_d 0 r_c) ea_nil)) ⟨_, _, rfl, (by walk_at "bd"), rfl⟩) (fun v_way H2 e2 r_way => ?_) sc_share_of.nd
  have r_c := r_c.ex e2
  have r_a := r_a.ex e2
  have r_p := r_p.ex e2
  have r_start := r_start.ex e2
  have x2 := x1.trans e2
  refine go_asg 5 (ev_call (ok_plus T) hr (ea_cons (ev_call (ok_along T) hr (ea_cons (ev_d 3 r_start) (ea_cons (ev_d 3 r_start) ea_nil)) ⟨_, _, rfl, (by walk_at "bd"), rfl⟩) (ea_cons (ev_call (ok_along T) hr (ea_cons (ev_d 3 r_start) (ea_cons (ev_d 4 r_way) ea_nil)) ⟨_, _, rfl, (by walk_at "bd"), rfl⟩) ea_nil)) ⟨_, _, rfl, (by walk_at "bd"), rfl⟩) (fun v_whole H3 e3 r_whole => ?_) sc_share_of.nd
  have r_c := r_c.ex e3
  have r_a := r_a.ex e3
  have r_p := r_p.ex e3
  have r_start := r_start.ex e3
  have r_way := r_way.ex e3
  have x3 := x2.trans e3
  refine go_when (et_eqI (ev_ix (ev_d 5 (show Rp K _ v_whole (dQ (gWhole c a p)) from r_whole)) ev_int) ev_int) (fun hk4 H4 e4 => ?_) (fun hk4 H4 e4 => ?_)
  · skip
    have r_c := r_c.ex e4
    have r_a := r_a.ex e4
    have r_p := r_p.ex e4
    have r_start := r_start.ex e4
    have r_way := r_way.ex e4
    have r_whole := r_whole.ex e4
    have x4 := x3.trans e4
    exact absurd (of_decide_eq_true hk4) (num_ne p1)
  · skip
    have r_c := r_c.ex e4
    have r_a := r_a.ex e4
    have r_p := r_p.ex e4
    have r_start := r_start.ex e4
    have r_way := r_way.ex e4
    have r_whole := r_whole.ex e4
    have x4 := x3.trans e4
    exact go_ret (ev_call (ok_over T) hr (ea_cons (ev_call (ok_across T) hr (ea_cons (ev_d 3 r_start) (ea_cons (ev_d 4 r_way) ea_nil)) ⟨_, _, rfl, (by walk_at "bd"), rfl⟩) (ea_cons (ev_d 5 (show Rp K _ v_whole (dQ (gWhole c a p)) from r_whole)) ea_nil)) ⟨_, _, rfl, (by omega), p1, rfl⟩) fun v H5 e5 rv => q v H5 (x4.trans e5) (rv)
def dom_piece_of : List PyData → PyData → Prop := fun ds r => ∃ (l : Leg), ds = [dL l] ∧ (LegOk l) ∧ (pcPre l) ∧ r = dPc (gPiece l)
theorem ok_piece_of (T : Tx P w K mg base) : C8.Cal P w K mg base 38 "piece_of" (spD K 1 dom_piece_of) [] := by
  refine cal_of T.d_piece_of sc_piece_of (fun vs H Q E h => h.1) fun f cdv A outer s H vs Q E hr h => ?_
  obtain ⟨_, ds, r, rs, ⟨l, rfl, p0, p1, rfl⟩, q⟩ := h
  obtain ⟨v_leg, rfl, r_leg⟩ := inv1 rs
  cases l with
  | str a b =>
    have p1 : hp a + hp b ≤ 9000000 := p1
    refine go_yes (EvT.cast (et_eqS (ev_ix (ev_d 0 r_leg) ev_int) ev_str) (by decide)) (fun H1 e1 => ?_)
    have r_leg := r_leg.ex e1
    have x1 := (ex_refl H).trans e1
    exact go_ret (ev_call (ok_stretch T) hr (ea_cons (ev_ix (ev_d 0 r_leg) ev_int) (ea_cons (ev_ix (ev_d 0 r_leg) ev_int) ea_nil)) ⟨_, _, rfl, (by walk_at "bd"), rfl⟩) fun v H2 e2 rv => q v H2 (x1.trans e2) (rv)
  | bend c a b way =>
    have p1 : hp c + hp a + hp b ≤ 1000000 := p1
    obtain ⟨l1, l2, l3, l4⟩ := p0
    refine go_no (EvT.cast (et_eqS (ev_ix (ev_d 0 r_leg) ev_int) ev_str) (by decide)) (fun H3 e3 => ?_)
    have r_leg := r_leg.ex e3
    have x3 := (ex_refl H).trans e3
    refine go_when (et_gt (ev_ix (ev_d 0 r_leg) ev_int) ev_int) (fun hk4 H4 e4 => ?_) (fun hk4 H4 e4 => ?_)
    · skip
      have r_leg := r_leg.ex e4
      have x4 := x3.trans e4
      have hk4 := of_decide_eq_true hk4
      exact go_ret (ev_call (ok_arc T) hr (ea_cons (ev_ix (ev_d 0 r_leg) ev_int) (ea_cons (ev_ix (ev_d 0 r_leg) ev_int) (ea_cons (ev_ix (ev_d 0 r_leg) ev_int) ea_nil))) ⟨_, _, _, rfl, (by omega), l1, l2, rfl⟩) fun v H5 e5 rv => q v H5 (x4.trans e5) (by rw [gPiece_bend, if_pos (by assumption)]; exact rv)
    · skip
      have r_leg := r_leg.ex e4
      have x4 := x3.trans e4
      have hk4 := of_decide_eq_false hk4
      exact go_ret (ev_call (ok_arc T) hr (ea_cons (ev_ix (ev_d 0 r_leg) ev_int) (ea_cons (ev_ix (ev_d 0 r_leg) ev_int) (ea_cons (ev_ix (ev_d 0 r_leg) ev_int) ea_nil))) ⟨_, _, _, rfl, (by omega), l1.symm, l3, rfl⟩) fun v H6 e6 rv => q v H6 (x4.trans e6) (by rw [gPiece_bend, if_neg (by assumption)]; exact rv)
def dom_begin_of : List PyData → PyData → Prop := fun ds r => ∃ (l : Leg), ds = [dL l] ∧ r = dP (gBegin l)
theorem ok_begin_of (T : Tx P w K mg base) : C8.Cal P w K mg base 1 "begin_of" (spD K 1 dom_begin_of) [] := by
  refine cal_of T.d_begin_of sc_begin_of (fun vs H Q E h => h.1) fun f cdv A outer s H vs Q E hr h => ?_
  obtain ⟨_, ds, r, rs, ⟨l, rfl, rfl⟩, q⟩ := h
  obtain ⟨v_leg, rfl, r_leg⟩ := inv1 rs
  cases l with
  | str a b =>
    refine go_yes (EvT.cast (et_eqS (ev_ix (ev_d 0 r_leg) ev_int) ev_str) (by decide)) (fun H1 e1 => ?_)
    have r_leg := r_leg.ex e1
    have x1 := (ex_refl H).trans e1
    exact go_ret (ev_ix (ev_d 0 r_leg) ev_int) fun v H2 e2 rv => q v H2 (x1.trans e2) (rv)
  | bend c a b way =>
    refine go_no (EvT.cast (et_eqS (ev_ix (ev_d 0 r_leg) ev_int) ev_str) (by decide)) (fun H3 e3 => ?_)
    have r_leg := r_leg.ex e3
    have x3 := (ex_refl H).trans e3
    exact go_ret (ev_ix (ev_d 0 r_leg) ev_int) fun v H4 e4 rv => q v H4 (x3.trans e4) (rv)
def dom_end_of : List PyData → PyData → Prop := fun ds r => ∃ (l : Leg), ds = [dL l] ∧ r = dP (gEnd l)
theorem ok_end_of (T : Tx P w K mg base) : C8.Cal P w K mg base 1 "end_of" (spD K 1 dom_end_of) [] := by
  refine cal_of T.d_end_of sc_end_of (fun vs H Q E h => h.1) fun f cdv A outer s H vs Q E hr h => ?_
  obtain ⟨_, ds, r, rs, ⟨l, rfl, rfl⟩, q⟩ := h
  obtain ⟨v_leg, rfl, r_leg⟩ := inv1 rs
  cases l with
  | str a b =>
    refine go_yes (EvT.cast (et_eqS (ev_ix (ev_d 0 r_leg) ev_int) ev_str) (by decide)) (fun H1 e1 => ?_)
    have r_leg := r_leg.ex e1
    have x1 := (ex_refl H).trans e1
    exact go_ret (ev_ix (ev_d 0 r_leg) ev_int) fun v H2 e2 rv => q v H2 (x1.trans e2) (rv)
  | bend c a b way =>
    refine go_no (EvT.cast (et_eqS (ev_ix (ev_d 0 r_leg) ev_int) ev_str) (by decide)) (fun H3 e3 => ?_)
    have r_leg := r_leg.ex e3
    have x3 := (ex_refl H).trans e3
    exact go_ret (ev_ix (ev_d 0 r_leg) ev_int) fun v H4 e4 rv => q v H4 (x3.trans e4) (rv)
def dom_passed : List PyData → PyData → Prop := fun ds r => ∃ (a b p : Pt), ds = [dP a, dP b, dP p] ∧ (hp a + hp b + hp p ≤ 10000000) ∧ r = .int (gPassed a b p)
theorem ok_passed (T : Tx P w K mg base) : C8.Cal P w K mg base 37 "passed" (spD K 3 dom_passed) [] := by
  refine cal_of T.d_passed sc_passed (fun vs H Q E h => h.1) fun f cdv A outer s H vs Q E hr h => ?_
  obtain ⟨_, ds, r, rs, ⟨a, b, p, rfl, p0, rfl⟩, q⟩ := h
  obtain ⟨v_a, v_b, v_point, rfl, r_a, r_b, r_point⟩ := inv3 rs
  refine go_when (et_w (ew_and (et_val (ev_call (ok_below T) hr (ea_cons (ev_ix (ev_d 2 r_point) ev_int) (ea_cons (ev_ix (ev_d 1 r_b) ev_int) ea_nil)) ⟨_, _, rfl, (by walk_at "bd"), rfl⟩)) fun _ => (ew_and (et_not (et_val (ev_call (ok_below T) hr (ea_cons (ev_ix (ev_d 2 r_point) ev_int) (ea_cons (ev_ix (ev_d 0 r_a) ev_int) ea_nil)) ⟨_, _, rfl, (by walk_at "bd"), rfl⟩))) fun _ => (ew_and1 (et_gt (ev_call (ok_side T) hr (ea_cons (ev_d 0 r_a) (ea_cons (ev_d 1 r_b) (ea_cons (ev_d 2 r_point) ea_nil))) ⟨_, _, _, rfl, (by walk_at "bd"), rfl⟩) ev_int))))) (fun hk1 H1 e1 => ?_) (fun hk1 H1 e1 => ?_)
  · skip
    have r_a := r_a.ex e1
    have r_b := r_b.ex e1
    have r_point := r_point.ex e1
    have x1 := (ex_refl H).trans e1
    exact go_ret ev_int fun v H2 e2 rv => q v H2 (x1.trans e2) (by unfold gPassed; rw [if_pos (by assumption)]; exact rv)
  · skip
    have r_a := r_a.ex e1
    have r_b := r_b.ex e1
    have r_point := r_point.ex e1
    have x1 := (ex_refl H).trans e1
    refine go_when (et_w (ew_and (et_val (ev_call (ok_below T) hr (ea_cons (ev_ix (ev_d 2 r_point) ev_int) (ea_cons (ev_ix (ev_d 0 r_a) ev_int) ea_nil)) ⟨_, _, rfl, (by walk_at "bd"), rfl⟩)) fun _ => (ew_and (et_not (et_val (ev_call (ok_below T) hr (ea_cons (ev_ix (ev_d 2 r_point) ev_int) (ea_cons (ev_ix (ev_d 1 r_b) ev_int) ea_nil)) ⟨_, _, rfl, (by walk_at "bd"), rfl⟩))) fun _ => (ew_and1 (et_lt (ev_call (ok_side T) hr (ea_cons (ev_d 0 r_a) (ea_cons (ev_d 1 r_b) (ea_cons (ev_d 2 r_point) ea_nil))) ⟨_, _, _, rfl, (by walk_at "bd"), rfl⟩) ev_int))))) (fun hk3 H3 e3 => ?_) (fun hk3 H3 e3 => ?_)
    · skip
      have r_a := r_a.ex e3
      have r_b := r_b.ex e3
      have r_point := r_point.ex e3
      have x3 := x1.trans e3
      exact go_ret (ev_neg ev_int) fun v H4 e4 rv => q v H4 (x3.trans e4) (by unfold gPassed; rw [if_neg (by rw [Bool.not_eq_true]; assumption), if_pos (by assumption)]; exact rv)
    · skip
      have r_a := r_a.ex e3
      have r_b := r_b.ex e3
      have r_point := r_point.ex e3
      have x3 := x1.trans e3
      exact go_ret ev_int fun v H5 e5 rv => q v H5 (x3.trans e5) (by unfold gPassed; rw [if_neg (by rw [Bool.not_eq_true]; assumption), if_neg (by rw [Bool.not_eq_true]; assumption)]; exact rv)
def dom_is_between : List PyData → PyData → Prop := fun ds r => ∃ (c a b p : Pt), ds = [dP c, .tuple [dP a, dP b], dP p] ∧ (hp c + hp a + hp b + hp p ≤ 9000000) ∧ r = .bool (gBetween c a b p)
theorem ok_is_between (T : Tx P w K mg base) : C8.Cal P w K mg base 37 "is_between" (spD K 3 dom_is_between) [] := by
  refine cal_of T.d_is_between sc_is_between (fun vs H Q E h => h.1) fun f cdv A outer s H vs Q E hr h => ?_
  obtain ⟨_, ds, r, rs, ⟨c, a, b, p, rfl, p0, rfl⟩, q⟩ := h
  obtain ⟨v_c, v_chord, v_point, rfl, r_c, r_chord, r_point⟩ := inv3 rs
  have b1 := ht_far c p
  have b2 := ht_far c a
  refine go_unp [3, 4] (ev_d 1 r_chord) rfl sc_is_between.nd (nm_cons 3 (nm_cons 4 NmAt.nil)) (fun vs1 H1 e1 rs1 => ?_)
  obtain ⟨v_a, v_b, rfl, r_a, r_b⟩ := inv2 rs1
  have r_c := r_c.ex e1
  have r_chord := r_chord.ex e1
  have r_point := r_point.ex e1
  have x1 := (ex_refl H).trans e1
  refine go_when (et_not (et_val (ev_call (ok_below T) hr (ea_cons (ev_call (ok_far T) hr (ea_cons (ev_d 0 r_c) (ea_cons (ev_d 2 r_point) ea_nil)) ⟨_, _, rfl, (by walk_at "bd"), rfl⟩) (ea_cons (ev_call (ok_far T) hr (ea_cons (ev_d 0 r_c) (ea_cons (ev_d 3 r_a) ea_nil)) ⟨_, _, rfl, (by walk_at "bd"), rfl⟩) ea_nil)) ⟨_, _, rfl, (by walk_at "bd"), rfl⟩))) (fun hk2 H2 e2 => ?_) (fun hk2 H2 e2 => ?_)
  · skip
    have r_c := r_c.ex e2
    have r_chord := r_chord.ex e2
    have r_point := r_point.ex e2
    have r_a := r_a.ex e2
    have r_b := r_b.ex e2
    have x2 := x1.trans e2
    have hk2 := nbT hk2
    exact go_ret ev_bl fun v H3 e3 rv => q v H3 (x2.trans e3) (by unfold gBetween; rw [if_neg (by rw [Bool.not_eq_true]; assumption)]; exact rv)
  · skip
    have r_c := r_c.ex e2
    have r_chord := r_chord.ex e2
    have r_point := r_point.ex e2
    have r_a := r_a.ex e2
    have r_b := r_b.ex e2
    have x2 := x1.trans e2
    have hk2 := nbF hk2
    refine go_asg 5 (ev_call (ok_side T) hr (ea_cons (ev_d 3 r_a) (ea_cons (ev_d 4 r_b) (ea_cons (ev_d 2 r_point) ea_nil))) ⟨_, _, _, rfl, (by walk_at "bd"), rfl⟩) (fun v_hand H4 e4 r_hand => ?_) sc_is_between.nd
    have r_c := r_c.ex e4
    have r_chord := r_chord.ex e4
    have r_point := r_point.ex e4
    have r_a := r_a.ex e4
    have r_b := r_b.ex e4
    have x4 := x2.trans e4
    refine go_when (et_neI (ev_d 5 r_hand) ev_int) (fun hk5 H5 e5 => ?_) (fun hk5 H5 e5 => ?_)
    · skip
      have r_c := r_c.ex e5
      have r_chord := r_chord.ex e5
      have r_point := r_point.ex e5
      have r_a := r_a.ex e5
      have r_b := r_b.ex e5
      have r_hand := r_hand.ex e5
      have x5 := x4.trans e5
      have hk5 := of_decide_eq_false (nbT hk5)
      exact go_ret (ev_lt (ev_d 5 r_hand) ev_int) fun v H6 e6 rv => q v H6 (x5.trans e6) (by unfold gBetween; rw [if_pos (by assumption), if_neg (by assumption)]; exact rv)
    · skip
      have r_c := r_c.ex e5
      have r_chord := r_chord.ex e5
      have r_point := r_point.ex e5
      have r_a := r_a.ex e5
      have r_b := r_b.ex e5
      have r_hand := r_hand.ex e5
      have x5 := x4.trans e5
      have hk5 := of_decide_eq_true (nbF hk5)
      refine go_asg 6 (ev_call (ok_sign_of T) hr (ea_cons (ev_call (ok_minus T) hr (ea_cons (ev_ix (ev_d 4 r_b) ev_int) (ea_cons (ev_ix (ev_d 3 r_a) ev_int) ea_nil)) ⟨_, _, rfl, (by walk_at "bd"), rfl⟩) ea_nil) ⟨_, rfl, rfl⟩) (fun v_up H7 e7 r_up => ?_) sc_is_between.nd
      have r_c := r_c.ex e7
      have r_chord := r_chord.ex e7
      have r_point := r_point.ex e7
      have r_a := r_a.ex e7
      have r_b := r_b.ex e7
      have r_hand := r_hand.ex e7
      have x7 := x5.trans e7
      refine go_when (et_neI (ev_d 6 r_up) ev_int) (fun hk8 H8 e8 => ?_) (fun hk8 H8 e8 => ?_)
      · skip
        have r_c := r_c.ex e8
        have r_chord := r_chord.ex e8
        have r_point := r_point.ex e8
        have r_a := r_a.ex e8
        have r_b := r_b.ex e8
        have r_hand := r_hand.ex e8
        have r_up := r_up.ex e8
        have x8 := x7.trans e8
        have hk8 := of_decide_eq_false (nbT hk8)
        exact go_ret (ev_gt (ev_d 6 r_up) ev_int) fun v H9 e9 rv => q v H9 (x8.trans e9) (by unfold gBetween; rw [if_pos (by assumption), if_pos (by assumption), if_neg (by assumption)]; exact rv)
      · skip
        have r_c := r_c.ex e8
        have r_chord := r_chord.ex e8
        have r_point := r_point.ex e8
        have r_a := r_a.ex e8
        have r_b := r_b.ex e8
        have r_hand := r_hand.ex e8
        have r_up := r_up.ex e8
        have x8 := x7.trans e8
        have hk8 := of_decide_eq_true (nbF hk8)
        exact go_ret (ev_call (ok_below T) hr (ea_cons (ev_ix (ev_d 4 r_b) ev_int) (ea_cons (ev_ix (ev_d 3 r_a) ev_int) ea_nil)) ⟨_, _, rfl, (by walk_at "bd"), rfl⟩) fun v H10 e10 rv => q v H10 (x8.trans e10) (by unfold gBetween; rw [if_pos (by assumption), if_pos (by assumption), if_pos (by assumption)]; exact rv)
end
end Ar
set_option maxHeartbeats 4000000
/-! Walk: quarters, marks, windings. -/
namespace Ar
open PySem L2
section
variable {P : Program} {w : World} {K : PySem.W.Frag} {mg : Str → Option Value} {base : Heap}
def dom_turned : List PyData → PyData → Prop := fun ds r => ∃ (p : Pt) (k : Int), ds = [dP p, .int k] ∧ r = dP (gTurn p (k % 4).toNat)
theorem ok_turned (T : Tx P w K mg base) : C8.Cal P w K mg base 1 "turned" (spD K 2 dom_turned) [] := by
  refine cal_of T.d_turned sc_turned (fun vs H Q E h => h.1) fun f cdv A outer s H vs Q E hr h => ?_
  obtain ⟨_, ds, r, rs, ⟨p, k, rfl, rfl⟩, q⟩ := h
  obtain ⟨v_p, v_q, rfl, r_p, r_q⟩ := inv2 rs
  refine go_unp [2, 3] (ev_d 0 r_p) rfl sc_turned.nd (nm_cons 2 (nm_cons 3 NmAt.nil)) fun vs1 H1 e1 rs1 => ?_
  obtain ⟨v_x, v_y, rfl, r_x, r_y⟩ := inv2 rs1
  have r_q := r_q.ex e1
  refine go_forR 4 PassesOwn.never rfl sc_turned.nd T.m_range (ev_mod (ev_d 1 r_q) ev_int (by decide)) (by omega)
    (fun i σ' H' => ∃ vx vy v4, σ' = [some v_p, some v_q, some vx, some vy, v4] ∧ Ex H H' ∧ Rp K H' vx (dQ (gTurn p i).1) ∧ Rp K H' vy (dQ (gTurn p i).2)) (fun H2 e2 => ⟨v_x, v_y, none, rfl, e1.trans e2, r_x.ex e2, r_y.ex e2⟩) ?_ ?_ (by omega)
  · rintro i σ' H' hi ⟨vx, vy, v4, rfl, ex, rx, ry⟩
    refine go_par 2 3 (ev_tup (ea_cons (ev_sub ev_int (ev_ix (ev_d 3 ry) ev_int)) (ea_cons (ev_ix (ev_d 3 ry) ev_int) ea_nil))) mo_rp (ev_d 2 rx) rfl sc_turned.nd fun v u H2 e2 r1 r2 => go_nil ?_
    refine ⟨v, u, some (.int i), rfl, ex.trans e2, ?_, r2⟩
    rw [Int.zero_sub] at r1
    exact r1
  · rintro σ' H' ⟨vx, vy, v4, rfl, ex, rx, ry⟩
    exact go_ret (ev_tup (ea_cons (ev_d 2 rx) (ea_cons (ev_d 3 ry) ea_nil))) fun v H2 e2 rv => q v H2 (ex.trans e2) rv

/-- a list that grows: at l, made behind H; what it holds -/
def Grow (K : PySem.W.Frag) (H : Hp) (l : Addr) (ds : List PyData) (H' : Hp) : Prop := H l = none ∧ Ex H H' ∧ ∃ xs, H' l = some (.lst xs) ∧ RpL K H' xs ds
theorem Grow.ex {H H' H2 : Hp} {l : Addr} {ds : List PyData} (g : Grow K H l ds H') (e : Ex H' H2) : Grow K H l ds H2 := let ⟨a, b, xs, c, d⟩ := g; ⟨a, b.trans e, xs, e _ _ c, d.ex e⟩
theorem Grow.push {H H' : Hp} {l : Addr} {ds : List PyData} {xs : List V} {v : V} {d : PyData} (h0 : H l = none) (e : Ex H H') (hl : H' l = some (.lst xs)) (r : RpL K H' xs ds) (rv : Rp K H' v d) : Grow K H l (ds ++ [d]) (upd H' l (.lst (xs ++ [v]))) :=
  ⟨h0, Evl.Ex.mut e h0, _, upd_same, (RpL.kt (KT.lst hl) _ _ r).append (.one (Rp.kt (KT.lst hl) _ _ rv))⟩
theorem Grow.cat {H H' : Hp} {l : Addr} {ds es : List PyData} {xs ys : List V} (h0 : H l = none) (e : Ex H H') (hl : H' l = some (.lst xs)) (r : RpL K H' xs ds) (r2 : RpL K H' ys es) : Grow K H l (ds ++ es) (upd H' l (.lst (xs ++ ys))) :=
  ⟨h0, Evl.Ex.mut e h0, _, upd_same, (RpL.kt (KT.lst hl) _ _ r).append (RpL.kt (KT.lst hl) _ _ r2)⟩
theorem Grow.of {H0 H H' : Hp} {ds : List PyData} {v : V} (x : Ex H0 H) (h : NewR K H ds v H') (e : Ex H H') : ∃ l, v = .ref l ∧ Grow K H0 l ds H' := let ⟨p, xs, h1, h2, h3, h4⟩ := h; ⟨p, h1, Evl.fresh_back x h2, x.trans e, xs, h3, h4⟩
theorem Grow.tr {H H' : Hp} {l : Addr} {ds : List PyData} (g : Grow K H l ds H') : TrR K l ds (.ref l) H' := ⟨rfl, g.2.2⟩
theorem Grow.len {H : Hp} {ds : List PyData} {xs : List V} (r : RpL K H xs ds) {n : Nat} (h : ds.length ≤ n) (hn : n < 100000) : xs.length < 100000 := by rw [r.length]; omega
theorem ev_tr {X : Cx} {σ : L2.St} {H : Hp} {l : Addr} {ds : List PyData} {x : Str} {pos : Pos} (i : Nat) (t : TrR X.K l ds (.ref l) H) (hs : σ[i]? = some (some (.ref l)) := by rfl) (hN : X.N[i]? = some x := by rfl) (hv : Vis X.env.scope x := by first | exact Or.inl rfl | exact Or.inr (Or.inl rfl) | exact Or.inr (Or.inr rfl))
    (hd : (x == ("__debug__" : Str)) = false := by decide) (hcd : (x == ("__classdict__" : Str)) = false := by decide) : Ev X σ H (.Name x pos) (TrR X.K l ds) := ev_n i hs t mo_tr hN hv hd hcd
theorem tr_lst {K : PySem.W.Frag} {l : Addr} {ds : List PyData} (v : V) (H1 : Hp) (h : TrR K l ds v H1) : ∃ p xs, v = .ref p ∧ H1 p = some (.lst xs) ∧ RpL K H1 xs ds := let ⟨h1, xs, h2, h3⟩ := h; ⟨l, xs, h1, h2, h3⟩

local macro_rules | `(tactic| walk_at "bd") => `(tactic| (first | omega | (simp only [hp] at *; omega) | grind [hp, ht_add, ht_sub, ht_mul, ht_div, ht_neg, hp_tog, hp_off, hp_grow, ht_along, ht_across, ht_far, gTog, gOff]))
def hpc : Piece → Nat
  | .dot p => hp p
  | .str p q => hp p + hp q
  | .arc c p q => hp c + hp p + hp q
  | .ring c p => hp c + hp p
def isRound : Piece → Prop
  | .arc _ _ _ => True
  | .ring _ _ => True
  | _ => False
theorem qs_step (c a : Pt) (f : Pt → Bool) (i : Nat) (hi : i < 3) : ((([1, 2, 3].take (i + 1)).map (gCand c a)).filter f) = ((([1, 2, 3].take i).map (gCand c a)).filter f) ++ (if f (gCand c a (i + 1)) = true then [gCand c a (i + 1)] else []) := by
  match i, hi with
  | 0, _ => simp [List.filter_cons]
  | 1, _ => simp [List.filter_cons]; split <;> split <;> rfl
  | 2, _ => simp [List.filter_cons]; split <;> split <;> split <;> rfl
theorem qs_le (c a : Pt) (f : Pt → Bool) (i : Nat) : ((([1, 2, 3].take i).map (gCand c a)).filter f).length ≤ 3 := by
  refine Nat.le_trans (List.length_filter_le _ _) ?_
  rw [List.length_map, List.length_take]
  simp
  omega
def dom_quarters : List PyData → List PyData → Prop := fun ds r => ∃ (x : Piece), ds = [dPc x] ∧ isRound x ∧ hpc x ≤ 500000 ∧ r = (gQuarters x).map dP
theorem ok_quarters (T : Tx P w K mg base) : C8.Cal P w K mg base 38 "quarters" (spN K 1 dom_quarters) [] := by
  refine cal_of T.d_quarters sc_quarters (fun vs H Q E h => h.1) fun f cdv A outer s H vs Q E hr h => ?_
  obtain ⟨_, ds, r, rs, ⟨x, rfl, hx, hh, rfl⟩, q⟩ := h
  obtain ⟨v_piece, rfl, r_piece⟩ := inv1 rs
  have main : ∀ (c a l : Pt) (word : Str) (more : List PyData) (g : Pt → Bool) (ring : Bool), dPc x = .tuple ([.str word, dP c, dP a] ++ more) → hp c + hp a + hp l ≤ 1000000 → (gQuarters x = (a :: gQs c a g) ++ [l]) →
      (decide (word = "ring") = ring) → (ring = true → l = a ∧ ∀ p, g p = true) → (ring = false → more = [dP l] ∧ ∀ p, g p = gAhead c a p l) →
      Go (bX P w K mg base n_quarters "quarters" s_quarters f cdv A outer s H E) (C8.fnBody s_quarters) { nx := fun _ H' => Q .non H', rt := Q } (start n_quarters [v_piece]) H := by
    intro c a l word more g ring hd hb hq hr1 hr2 hr3
    rw [hd] at r_piece
    have i0 : atI ([.str word, dP c, dP a] ++ more) 0 = some (PyData.str word) := atI_nat (j := 0) rfl
    have i1 : atI ([.str word, dP c, dP a] ++ more) 1 = some (dP c) := atI_nat (j := 1) rfl
    have i2 : atI ([.str word, dP c, dP a] ++ more) 2 = some (dP a) := atI_nat (j := 2) rfl
    refine go_asg 1 (ev_ix (ev_d 0 r_piece) ev_int i1) (fun v_c H1 e1 r_c => ?_) sc_quarters.nd
    have r_piece := r_piece.ex e1
    refine go_asg 2 (ev_call (ok_off T) hr (ea_cons (ev_ix (ev_d 0 r_piece) ev_int i2) (ea_cons (ev_d 1 r_c) ea_nil)) ⟨a, c, rfl, by omega, rfl⟩) (fun v_s H2 e2 r_s => ?_) sc_quarters.nd
    have r_piece := r_piece.ex e2
    have r_c := r_c.ex e2
    refine go_asg 3 (ev_lst (ea_cons (ev_ix (ev_d 0 r_piece) ev_int i2) ea_nil)) (fun v_f H3 e3 r_f => ?_) sc_quarters.nd
    obtain ⟨lf, rfl, gf⟩ := Grow.of (e1.trans e2) r_f e3
    have r_piece := r_piece.ex e3
    have r_c := r_c.ex e3
    have r_s := r_s.ex e3
    have h0 := gf.1
    have bo := hp_off a c
    refine go_forR2 4 PassesOwn.never rfl sc_quarters.nd T.m_range ev_int ev_int (by decide)
      (fun i σ' H' => ∃ v4 v5, σ' = [some v_piece, some v_c, some v_s, some (.ref lf), v4, v5] ∧ KT H3 H' ∧ Grow K H lf (dP a :: ((([1, 2, 3].take i).map (gCand c a)).filter g).map dP) H') (fun H4 e4 => ⟨none, none, rfl, Ex.kt e4, gf.ex e4⟩) ?_ ?_
    · rintro i σ' H' hi ⟨v4, v5, rfl, kt, _, ex, xs, hl, rl⟩
      have hi3 : i < 3 := hi
      have r_piece := Rp.kt kt _ _ r_piece
      have r_c := Rp.kt kt _ _ r_c
      have r_s := Rp.kt kt _ _ r_s
      have bt := hp_turn (gOff a c) ((1 + (i : Int)) % 4).toNat
      refine go_asg 5 (ev_call (ok_together T) hr (ea_cons (ev_d 1 r_c) (ea_cons (ev_call (ok_turned T) hr (ea_cons (ev_d 2 r_s) (ea_cons (ev_d 4 (.int _)) ea_nil)) ⟨gOff a c, _, rfl, rfl⟩) ea_nil)) ⟨c, _, rfl, by omega, rfl⟩) (fun v_p H4 e4 r_p => ?_) sc_quarters.nd
      have ep : gTog c (gTurn (gOff a c) ((1 + (i : Int)) % 4).toNat) = gCand c a (i + 1) := by
        have : ((1 + (i : Int)) % 4).toNat = i + 1 := by omega
        rw [this]
        rfl
      rw [ep] at r_p
      have r_piece := r_piece.ex e4
      have r_c := r_c.ex e4
      have hl4 := e4 _ _ hl
      have rl4 := rl.ex e4
      have bc := hp_cand c a (i + 1)
      refine go_when (k := g (gCand c a (i + 1))) ?tt (fun hk H5 e5 => ?_) fun hk H5 e5 => ?_
      case tt =>
        cases ring with
        | true =>
          obtain ⟨rfl, hg⟩ := hr2 rfl
          rw [hg]
          exact et_w (ew_or (k := true) (l := true) (EvT.cast (et_eqS (ev_ix (ev_d 0 r_piece) ev_int i0) ev_str) hr1) fun z => absurd z (by decide))
        | false =>
          obtain ⟨rfl, hg⟩ := hr3 rfl
          rw [hg]
          refine EvT.cast (et_w (ew_or (EvT.cast (et_eqS (ev_ix (ev_d 0 r_piece) ev_int i0) ev_str) hr1) fun _ => ew_or1 (et_val (ev_call (ok_ahead T) hr (ea_cons (ev_d 1 r_c) (ea_cons (ev_ix (ev_d 0 r_piece) ev_int i2) (ea_cons (ev_d 5 r_p) (ea_cons (ev_ix (ev_d 0 r_piece) ev_int) ea_nil)))) ⟨c, a, gCand c a (i + 1), l, rfl, by omega, rfl⟩)))) (Bool.false_or _)
      · refine go_app (e5 _ _ hl4) (ev_v 3 rfl) (ev_d 5 (r_p.ex e5)) (Grow.len rl (n := 4) (by have := qs_le c a g i; simp only [List.length_cons, List.length_map]; omega) (by decide)) fun v H6 e6 r6 => go_nil (go_nil ?_)
        refine ⟨_, _, rfl, kt.trans ((Ex.kt ((e4.trans e5).trans e6)).trans (KT.lst (e6 _ _ (e5 _ _ hl4)))), ?_⟩
        rw [qs_step c a g i hi3, hk, if_pos rfl, List.map_append, ← List.cons_append]
        exact Grow.push h0 (((ex.trans e4).trans e5).trans e6) (e6 _ _ (e5 _ _ hl4)) ((rl4.ex e5).ex e6) r6
      · refine go_nil ⟨_, _, rfl, kt.trans (Ex.kt (e4.trans e5)), ?_⟩
        rw [qs_step c a g i hi3, hk, if_neg Bool.false_ne_true, List.append_nil]
        exact ⟨h0, (ex.trans e4).trans e5, xs, e5 _ _ hl4, rl4.ex e5⟩
    · rintro σ' H' ⟨v4, v5, rfl, kt, gr⟩
      have r_piece := Rp.kt kt _ _ r_piece
      have eq : (gQuarters x).map dP = (dP a :: ((([1, 2, 3].take (Int.toNat (4 - 1))).map (gCand c a)).filter g).map dP) ++ [dP l] := by
        rw [hq, List.map_append]
        rfl
      have hz : (dP a :: ((([1, 2, 3].take (Int.toNat (4 - 1))).map (gCand c a)).filter g).map dP).length + [dP l].length ≤ 100000 := by
        have := qs_le c a g (Int.toNat (4 - 1))
        simp only [List.length_cons, List.length_map, List.length_nil]
        omega
      cases ring with
      | true =>
        obtain ⟨rfl, hg⟩ := hr2 rfl
        refine go_yes (EvT.cast (et_eqS (ev_ix (ev_d 0 r_piece) ev_int i0) ev_str) hr1) fun H4 e4 => ?_
        refine go_ret (ev_cat (ev_tr 3 (gr.ex e4).tr) (ev_lst (ea_cons (ev_ix (ev_d 0 (r_piece.ex e4)) ev_int i2) ea_nil)) mo_tr tr_lst new_lst hz) fun v H5 e5 rv => ?_
        refine q v H5 (((gr.2.1).trans e4).trans e5) ?_
        rw [eq]
        obtain ⟨p, ys, g1, g2, g3⟩ := rv
        exact ⟨p, ys, g1, Evl.fresh_back (gr.2.1.trans e4) g2, g3⟩
      | false =>
        obtain ⟨rfl, hg⟩ := hr3 rfl
        refine go_no (EvT.cast (et_eqS (ev_ix (ev_d 0 r_piece) ev_int i0) ev_str) hr1) fun H4 e4 => ?_
        refine go_ret (ev_cat (ev_tr 3 (gr.ex e4).tr) (ev_lst (ea_cons (ev_ix (ev_d 0 (r_piece.ex e4)) ev_int) ea_nil)) mo_tr tr_lst new_lst hz) fun v H5 e5 rv => ?_
        refine q v H5 (((gr.2.1).trans e4).trans e5) ?_
        rw [eq]
        obtain ⟨p, ys, g1, g2, g3⟩ := rv
        exact ⟨p, ys, g1, Evl.fresh_back (gr.2.1.trans e4) g2, g3⟩
  cases x with
  | dot _ => exact hx.elim
  | str _ _ => exact hx.elim
  | arc c a b => exact main c a b "arc" [dP b] (fun p => gAhead c a p b) false rfl (Nat.le_trans hh (by decide)) rfl (by decide) (fun z => absurd z (by decide)) fun _ => ⟨rfl, fun _ => rfl⟩
  | ring c a => exact main c a a "ring" [] (fun _ => true) true rfl (by show hp c + hp a + hp a ≤ 1000000; have : hp c + hp a ≤ 500000 := hh; omega) rfl (by decide) (fun _ => ⟨rfl, fun _ => rfl⟩) fun z => absurd z (by decide)
end
end Ar
set_option maxHeartbeats 4000000
/-! Walk: counted, winding. -/
namespace Ar
open PySem L2
section
variable {P : Program} {w : World} {K : PySem.W.Frag} {mg : Str → Option Value} {base : Heap}
theorem round_ok {c a b : Pt} {way : Int} (h : hp c + hp a + hp b ≤ 100000) : isRound (gPiece (.bend c a b way)) ∧ hpc (gPiece (.bend c a b way)) ≤ 500000 := by
  show isRound (if 0 < way then gArc c a b else gArc c b a) ∧ hpc (if 0 < way then gArc c a b else gArc c b a) ≤ 500000
  unfold gArc
  split
  · split
    · exact ⟨trivial, by show hp c + hp a ≤ 500000; omega⟩
    · exact ⟨trivial, by show hp c + hp a + hp b ≤ 500000; omega⟩
  · split
    · exact ⟨trivial, by show hp c + hp b ≤ 500000; omega⟩
    · exact ⟨trivial, by show hp c + hp b + hp a ≤ 500000; omega⟩
/-- what a chord counts -/
def gCh (c p : Pt) (z : Pt × Pt) : Int := gPassed z.1 z.2 p + (if gBetween c z.1 z.2 p = true then 1 else 0)
theorem ch_abs (c p : Pt) (z : Pt × Pt) : (gCh c p z).natAbs ≤ 2 := by
  unfold gCh
  have := passed_abs z.1 z.2 p
  split <;> omega
def dom_counted : List PyData → PyData → Prop := fun ds r => ∃ (l : Leg) (p : Pt), ds = [dL l, dP p] ∧ LegOk l ∧ legB l p ∧ r = .int (gCounted l p)
theorem ok_counted (T : Tx P w K mg base) : C8.Cal P w K mg base 39 "counted" (spD K 2 dom_counted) [] := by
  refine cal_of T.d_counted sc_counted (fun vs H Q E h => h.1) fun f cdv A outer s H vs Q E hr h => ?_
  obtain ⟨_, ds, r, rs, ⟨l, p, rfl, lo, lb, rfl⟩, q⟩ := h
  obtain ⟨v_leg, v_point, rfl, r_leg, r_point⟩ := inv2 rs
  cases l with
  | str a b =>
    have lb : hp a + hp b + hp p ≤ 9000000 := lb
    refine go_yes (EvT.cast (et_eqS (ev_ix (ev_d 0 r_leg) ev_int) ev_str) (by decide)) fun H1 e1 => ?_
    have r_leg := r_leg.ex e1
    have r_point := r_point.ex e1
    exact go_ret (ev_call (ok_passed T) hr (ea_cons (ev_ix (ev_d 0 r_leg) ev_int) (ea_cons (ev_ix (ev_d 0 r_leg) ev_int) (ea_cons (ev_d 1 r_point) ea_nil))) ⟨a, b, p, rfl, by omega, rfl⟩) fun v H2 e2 rv => q v H2 (e1.trans e2) rv
  | bend c a b way =>
    have lb' : hp c + hp a + hp b ≤ 100000 ∧ hp p ≤ 6000000 := lb
    refine go_no (EvT.cast (et_eqS (ev_ix (ev_d 0 r_leg) ev_int) ev_str) (by decide)) fun H1 e1 => ?_
    have r_leg := r_leg.ex e1
    have r_point := r_point.ex e1
    have ro := round_ok (way := way) lb'.1
    refine go_asg 2 (ev_callN (ok_quarters T) hr (ea_cons (ev_call (ok_piece_of T) hr (ea_cons (ev_d 0 r_leg) ea_nil) ⟨_, rfl, lo, legB_pc lb, rfl⟩) ea_nil) ⟨_, rfl, ro.1, ro.2, rfl⟩) (fun v_m H2 e2 r_m => ?_) sc_counted.nd
    have r_leg := r_leg.ex e2
    have r_point := r_point.ex e2
    obtain ⟨lm, rfl, gm⟩ := Grow.of (e1) r_m e2
    refine go_asg 3 ev_int (fun v_n H3 e3 r_n => ?_) sc_counted.nd
    have ev := r_n.int_inv
    subst ev
    have gm := gm.ex e3
    have r_leg := r_leg.ex e3
    have r_point := r_point.ex e3
    generalize hms : gQuarters (gPiece (.bend c a b way)) = ms at *
    have mb : ∀ x ∈ ms, hp x ≤ 200004 := fun x hx => by
      rw [← hms] at hx
      have := qs_bend hx
      omega
    have ml : ms.length ≤ 5 := by rw [← hms]; exact quarters_len _
    refine go_forZ (xs := (ms.map dP).dropLast) (ys := (ms.map dP).tail) 4 PassesOwn.never rfl sc_counted.nd T.m_zip (ev_init (ev_n 2 rfl gm.tr.ls mo_ls)) mo_new (ev_tail (ev_n 2 rfl gm.tr.ls mo_ls)) (fun v H4 h => h.ls) (fun v H4 h => h.ls)
      (fun n σ' H' => ∃ v4, σ' = [some v_leg, some v_point, some (.ref lm), some (.int (((prs ms).take n).map (gCh c p)).sum), v4] ∧ Ex H3 H') (fun H4 e4 => ⟨none, rfl, e4⟩) (fun _ _ _ _ _ _ _ => trivial) ?_ (fun n σ' H' H2 hq e => ?_) ?_
    · rintro n x y v σ' H' hx hy ⟨v4, rfl, ex⟩ rv
      obtain ⟨a', b', hz, rfl, rfl⟩ := zip_at hx hy
      have hm := prs_mem (List.mem_of_getElem? hz)
      have ba := mb _ hm.1
      have bb := mb _ hm.2
      have r_leg := r_leg.ex ex
      have r_point := r_point.ex ex
      refine go_asg 3 (ev_add (ev_add (ev_d 3 (.int _)) (ev_call (ok_passed T) hr (ea_cons (ev_ix (ev_d 4 rv) ev_int) (ea_cons (ev_ix (ev_d 4 rv) ev_int) (ea_cons (ev_d 1 r_point) ea_nil))) ⟨a', b', p, rfl, by omega, rfl⟩))
        (ev_intB T.m_int (ev_call (ok_is_between T) hr (ea_cons (ev_ix (ev_d 0 r_leg) ev_int) (ea_cons (ev_d 4 rv) (ea_cons (ev_d 1 r_point) ea_nil))) ⟨c, a', b', p, rfl, by omega, rfl⟩))) (fun v_n H4 e4 r_n => go_nil ⟨⟨some v, ?_, ex.trans e4⟩, e4⟩) sc_counted.nd
      have ev := r_n.int_inv
      subst ev
      have e : (((prs ms).take n).map (gCh c p)).sum + gPassed a' b' p + (if gBetween c a' b' p = true then 1 else 0) = (((prs ms).take (n + 1)).map (gCh c p)).sum := by
        rw [List.map_take, List.map_take, sum_take1 (z := gCh c p (a', b')) (by rw [List.getElem?_map, hz]; rfl), Int.add_assoc]
        rfl
      rw [e]
      rfl
    · obtain ⟨v4, h1, h2⟩ := hq
      exact ⟨v4, h1, h2.trans e⟩
    · rintro σ' H' ⟨v4, rfl, ex⟩
      rw [zip_len dP ms, List.take_length]
      have r_leg := r_leg.ex ex
      have hb := sum_bound (gCh c p) 2 (ch_abs c p) (prs ms)
      rw [prs_len] at hb
      have cm : CMulX way (((prs ms).map (gCh c p)).sum) := mulx_ok (a := 1) (b := 10) (by rcases lo.2.2.2 with h | h <;> (rw [h]; decide)) (by omega) (by decide)
      refine go_ret (ev_mul (ev_ix (ev_d 0 r_leg) ev_int) (ev_d 3 (.int _)) cm) fun v H4 e4 rv => q v H4 ((((e1.trans e2).trans e3).trans ex).trans e4) ?_
      show Rp K H4 v (.int (way * ((prs (gQuarters (gPiece (.bend c a b way)))).map (gCh c p)).sum))
      rw [hms]
      exact rv

/-! ### lists of lists -/
def LL (K : PySem.W.Frag) (dss : List (List PyData)) : V → Hp → Prop := fun v H => ∃ a xs, v = .ref a ∧ SqL K H a xs ∧ xs.length = dss.length ∧ ∀ (i : Nat) x, xs[i]? = some x → ∃ ds, dss[i]? = some ds ∧ LsR K ds x H
theorem mo_LL {K : PySem.W.Frag} {dss : List (List PyData)} : Mo (LL K dss) := fun v H H' e ⟨a, xs, h1, h2, h3, h4⟩ => ⟨a, xs, h1, Evl.ex_l e h2, h3, fun i x hx => let ⟨ds, g1, g2⟩ := h4 i x hx; ⟨ds, g1, mo_ls _ _ _ e g2⟩⟩
/-- strokes: lists of legs -/
abbrev dLs (ls : List Leg) : List PyData := ls.map dL
theorem take_succ_some {α : Type} {l : List α} {i : Nat} {x : α} (h : l[i]? = some x) : l.take (i + 1) = l.take i ++ [x] := by rw [List.take_add_one, h]; rfl
def P_wind (K : PySem.W.Frag) (i : List (List Leg) × Pt) : List V → Hp → Prop := fun vs H => ∃ v u, vs = [v, u] ∧ LL K (i.1.map dLs) v H ∧ Rp K H u (dP i.2) ∧ ∀ l ∈ i.1.flatten, LegOk l ∧ legB l i.2
def windD (ls : List Leg) (p : Pt) : PyData := match gWind ls p with
  | none => .none
  | some n => .int n
theorem ok_winding (T : Tx P w K mg base) : C8.Cal P w K mg base 40 "winding" (spI 2 (P_wind K) (fun i _ v H' => Rp K H' v (windD i.1.flatten i.2))) [] := by
  refine cal_of T.d_winding sc_winding (fun vs H Q E h => h.1) fun f cdv A outer s H vs Q E hr h => ?_
  obtain ⟨_, ⟨lls, p⟩, ⟨v_s, v_p, rfl, hs, r_p, hl⟩, q⟩ := h
  have hl : ∀ l ∈ lls.flatten, LegOk l ∧ legB l p := hl
  have r_p : Rp K H v_p (dP p) := r_p
  obtain ⟨as, xs, rfl, h1, h2, h3⟩ := hs
  have yes : ∀ l, l ∈ lls.flatten → gOn (gPiece l) p = true → windD lls.flatten p = .none := fun l hm ho => by
    unfold windD gWind
    rw [if_pos (List.any_eq_true.mpr ⟨l, hm, ho⟩)]
  refine go_asg 2 ev_int (fun v_n H1 e1 r_n => ?_) sc_winding.nd
  have ev := r_n.int_inv
  subst ev
  refine go_forL (R := fun v _ => v = .ref as) (xs := xs) 3 PassesOwn.never rfl sc_winding.nd ((ev_v 0 rfl).imp fun v H2 e2 h => ⟨as, h, Evl.ex_l (e1.trans e2) h1, h⟩)
    (fun i σ' H' => ∃ v3 v4, σ' = [some (.ref as), some v_p, some (.int (((lls.take i).flatten.map fun l => gCounted l p).sum)), v3, v4] ∧ Ex H H' ∧ ∀ l ∈ (lls.take i).flatten, gOn (gPiece l) p = false) (fun a H2 e2 _ ha => ?_) ?_ ?_
  · obtain rfl := V.ref.inj ha
    exact ⟨⟨none, none, rfl, e1.trans e2, fun l hm => absurd hm (by simp)⟩, fun i σ' H' _ hq => by
      obtain ⟨_, _, _, ex, _⟩ := hq
      exact Evl.ex_l ex h1⟩
  · rintro i v σ' H' hi ⟨v3, v4, rfl, ex, hn⟩
    obtain ⟨ds, hds, hls⟩ := h3 i v hi
    obtain ⟨a, ys, rfl, g1, g2⟩ := mo_ls _ _ _ ex hls
    rw [List.getElem?_map] at hds
    obtain ⟨st, hst, rfl⟩ := Option.map_eq_some_iff.mp hds
    have hmem : ∀ l ∈ st, l ∈ lls.flatten := fun l hm => List.mem_flatten.mpr ⟨st, List.mem_of_getElem? hst, hm⟩
    have hlen : ys.length = st.length := by rw [g2.length, List.length_map]
    refine go_forL (R := fun v _ => v = .ref a) (xs := ys) 4 PassesOwn.never rfl sc_winding.nd ((ev_v 3 rfl).imp fun v H2 e2 h => ⟨a, h, Evl.ex_l e2 g1, h⟩)
      (fun j σ2 H2 => ∃ v4, σ2 = [some (.ref as), some v_p, some (.int (((lls.take i).flatten.map fun l => gCounted l p).sum + ((st.take j).map fun l => gCounted l p).sum)), some (.ref a), v4] ∧ Ex H' H2 ∧ ∀ l ∈ st.take j, gOn (gPiece l) p = false) (fun b H2 e2 _ hb => ?_) ?_ ?_
    · obtain rfl := V.ref.inj hb
      refine ⟨⟨v4, ?_, e2, fun l hm => absurd hm (by simp)⟩, fun j σ2 H3 _ hq => by
        obtain ⟨_, _, ex2, _⟩ := hq
        exact Evl.ex_l ex2 g1⟩
      simp [List.set]
    · rintro j v σ2 H2 hj ⟨v4, rfl, ex2, hn2⟩
      obtain ⟨d, hd, rv⟩ := g2.get' hj
      rw [List.getElem?_map] at hd
      obtain ⟨l, hlj, rfl⟩ := Option.map_eq_some_iff.mp hd
      have lm := hmem l (List.mem_of_getElem? hlj)
      obtain ⟨lo, lb⟩ := hl l lm
      have rv := rv.ex ex2
      have r_p2 := r_p.ex (ex.trans ex2)
      refine go_when (et_val (ev_call (ok_on T) hr (ea_cons (ev_call (ok_piece_of T) hr (ea_cons (ev_d 4 rv) ea_nil) ⟨l, rfl, lo, legB_pc lb, rfl⟩) (ea_cons (ev_d 1 r_p2) ea_nil)) ⟨_, _, rfl, legB_on lb, rfl⟩)) (fun hk H3 e3 => ?_) fun hk H3 e3 => ?_
      · refine go_ret ev_non fun u H4 e4 ru => q u H4 (((ex.trans ex2).trans e3).trans e4) ?_
        show Rp K H4 u (windD lls.flatten p)
        rw [yes l lm hk]
        exact ru
      · refine go_asg 2 (ev_add (ev_d 2 (.int _)) (ev_call (ok_counted T) hr (ea_cons (ev_d 4 (rv.ex e3)) (ea_cons (ev_d 1 (r_p2.ex e3)) ea_nil)) ⟨l, p, rfl, lo, lb, rfl⟩)) (fun u H4 e4 ru => go_nil ⟨some v, ?_, (ex2.trans e3).trans e4, ?_⟩) sc_winding.nd
        · have ev := ru.int_inv
          subst ev
          rw [take_succ_some hlj, List.map_append, List.sum_append, ← Int.add_assoc]
          simp
        · intro l' hm
          rw [take_succ_some hlj] at hm
          rcases List.mem_append.mp hm with hm | hm
          · exact hn2 l' hm
          · rw [List.mem_singleton.mp hm]; exact hk
    · rintro σ2 H2 ⟨v4, rfl, ex2, hn2⟩
      rw [hlen, List.take_length] at *
      refine go_nil ⟨some (.ref a), v4, ?_, ex.trans ex2, ?_⟩
      · rw [take_succ_some hst, List.flatten_append, List.map_append, List.sum_append]
        simp
      · intro l' hm
        rw [take_succ_some hst, List.flatten_append] at hm
        rcases List.mem_append.mp hm with hm | hm
        · exact hn l' hm
        · exact hn2 l' (by simpa using hm)
  · rintro σ' H' ⟨v3, v4, rfl, ex, hn⟩
    have e : lls.take xs.length = lls := by
      rw [h2, List.length_map]
      exact List.take_length
    rw [e] at hn ⊢
    refine go_ret (ev_d 2 (.int _)) fun u H4 e4 ru => q u H4 (ex.trans e4) ?_
    show Rp K H4 u (windD lls.flatten p)
    unfold windD gWind
    rw [if_neg (by
      rw [List.any_eq_true]
      rintro ⟨l, hm, ho⟩
      rw [hn l hm] at ho
      cases ho)]
    exact ru
end
end Ar
set_option maxHeartbeats 4000000
/-! Walk: marks, cuts. -/
namespace Ar
open PySem L2
theorem ht_small {t b : Int} (h1 : t.natAbs < 8) (h2 : b.natAbs < 8) (h3 : 0 < b) : ht (Rat.divInt t b) ≤ 3 := by
  obtain ⟨n, rfl⟩ := Int.eq_ofNat_of_zero_le (Int.le_of_lt h3)
  rw [Rat.divInt_ofNat]
  exact ht_mkRat (k := 3) (by simpa using h1) (by simpa using h2) (by omega) (by decide)
section
variable {P : Program} {w : World} {K : PySem.W.Frag} {mg : Str → Option Value} {base : Heap}
/-- a bend as the program makes it, and not too large -/
def BendOk (l : Leg) : Prop := LegOk l ∧ match l with
  | .str _ _ => False
  | .bend c a b _ => hp c ≤ 3000 ∧ hp a ≤ 3000 ∧ hp b ≤ 3000 ∧ ∀ z ∈ prs (gQuarters (gPiece l)), gWhole c z.1 z.2 ≠ 0
theorem gMarks_eq (c a b : Pt) (way : Int) (n : Nat) (m0 : Pt) (r : List Pt) (h : gQuarters (gPiece (.bend c a b way)) = m0 :: r) : gMarks (.bend c a b way) n = m0 :: (prs (m0 :: r)).flatMap fun z => gCut1 c z.1 z.2 n := by
  show (gQuarters (gPiece (.bend c a b way))).take 1 ++ _ = _
  rw [h]
  rfl
theorem cut1_len (c a b : Pt) (n : Nat) (h : n ≤ 4) : (gCut1 c a b n).length ≤ 4 := by
  unfold gCut1
  rw [List.length_append, List.length_map, List.length_range, List.length_singleton]
  omega
theorem flatMap_len {α β : Type} {f : α → List β} {k : Nat} (h : ∀ a, (f a).length ≤ k) : ∀ l : List α, (l.flatMap f).length ≤ k * l.length
  | [] => Nat.zero_le _
  | a :: r => by
    have h1 := flatMap_len h r
    have h2 := h a
    rw [List.flatMap_cons, List.length_append, List.length_cons, Nat.mul_succ]
    omega
def dom_marks_of : List PyData → List PyData → Prop := fun ds r => ∃ (c a b : Pt) (way : Int) (n : Nat), ds = [dL (.bend c a b way), .int n] ∧ BendOk (.bend c a b way) ∧ 1 ≤ n ∧ n ≤ 4 ∧ r = (gMarks (.bend c a b way) n).map dP
theorem ok_marks_of (T : Tx P w K mg base) : C8.Cal P w K mg base 39 "marks_of" (spN K 2 dom_marks_of) [] := by
  refine cal_of T.d_marks_of sc_marks_of (fun vs H Q E h => h.1) fun f cdv A outer s H vs Q E hr h => ?_
  obtain ⟨_, ds, r, rs, ⟨c, a, b, way, n, rfl, bo, n1, n4, rfl⟩, q⟩ := h
  obtain ⟨v_leg, v_parts, rfl, r_leg, r_parts⟩ := inv2 rs
  obtain ⟨lo, bc, ba, bb, hwh⟩ := bo
  have bsum : hp c + hp a + hp b ≤ 100000 := by omega
  have ro := round_ok (way := way) bsum
  refine go_asg 2 (ev_ix (ev_d 0 r_leg) ev_int) (fun v_c H1 e1 r_c => ?_) sc_marks_of.nd
  have r_leg := r_leg.ex e1
  have r_parts := r_parts.ex e1
  refine go_asg 3 (ev_callN (ok_quarters T) hr (ea_cons (ev_call (ok_piece_of T) hr (ea_cons (ev_d 0 r_leg) ea_nil) ⟨_, rfl, lo, (by show hp c + hp a + hp b ≤ 1000000; omega), rfl⟩) ea_nil) ⟨_, rfl, ro.1, ro.2, rfl⟩) (fun v_m H2 e2 r_m => ?_) sc_marks_of.nd
  have r_leg := r_leg.ex e2
  have r_parts := r_parts.ex e2
  have r_c := r_c.ex e2
  obtain ⟨lm, rfl, gm⟩ := Grow.of e1 r_m e2
  obtain ⟨m0, mr, hq0⟩ := quarters_ne (c := c) (a := a) (b := b) (way := way)
  rw [gMarks_eq c a b way n m0 mr hq0] at q
  have mb : ∀ x ∈ m0 :: mr, hp x ≤ 12004 := fun x hx => by
    rw [← hq0] at hx
    have := qs_bend hx
    omega
  have ml : (m0 :: mr).length ≤ 5 := by rw [← hq0]; exact quarters_len _
  rw [hq0] at hwh gm
  refine go_asg 4 (ev_lst (ea_cons (ev_ixL (ev_n 3 rfl gm.tr.ls mo_ls) ev_int (atI_nat (j := 0) rfl)) ea_nil)) (fun v_f H3 e3 r_f => ?_) sc_marks_of.nd
  obtain ⟨lf, rfl, gf⟩ := Grow.of (e1.trans e2) r_f e3
  have h0 := gf.1
  have r_leg := r_leg.ex e3
  have r_parts := r_parts.ex e3
  have r_c := r_c.ex e3
  have gm := gm.ex e3
  have hlf : H3 lf ≠ none := by
    obtain ⟨_, _, xs, hx, _⟩ := gf
    rw [hx]
    exact fun z => nomatch z
  have hlm : lm ≠ lf := by
    rintro rfl
    obtain ⟨p, xs, hp1, hp2, hp3, hp4⟩ := r_f
    obtain rfl := V.ref.inj hp1
    obtain ⟨_, _, zs, hz, _⟩ := gm
    obtain ⟨p', xs', hp1', hp2', hp3', _⟩ := r_m
    obtain rfl := V.ref.inj hp1'
    rw [hp2] at hp3'
    cases hp3'
  have tot : ∀ k, (m0 :: ((prs (m0 :: mr)).take k).flatMap fun z => gCut1 c z.1 z.2 n).length ≤ 40 := fun k => by
    have := flatMap_len (fun z : Pt × Pt => cut1_len c z.1 z.2 n n4) ((prs (m0 :: mr)).take k)
    have l2 : ((prs (m0 :: mr)).take k).length ≤ 4 := by
      rw [List.length_take, prs_len]
      omega
    rw [List.length_cons]
    omega
  refine go_forZ2 (xs := ((m0 :: mr).map dP).dropLast) (ys := ((m0 :: mr).map dP).tail) [5, 6] lf PassesOwn.never rfl sc_marks_of.nd T.m_zip (ev_init (ev_n 3 rfl gm.tr.ls mo_ls)) (ev_tail (ev_n 3 rfl gm.tr.ls mo_ls)) hlf (nm_cons 5 (nm_cons 6 NmAt.nil))
    (fun k σ' H' => ∃ v5 v6 v7 v8, σ' = [some v_leg, some v_parts, some v_c, some (.ref lm), some (.ref lf), v5, v6, v7, v8] ∧ Grow K H lf ((m0 :: ((prs (m0 :: mr)).take k).flatMap fun z => gCut1 c z.1 z.2 n).map dP) H') (fun H4 e4 => ⟨none, none, none, none, rfl, gf.ex e4⟩) ?_ (fun k σ' H' H2 hq e => ?_) ?_
  · rintro k x y v u σ' H' hx hy ⟨v5, v6, v7, v8, rfl, gr⟩ kt rv ru
    obtain ⟨a', b', hz, rfl, rfl⟩ := zip_at hx hy
    have hzm := List.mem_of_getElem? hz
    have hm := prs_mem hzm
    have ha' := mb _ hm.1
    have hb' := mb _ hm.2
    have hwz := hwh _ hzm
    have r_parts := Rp.kt kt _ _ r_parts
    have r_c := Rp.kt kt _ _ r_c
    have bs := ht_share c a' b'
    refine go_asg 7 (ev_call (ok_share_of T) hr (ea_cons (ev_d 2 r_c) (ea_cons (ev_d 5 rv) (ea_cons (ev_d 6 ru) ea_nil))) ⟨c, a', b', rfl, by omega, hwz, rfl⟩) (fun v_s H5 e5 r_s => ?_) sc_marks_of.nd
    have r_parts := r_parts.ex e5
    have r_c := r_c.ex e5
    have rv := rv.ex e5
    have ru := ru.ex e5
    have gr := gr.ex e5
    refine go_forR2 8 PassesOwn.never rfl sc_marks_of.nd T.m_range ev_int (ev_d 1 r_parts) (by omega)
      (fun i σ2 H2 => ∃ v8, σ2 = [some v_leg, some v_parts, some v_c, some (.ref lm), some (.ref lf), some v, some u, some v_s, v8] ∧ KT H5 H2 ∧ Bt lf H5 H2 ∧
        Grow K H lf ((m0 :: ((prs (m0 :: mr)).take k).flatMap fun z => gCut1 c z.1 z.2 n).map dP ++ ((List.range i).map fun k : Nat => gAt c a' (gShare c a' b' * Rat.divInt ((k : Int) + 1) (n : Int))).map dP) H2)
      (fun H6 e6 => ⟨v8, rfl, Ex.kt e6, (Bt.refl _ _).ex e6, by
        have := gr.ex e6
        simpa using this⟩) ?_ ?_
    · rintro i σ2 H2 hi ⟨v8, rfl, kt2, bt2, gr2⟩
      have hi : i < n - 1 := by omega
      have r_parts := Rp.kt kt2 _ _ r_parts
      have r_c := Rp.kt kt2 _ _ r_c
      have rv := Rp.kt kt2 _ _ rv
      have r_s := Rp.kt kt2 _ _ r_s
      obtain ⟨_, ex2, xs2, hl2, rl2⟩ := gr2
      have hb3 := ht_small (t := 1 + (i : Int)) (b := (n : Int)) (by omega) (by omega) (by omega)
      have hb4 := ht_mul (gShare c a' b') (Rat.divInt (1 + (i : Int)) (n : Int))
      refine go_app hl2 (ev_v 4 rfl) (ev_call (ok_at_share T) hr (ea_cons (ev_d 2 r_c) (ea_cons (ev_d 5 rv) (ea_cons (ev_call (ok_times T) hr (ea_cons (ev_d 7 r_s) (ea_cons (ev_call (ok_ratio T) hr (ea_cons (ev_d 8 (.int _)) (ea_cons (ev_d 1 r_parts) ea_nil)) ⟨_, _, rfl, by omega, rfl⟩) ea_nil)) ⟨_, _, rfl, by omega, rfl⟩) ea_nil))) ⟨c, a', _, rfl, by omega, rfl⟩)
        (Grow.len rl2 (n := 200) (by have := tot k; rw [List.length_append, List.length_map, List.length_map, List.length_map, List.length_range]; omega) (by decide)) fun v9 H7 e7 r7 => go_nil ?_
      refine ⟨some (.int (1 + (i : Int))), rfl, kt2.trans ((Ex.kt e7).trans (KT.lst (e7 _ _ hl2))), (bt2.ex e7).put, ?_⟩
      have r8 : Rp K H7 v9 (dP (gAt c a' (gShare c a' b' * Rat.divInt ((i : Int) + 1) (n : Int)))) := by
        rw [Int.add_comm]
        exact r7
      rw [List.range_succ, List.map_append, List.map_append, ← List.append_assoc, List.map_singleton, List.map_singleton]
      exact Grow.push h0 (ex2.trans e7) (e7 _ _ hl2) (rl2.ex e7) r8
    · rintro σ2 H2 ⟨v8', rfl, kt2, bt2, gr2⟩
      have ru := Rp.kt kt2 _ _ ru
      obtain ⟨_, ex2, xs2, hl2, rl2⟩ := gr2
      refine go_app hl2 (ev_v 4 rfl) (ev_d 6 ru) (Grow.len rl2 (n := 200) (by have := tot k; rw [List.length_append, List.length_map, List.length_map, List.length_map, List.length_range]; omega) (by decide)) fun v9 H7 e7 r7 => go_nil ?_
      refine ⟨⟨_, _, _, _, rfl, ?_⟩, ?_, ?_⟩
      · have e : ((m0 :: ((prs (m0 :: mr)).take (k + 1)).flatMap fun z => gCut1 c z.1 z.2 n).map dP) = ((m0 :: ((prs (m0 :: mr)).take k).flatMap fun z => gCut1 c z.1 z.2 n).map dP ++ ((List.range ((n : Int) - 1).toNat).map fun k : Nat => gAt c a' (gShare c a' b' * Rat.divInt ((k : Int) + 1) (n : Int))).map dP) ++ [dP b'] := by
          rw [take_succ_some hz, List.flatMap_append, show ((n : Int) - 1).toNat = n - 1 by omega]
          simp [gCut1]
        rw [e]
        exact Grow.push h0 (ex2.trans e7) (e7 _ _ hl2) (rl2.ex e7) r7
      · exact fun x o nx ho => (bt2.ex e7).put x o nx (e5 _ _ ho)
      · exact (Ex.kt e5).trans (kt2.trans ((Ex.kt e7).trans (KT.lst (e7 _ _ hl2))))
  · obtain ⟨v5, v6, v7, v8, h1, h2⟩ := hq
    exact ⟨v5, v6, v7, v8, h1, h2.ex e⟩
  · rintro σ' H' ⟨v5, v6, v7, v8, rfl, gr⟩ kt
    rw [zip_len dP (m0 :: mr), List.take_length] at gr
    refine go_ret (ev_tr 4 gr.tr) fun v H4 e4 rv => ?_
    obtain ⟨rfl, ys, g1, g2⟩ := rv
    exact q _ H4 (gr.2.1.trans e4) ⟨lf, ys, rfl, h0, g1, g2⟩
end
end Ar
set_option maxHeartbeats 4000000
/-! Walk: cut_leg, cut_strokes. -/
namespace Ar
open PySem L2
def CutOk (l : Leg) : Prop := match l with
  | .str _ _ => True
  | .bend c a b way => BendOk (.bend c a b way)
theorem marks_len (c a b : Pt) (way : Int) (n : Nat) (h : n ≤ 4) : (gMarks (.bend c a b way) n).length ≤ 40 := by
  obtain ⟨m0, mr, hq⟩ := quarters_ne (c := c) (a := a) (b := b) (way := way)
  rw [gMarks_eq c a b way n m0 mr hq]
  have := flatMap_len (fun z : Pt × Pt => cut1_len c z.1 z.2 n h) (prs (m0 :: mr))
  have l2 := quarters_len (gPiece (.bend c a b way))
  rw [hq] at l2
  rw [prs_len] at this
  rw [List.length_cons]
  omega
theorem cutleg_len (l : Leg) (n : Nat) (h : n ≤ 4) : (gCutLeg l n).length ≤ 40 := by
  cases l with
  | str a b => exact Nat.le_of_ble_eq_true rfl
  | bend c a b way =>
    have := marks_len c a b way n h
    show ((prs (if way < 0 then (gMarks (.bend c a b way) n).reverse else gMarks (.bend c a b way) n)).map _).length ≤ 40
    rw [List.length_map, prs_len]
    split
    · rw [List.length_reverse]; omega
    · omega
section
variable {P : Program} {w : World} {K : PySem.W.Frag} {mg : Str → Option Value} {base : Heap}
def dom_cut_leg : List PyData → List PyData → Prop := fun ds r => ∃ (l : Leg) (n : Nat), ds = [dL l, .int n] ∧ CutOk l ∧ 1 ≤ n ∧ n ≤ 4 ∧ r = (gCutLeg l n).map dL
theorem ok_cut_leg (T : Tx P w K mg base) : C8.Cal P w K mg base 40 "cut_leg" (spN K 2 dom_cut_leg) [] := by
  refine cal_of T.d_cut_leg sc_cut_leg (fun vs H Q E h => h.1) fun f cdv A outer s H vs Q E hr h => ?_
  obtain ⟨_, ds, r, rs, ⟨l, n, rfl, co, n1, n4, rfl⟩, q⟩ := h
  obtain ⟨v_leg, v_parts, rfl, r_leg, r_parts⟩ := inv2 rs
  cases l with
  | str a b =>
    refine go_yes (EvT.cast (et_eqS (ev_ix (ev_d 0 r_leg) ev_int) ev_str) (by decide)) fun H1 e1 => ?_
    refine go_ret (ev_lst (ea_cons (ev_d 0 (r_leg.ex e1)) ea_nil)) fun v H2 e2 rv => q v H2 (e1.trans e2) ?_
    obtain ⟨p, ys, g1, g2, g3⟩ := rv
    exact ⟨p, ys, g1, Evl.fresh_back e1 g2, g3⟩
  | bend c a b way =>
    refine go_no (EvT.cast (et_eqS (ev_ix (ev_d 0 r_leg) ev_int) ev_str) (by decide)) fun H1 e1 => ?_
    have r_leg := r_leg.ex e1
    have r_parts := r_parts.ex e1
    refine go_asg 2 (ev_callN (ok_marks_of T) hr (ea_cons (ev_d 0 r_leg) (ea_cons (ev_d 1 r_parts) ea_nil)) ⟨c, a, b, way, n, rfl, co, n1, n4, rfl⟩) (fun v_m H2 e2 r_m => ?_) sc_cut_leg.nd
    have r_leg := r_leg.ex e2
    obtain ⟨lm, rfl, gm⟩ := Grow.of e1 r_m e2
    have fin : ∀ (ms : List Pt) (lm : Addr) H3, Ex H H3 → ms.length ≤ 40 → Grow K H lm (ms.map dP) H3 → ms = (if way < 0 then (gMarks (.bend c a b way) n).reverse else gMarks (.bend c a b way) n) →
        Go (bX P w K mg base n_cut_leg "cut_leg" s_cut_leg f cdv A outer s H E) (List.drop 3 (C8.fnBody s_cut_leg)) { nx := fun _ H' => Q .non H', rt := Q } [some v_leg, some v_parts, some (.ref lm), none, none] H3 := fun ms lm H3 e3 hlen gm hms => by
      refine go_ret (ev_lcZ (own := [("a", 3), ("b", 4)]) (xs := (ms.map dP).dropLast) (ys := (ms.map dP).tail) (rs := ((prs ms).map fun z => Leg.str z.1 z.2).map dL) [3, 4] rfl sc_cut_leg.nd T.m_zip (ev_init (ev_n 2 rfl gm.tr.ls mo_ls)) mo_new (ev_tail (ev_n 2 rfl gm.tr.ls mo_ls)) (fun v H4 h => h.ls) (fun v H4 h => h.ls)
        (blkOk_by (N := n_cut_leg) (sc := C8.fnScope s_cut_leg) (by decide +kernel)) (fun _ _ _ _ _ => pg_tup rfl (pgs_names sc_cut_leg.nd (nm_cons 3 (nm_cons 4 NmAt.nil)))) (by rw [List.length_map, List.length_map, zip_len dP ms]) (by rw [List.length_map, List.length_map, prs_len]; omega) (fun i H4 v u x y e4 hx hy rv ru => ?_)) fun v H4 e4 rv => q v H4 (e3.trans e4) ?_
      · obtain ⟨a', b', hz, rfl, rfl⟩ := zip_at hx hy
        refine ⟨dL (.str a' b'), ?_, fun _ _ _ _ _ => ev_tup (ea_cons ev_str (ea_cons (ev_d 3 rv) (ea_cons (ev_d 4 ru) ea_nil)))⟩
        rw [List.map_map, List.getElem?_map, hz]
        rfl
      · obtain ⟨p, ys, g1, g2, g3, g4⟩ := rv
        refine ⟨p, ys, g1, Evl.fresh_back e3 g2, g3, ?_⟩
        show RpL K H4 ys (((prs (if way < 0 then (gMarks (.bend c a b way) n).reverse else gMarks (.bend c a b way) n)).map fun z => Leg.str z.1 z.2).map dL)
        rw [← hms]
        exact g4
    have ml := marks_len c a b way n n4
    refine go_when (et_lt (ev_ix (ev_d 0 r_leg) ev_int) ev_int) (fun hk H3 e3 => ?_) fun hk H3 e3 => ?_
    · have hk := of_decide_eq_true hk
      refine go_asg 2 (ev_lstRev rfl T.m_list T.m_reversed (ev_n 2 rfl (gm.ex e3).tr.ls mo_ls)) (fun v_r H4 e4 r_r => go_nil ?_) sc_cut_leg.nd
      obtain ⟨lr, rfl, gr⟩ := Grow.of ((e1.trans e2).trans e3) r_r e4
      refine fin (gMarks (.bend c a b way) n).reverse lr H4 (((e1.trans e2).trans e3).trans e4) (by rw [List.length_reverse]; exact ml) ?_ (by rw [if_pos hk])
      rw [List.map_reverse]
      exact gr
    · have hk := of_decide_eq_false hk
      exact fin (gMarks (.bend c a b way) n) lm H3 ((e1.trans e2).trans e3) ml (gm.ex e3) (by rw [if_neg hk])

/-- lists of lists that grow: at lf, the inner ones elsewhere -/
def LLg (K : PySem.W.Frag) (lf : Addr) (xs : List V) (dss : List (List PyData)) (H : Hp) : Prop := xs.length = dss.length ∧ ∀ (i : Nat) x, xs[i]? = some x → ∃ p ds ys, x = .ref p ∧ p ≠ lf ∧ dss[i]? = some ds ∧ H p = some (.lst ys) ∧ RpL K H ys ds
theorem LLg.ex {lf : Addr} {xs : List V} {dss : List (List PyData)} {H H' : Hp} (h : LLg K lf xs dss H) (e : Ex H H') : LLg K lf xs dss H' := ⟨h.1, fun i x hx => let ⟨p, ds, ys, a, b, c, d, g⟩ := h.2 i x hx; ⟨p, ds, ys, a, b, c, e _ _ d, g.ex e⟩⟩
theorem LLg.bt {lf l : Addr} {xs : List V} {dss : List (List PyData)} {H H' : Hp} (h : LLg K lf xs dss H) (hl : H l = none ∨ l = lf) (b : Bt l H H') (k : KT H H') : LLg K lf xs dss H' := ⟨h.1, fun i x hx => by
  obtain ⟨p, ds, ys, g1, g2, g3, g4, g5⟩ := h.2 i x hx
  refine ⟨p, ds, ys, g1, g2, g3, b p _ ?_ g4, RpL.kt k _ _ g5⟩
  rcases hl with z | z
  · rintro rfl
    rw [z] at g4
    cases g4
  · rw [z]; exact g2⟩
theorem LLg.push {lf p : Addr} {xs ys : List V} {ds : List PyData} {dss : List (List PyData)} {H : Hp} (h : LLg K lf xs dss H) (hp : p ≠ lf) (hy : H p = some (.lst ys)) (r : RpL K H ys ds) : LLg K lf (xs ++ [.ref p]) (dss ++ [ds]) H := ⟨by rw [List.length_append, List.length_append, h.1]; rfl, fun i x hx => by
  by_cases hi : i < xs.length
  · rw [List.getElem?_append_left hi] at hx
    obtain ⟨p', ds', ys', g1, g2, g3, g4⟩ := h.2 i x hx
    exact ⟨p', ds', ys', g1, g2, by rw [List.getElem?_append_left (by rw [← h.1]; exact hi)]; exact g3, g4⟩
  · have hi2 : i = xs.length := by
      have := (List.getElem?_eq_some_iff.mp hx).1
      rw [List.length_append, List.length_singleton] at this
      omega
    subst hi2
    rw [List.getElem?_append_right (Nat.le_refl _), Nat.sub_self] at hx
    obtain rfl := Option.some.inj hx
    exact ⟨p, ds, ys, rfl, hp, by rw [h.1, List.getElem?_append_right (Nat.le_refl _), Nat.sub_self]; rfl, hy, r⟩⟩
theorem LLg.ll {lf : Addr} {xs : List V} {dss : List (List PyData)} {H : Hp} (h : LLg K lf xs dss H) (hl : H lf = some (.lst xs)) : LL K dss (.ref lf) H := ⟨lf, xs, rfl, Or.inl (Or.inl hl), h.1, fun i x hx => let ⟨p, ds, ys, g1, _, g3, g4, g5⟩ := h.2 i x hx; ⟨ds, g3, p, ys, g1, Or.inl (Or.inl g4), g5⟩⟩
def P_cut (K : PySem.W.Frag) (i : List (List Leg) × Nat) : List V → Hp → Prop := fun vs H => ∃ v, vs = [v, .int i.2] ∧ LL K (i.1.map dLs) v H ∧ (∀ l ∈ i.1.flatten, CutOk l) ∧ 1 ≤ i.2 ∧ i.2 ≤ 4 ∧ i.1.length ≤ 1000 ∧ ∀ s ∈ i.1, s.length ≤ 1000
theorem ok_cut_strokes (T : Tx P w K mg base) : C8.Cal P w K mg base 41 "cut_strokes" (spI 2 (P_cut K) (fun i _ v H' => LL K ((gCutAll i.1 i.2).map dLs) v H')) [] := by
  refine cal_of T.d_cut_strokes sc_cut_strokes (fun vs H Q E h => h.1) fun f cdv A outer s H vs Q E hr h => ?_
  obtain ⟨_, ⟨lls, n⟩, ⟨v_s, rfl, hs, hco, n1, n4, hz, hz2⟩, q⟩ := h
  have hco : ∀ l ∈ lls.flatten, CutOk l := hco
  have hz : lls.length ≤ 1000 := hz
  obtain ⟨as, xs, rfl, h1, h2, h3⟩ := hs
  refine go_asg 2 (ev_lst ea_nil) (fun v_f H1 e1 r_f => ?_) sc_cut_strokes.nd
  obtain ⟨lf, rfl, h0, ex0, zs, hf0, rf0⟩ := Grow.of (ex_refl H) r_f e1
  cases rf0
  have hxl : xs.length = lls.length := by rw [h2, List.length_map]
  refine go_forL (R := fun v _ => v = .ref as) (xs := xs) 3 PassesOwn.never rfl sc_cut_strokes.nd ((ev_v 0 rfl).imp fun v H2 e2 h => ⟨as, h, Evl.ex_l (e1.trans e2) h1, h⟩)
    (fun i σ' H' => ∃ v3 v4 v5, σ' = [some (.ref as), some (.int n), some (.ref lf), v3, v4, v5] ∧ Ex H H' ∧ ∃ zs, H' lf = some (.lst zs) ∧ LLg K lf zs ((gCutAll (lls.take i) n).map dLs) H') (fun a H2 e2 _ ha => ?_) ?_ ?_
  · obtain rfl := V.ref.inj ha
    exact ⟨⟨none, none, none, rfl, e1.trans e2, [], e2 _ _ hf0, rfl, fun i x hx => by simp at hx⟩, fun i σ' H' _ hq => by
      obtain ⟨_, _, _, _, ex, _⟩ := hq
      exact Evl.ex_l ex h1⟩
  · rintro i v σ' H' hi ⟨v3, v4, v5, rfl, ex, zs, hzs, hg⟩
    obtain ⟨ds, hds, hls⟩ := h3 i v hi
    obtain ⟨a, ys, rfl, g1, g2⟩ := mo_ls _ _ _ ex hls
    rw [List.getElem?_map] at hds
    obtain ⟨st, hst, rfl⟩ := Option.map_eq_some_iff.mp hds
    have hmem : ∀ l ∈ st, CutOk l := fun l hm => hco l (List.mem_flatten.mpr ⟨st, List.mem_of_getElem? hst, hm⟩)
    have hlen : ys.length = st.length := by rw [g2.length, List.length_map]
    have hst1 : st.length ≤ 1000 := hz2 st (List.mem_of_getElem? hst)
    refine go_asg 4 (ev_lst ea_nil) (fun v_l H2 e2 r_l => ?_) sc_cut_strokes.nd
    obtain ⟨ll, rfl, hl0, exl, us, hu0, ru0⟩ := Grow.of ex r_l e2
    cases ru0
    have hll' : H' ll = none := by
      obtain ⟨p, xs', hp1, hp2, _⟩ := r_l
      obtain rfl := V.ref.inj hp1
      exact hp2
    have hne : ll ≠ lf := by
      rintro rfl
      rw [hll'] at hzs
      cases hzs
    refine go_forL (R := fun v _ => v = .ref a) (xs := ys) 5 PassesOwn.never rfl sc_cut_strokes.nd ((ev_v 3 rfl).imp fun v H3 e3 h => ⟨a, h, Evl.ex_l (e2.trans e3) g1, h⟩)
      (fun j σ2 H3 => ∃ v5, σ2 = [some (.ref as), some (.int n), some (.ref lf), some (.ref a), some (.ref ll), v5] ∧ Ex H' H3 ∧ ∃ us, H3 ll = some (.lst us) ∧ RpL K H3 us (((st.take j).flatMap fun l => gCutLeg l n).map dL)) (fun b H3 e3 _ hb => ?_) ?_ ?_
    · obtain rfl := V.ref.inj hb
      exact ⟨⟨v5, rfl, e2.trans e3, [], e3 _ _ hu0, .nil⟩, fun j σ2 H4 _ hq => by
        obtain ⟨_, _, ex2, _⟩ := hq
        exact Evl.ex_l ex2 g1⟩
    · rintro j v σ2 H3 hj ⟨v5, rfl, ex3, us, hus, rus⟩
      obtain ⟨d, hd, rv⟩ := g2.get' hj
      rw [List.getElem?_map] at hd
      obtain ⟨l, hlj, rfl⟩ := Option.map_eq_some_iff.mp hd
      have lm := hmem l (List.mem_of_getElem? hlj)
      have rv := rv.ex ex3
      have cl := cutleg_len l n n4
      have tl : us.length ≤ 40 * 1000 := by
        rw [rus.length, List.length_map]
        refine Nat.le_trans (flatMap_len (fun l => cutleg_len l n n4) _) (Nat.mul_le_mul_left _ ?_)
        rw [List.length_take]
        omega
      refine go_ext (R := fun v H' => ∃ zs : Addr × List V, v = .ref zs.1 ∧ H' zs.1 = some (.lst zs.2) ∧ RpL K H' zs.2 ((gCutLeg l n).map dL)) hus (ev_v 4 rfl) ((ev_callN (ok_cut_leg T) hr (ea_cons (ev_d 5 rv) (ea_cons (ev_d 1 (.int _)) ea_nil)) ⟨l, n, rfl, lm, n1, n4, rfl⟩).imp fun v H4 e4 r => ?_) fun p zs' H4 e4 hp hr4 => go_nil ?_
      · obtain ⟨p, zs', f1, f2, f3, f4⟩ := r
        exact ⟨p, zs', f1, f3, by rw [f4.length, List.length_map]; omega, (p, zs'), rfl, f3, f4⟩
      · obtain ⟨⟨p', zs''⟩, f1, f2, f3⟩ := hr4
        obtain rfl := V.ref.inj f1
        rw [hp] at f2
        have f2 := Option.some.inj f2
        obtain rfl := HO.lst.inj f2
        refine ⟨some v, rfl, Evl.Ex.mut (ex3.trans e4) hll', us ++ zs', upd_same, ?_⟩
        have kt := KT.lst (o := .lst (us ++ zs')) (e4 _ _ hus)
        rw [take_succ_some hlj, List.flatMap_append, List.map_append]
        refine (RpL.kt kt _ _ (rus.ex e4)).append (RpL.kt kt _ _ ?_)
        simpa using f3
    · rintro σ2 H3 ⟨v5, rfl, ex3, us, hus, rus⟩
      rw [hlen, List.take_length] at rus
      have hzs3 := ex3 _ _ hzs
      have hg3 := hg.ex ex3
      refine go_app (R := fun v _ => v = .ref ll) hzs3 (ev_v 2 rfl) (ev_v 4 rfl) (by rw [hg.1, List.length_map]; unfold gCutAll; rw [List.length_map, List.length_take]; omega) fun v H4 e4 hv => go_nil ?_
      subst hv
      have hzs4 := e4 _ _ hzs3
      refine ⟨_, _, _, rfl, Evl.Ex.mut ((ex.trans ex3).trans e4) h0, zs ++ [.ref ll], upd_same, ?_⟩
      have e : (gCutAll (lls.take (i + 1)) n).map dLs = (gCutAll (lls.take i) n).map dLs ++ [dLs (st.flatMap fun l => gCutLeg l n)] := by
        rw [take_succ_some hst]
        unfold gCutAll
        rw [List.map_append, List.map_append]
        rfl
      rw [e]
      exact ((hg3.ex e4).push hne (e4 _ _ hus) (rus.ex e4)).bt (Or.inr rfl) ((Bt.refl _ _).put) (KT.lst hzs4)
  · rintro σ' H' ⟨v3, v4, v5, rfl, ex, zs, hzs, hg⟩
    rw [hxl, List.take_length] at hg
    refine go_ret (ev_v 2 rfl) fun v H4 e4 rv => q v H4 (ex.trans e4) ?_
    subst rv
    exact (hg.ex e4).ll (e4 _ _ hzs)
end
end Ar
set_option maxHeartbeats 4000000
/-! More rules: defaults, a dict of the module, x in (..), tuples of mixed kinds, lists of lists. -/
namespace Ar
open PySem L2 PySem.Spec PyProof.Rows
section
variable {X : Cx} {σ : L2.St} {H : Hp} {a b c e e1 e2 elt it : Expr} {es : List Expr} {pos p p' p2 : Pos} {R R' R1 R2 : V → Hp → Prop} {sts rest body orelse : List Stmt} {D : Ends} {x y : Str} {d d' : PyData} {k j n : Nat} {scope : Scope}
/-- a call that leans on defaults -/
theorem ev_callDv {dom : List PyData → PyData → Prop} {ds : List PyData} {dvs : List V} {des : List PyData} (c : C8.Cal X.prog X.w X.K X.mg X.base k x (spD X.K n dom) dvs) (hr : Room j X.A) (ha : EvDs X σ H (e :: es) ds) (hv : ∀ H, RpL X.K H dvs des) (hd : dom (ds ++ des) d) (hn : (ds ++ des).length = n := by rfl) (hk : k ≤ j := by decide) (hg : Gl X x := by rfl)
    (hdb : (x == ("__debug__" : Str)) = false := by decide) (he : starEach (e :: es) X.env = (false, eval e X.env) :: starEach es X.env := by rfl) (hpl : (backTo pos (starEach es X.env)).any (·.1) = false := by rfl) :
    EvD X σ H (.Call (.Name x p) (e :: es) [] pos) d := fun H1 e1 Q q =>
  uE.of (C8.pe_c c hr hk hg pa_u hdb he hpl) (ha H1 e1 _ fun vs H2 e2 rs => by
    show spD X.K n dom (vs ++ dvs) H2 Q E0
    have r := rs.append (hv H2)
    exact ⟨by rw [r.length]; exact hn, _, d, r, hd, fun v H3 e3 r => q v H3 (e2.trans e3) r⟩)
/-- D[key], D a dict of the module -/
theorem ev_ixK {q : Addr} {z : Str} {v0 : V} (ha : Ev X σ H a (fun v _ => v = .ref q)) (hb : EvD X σ H b (.str z)) (kd : KDct X.K X.w q z v0) (hs : ∀ v u, subscripted b false v u = operate [v, u] (getItem v u) := by intro _ _; rfl) : Ev X σ H (.Subscript a b pos) (fun v _ => v = v0) := fun H1 e1 Q q' =>
  uE.of (pe_ix ix_kdict pe_u pe_u hs) (ha H1 e1 _ fun x H2 e2 rx => hb H2 (e1.trans e2) _ fun y H3 e3 ry => ⟨_, z, v0, rx, ry.str_inv, kd, q' _ H3 (e2.trans e3) rfl⟩)
theorem ev_globV {x : Str} {v : V} {u : Value} (hm : X.mg x = some u) (r : RelV v u) (hg : Gl X x := by rfl) (hd : (x == ("__debug__" : Str)) = false := by decide) : Ev X σ H (.Name x pos) (fun w _ => w = v) := fun H1 e1 Q q =>
  uE.of (pe_glob hg hm r hd) (q v H1 (ex_refl H1) rfl)
/-- a small number times any -/
theorem ev_mulS {i j : Int} (ha : EvD X σ H a (.int i)) (hb : EvD X σ H b (.int j)) (hc : CMul i j) : EvD X σ H (.BinOp a .Mult b pos) (.int (i * j)) :=
  ev_opR op_mul ha hb mo_rp fun x y H2 _ rx ry Q q => ⟨i, j, rx.int_inv, ry.int_inv, hc, q _ H2 (ex_refl H2) (.int _)⟩
/-- a word among words -/
theorem strs_inv {K : PySem.W.Frag} : ∀ {ws : List Str} {vs : List V}, RpL K H vs (ws.map .str) → vs = ws.map V.str
  | [], _, h => by cases h; rfl
  | w :: ws, _, h => by
    cases h with
    | cons h1 h2 => rw [h1.str_inv, strs_inv h2]; rfl
theorem inV_strs (x : Str) : ∀ ws : List Str, inV (.str x) (ws.map V.str) = ws.any fun w => w == x
  | [] => rfl
  | w :: ws => by
    have := inV_strs x ws
    unfold inV at this ⊢
    rw [List.map_cons, List.any_cons, List.any_cons, this]
    rfl
theorem flat_strs : ∀ ws : List Str, (ws.map V.str).all flatV = true
  | [] => rfl
  | w :: ws => by rw [List.map_cons, List.all_cons, flat_strs ws]; rfl
theorem et_inT {ws : List Str} {z : Str} (ha : EvD X σ H a (.str z)) (hb : EvD X σ H b (.tuple (ws.map .str))) (hm : behindInMarks .In b = false := by rfl) : EvT X σ H (.Compare a [.In] [b] pos) (ws.any fun w => w == z) :=
  et_cmpR op_in_seq ha hb mo_rp hm fun x y H2 _ rx ry Q q => by
    obtain ⟨p, xs, rfl, h1, h2⟩ := ry.tup_inv
    obtain rfl := strs_inv h2
    rw [rx.str_inv]
    refine ⟨p, _, rfl, Or.inr h1, rfl, flat_strs ws, ?_⟩
    rw [if_neg Bool.false_ne_true, inV_strs]
    exact q H2 (ex_refl H2)
theorem et_inL {ws : List Str} {z : Str} {Rb : V → Hp → Prop} (ha : EvD X σ H a (.str z)) (hb : Ev X σ H b Rb) (g : ∀ v H1, Rb v H1 → LsR X.K (ws.map .str) v H1) (hm : behindInMarks .In b = false := by rfl) : EvT X σ H (.Compare a [.In] [b] pos) (ws.any fun w => w == z) :=
  et_cmpR op_in_seq ha hb mo_rp hm fun x y H2 _ rx ry Q q => by
    obtain ⟨p, xs, rfl, h1, h2⟩ := g _ _ ry
    obtain rfl := strs_inv h2
    rw [rx.str_inv]
    refine ⟨p, _, rfl, Or.inl h1, rfl, flat_strs ws, ?_⟩
    rw [if_neg Bool.false_ne_true, inV_strs]
    exact q H2 (ex_refl H2)
/-- != of anything that reads as data -/
theorem et_neDp {Ra Rb : V → Hp → Prop} (hu : X.A.units + 64 < cLine) (ha : Ev X σ H a Ra) (hb : Ev X σ H b Rb) (m : Mo Ra) (ga : ∀ v H1, Ra v H1 → Dp X.K H1 v d) (gb : ∀ v H1, Rb v H1 → Dp X.K H1 v d') (s1 : SeqAt.shaped d = true) (s2 : SeqAt.shaped d' = true) : EvT X σ H (.Compare a [.NotEq] [b] pos) (!PyData.eqv d d') :=
  et_cmpR (op_neD hu) ha hb m (nomark _) fun x y H2 _ rx ry Q q => ⟨d, d', ga _ _ rx, gb _ _ ry, s1, s2, q H2 (ex_refl H2)⟩
/-- tuples of two of mixed kinds -/
def TupR (K : PySem.W.Frag) (R1 R2 : V → Hp → Prop) : V → Hp → Prop := fun v H => ∃ p v1 v2, v = .ref p ∧ SqT K H p [v1, v2] ∧ R1 v1 H ∧ R2 v2 H
theorem ev_tup2 (m1 : Mo R1) (m2 : Mo R2) (h1 : Ev X σ H a R1) (h2 : Ev X σ H b R2) {k : Nat} (s1 : starEach [b] X.env = (false, eval b X.env) :: starEach [] X.env := by rfl) (s2 : starEach [a, b] X.env = (false, eval a X.env) :: starEach [b] X.env := by rfl) : Ev X σ H (.Tuple [a, b] k pos) (TupR X.K R1 R2) := fun H1 e1 Q q =>
  uE.of (pe_tup (pa_cons pe_u (pa_cons pe_u pa_nil s1) s2)) (h1 H1 e1 _ fun v H2 e2 r1 => h2 H2 (e1.trans e2) _ fun w H3 e3 r2 => ⟨(by show 2 ≤ sizeLine; decide), fun p hp => q _ _ ((e2.trans e3).trans (ex_new hp)) ⟨p, v, w, rfl, Or.inl (Or.inl upd_same), m1 _ _ _ (e3.trans (ex_new hp)) r1, m2 _ _ _ (ex_new hp) r2⟩⟩)
theorem ev_fst {i : Nat} {pi : Pos} (h : Ev X σ H a (TupR X.K R1 R2)) (hs : ∀ v u, subscripted (.Constant (.int 0) i pi) false v u = operate [v, u] (getItem v u) := by intro _ _; rfl) : Ev X σ H (.Subscript a (.Constant (.int 0) i pi) pos) R1 := fun H1 e1 Q q =>
  uE.of (pe_ix ix_tup pe_u pe_int hs) (h H1 e1 _ fun v H2 e2 r => by
    obtain ⟨p, v1, v2, rfl, ht, r1, r2⟩ := r
    exact ⟨p, [v1, v2], 0, v1, rfl, rfl, ht, rfl, q v1 H2 e2 r1⟩)
/-- a, b, .. = e, e any tuple -/
theorem go_unpG (is : List Nat) {P : List V → Hp → Prop} {kk : Nat} {tp : Pos} (h : Ev X σ H e (fun v H' => ∃ a xs, v = .ref a ∧ SqT X.K H' a xs ∧ xs.length = is.length ∧ P xs H')) (hc : X.calm = true) (hN : X.N.Nodup) (nm : NmAt X es is) (q : ∀ vs H1, Ex H H1 → vs.length = is.length → P vs H1 → Go X rest D (setAll σ is vs) H1)
    (hn : (assignEach es X.env).length = is.length := by rfl) (hst : (assignEach es X.env).findIdx? (·.1) = none := by rfl) (hs : swapsWithSole [.Tuple es kk tp] e pos.line X.env = pure false := by rfl) (hw : swappedStores [.Tuple es kk tp] e X.env = pure none := by rfl)
    (h1 : (assignEach [.Tuple es kk tp] X.env).map (·.2) = [assign (.Tuple es kk tp) X.env] := by rfl) : Go X (.Assign [.Tuple es kk tp] e pos :: rest) D σ H :=
  go_cons (ps_asg pe_u (pg_tup hc (pgs_names hN nm) hn hst) hs hw h1) (h H (ex_refl H) _ fun v H1 e1 r => by
    obtain ⟨a, xs, rfl, ht, hl, rl⟩ := r
    exact ⟨a, xs, rfl, ht, hl, hl, q xs H1 e1 hl rl⟩)
/-! lists of lists -/
theorem LL.dpAll {K : PySem.W.Frag} : ∀ {dss : List (List PyData)} {xs : List V}, xs.length = dss.length → (∀ (i : Nat) x, xs[i]? = some x → ∃ ds, dss[i]? = some ds ∧ LsR K ds x H) → DpAll K H xs (dss.map .list)
  | [], xs, h1, h2 => by
    have e : xs = [] := List.eq_nil_of_length_eq_zero h1
    subst e
    exact .nil
  | ds :: dss, [], h1, h2 => by simp at h1
  | ds :: dss, x :: xs, h1, h2 => by
    obtain ⟨ds', e, a, ys, rfl, hs, hr⟩ := h2 0 x rfl
    obtain rfl := Option.some.inj e
    exact .cons (.lst hs (RpL.dp _ _ hr)) (LL.dpAll (by simpa using h1) fun i x hx => h2 (i + 1) x hx)
theorem LL.dp {K : PySem.W.Frag} {dss : List (List PyData)} {v : V} (h : LL K dss v H) : Dp K H v (.list (dss.map .list)) := by
  obtain ⟨a, xs, rfl, h1, h2, h3⟩ := h
  exact .lst h1 (LL.dpAll h2 h3)
def EvBR (X : Cx) (scope : Scope) (σ : L2.St) (H : Hp) (e : Expr) (R : V → Hp → Prop) : Prop := ∀ (s : Shared) (H0 : Hp) (C : Addr) (cl : List (Str × Addr)) (fp : List Addr), Ev (X.blk s H0 scope (compEnvC scope cl C X.env) fp) σ H e R
/-- [e for name in xs], lists to lists -/
theorem ev_lcM (j : Nat) {y : Str} {dss rss : List (List PyData)} {py : Pos} (hc : X.calm = true) (hN : X.N.Nodup) (he : Ev X σ H it (fun v H' => ∃ l xs, v = .ref l ∧ H' l = some (.lst xs) ∧ LLg X.K l xs dss H')) (ok : BlkOk X.N X.env.scope scope [(y, j)])
    (hg : ∀ (s : Shared) (H : Hp) (C : Addr) (cl : List (Str × Addr)) (fp : List Addr), PG (X.blk s H scope (compEnvC scope cl C X.env) fp) (.Name y py) (gName j))
    (hl : rss.length = dss.length) (hz : rss.length ≤ 90000)
    (hi : ∀ (i : Nat) (H1 : Hp) (q : Addr) (ys : List V) (ds : List PyData), Ex H H1 → dss[i]? = some ds → H1 q = some (.lst ys) → RpL X.K H1 ys ds → ∃ rs, rss[i]? = some rs ∧ EvBR X scope ((wipe σ [j]).set j (some (.ref q))) H1 elt (fun v H3 => (v = .ref q ∧ rs = ds) ∨ NewR X.K H1 rs v H3)) (hw : ∀ x, wipe ((wipe σ [j]).set j (some x)) [j] = wipe σ [j] := by intro _; rfl)
    (hs : ∀ x, foldedSetIterable it X.env x = pure x := by intro _; rfl) : Ev X σ H (.ListComp elt [⟨.Name y py, it, [], 0⟩] scope pos) (LL X.K rss) := fun H1 e1 Q q =>
  uE.of (pe_lc (te := uB X scope elt) hc hN (pi_list pe_u) ok hg (fun _ _ _ _ _ => pts_nil) (fun s H C cl fp => ⟨fun pins s' σ' H' Q' I h => h s H C cl fp pins s' I⟩) hs) (he H1 e1 _ fun v H2 e2 r => by
    obtain ⟨l, xs, rfl, hl0, hxl, hx⟩ := r
    refine ⟨l, rfl, ⟨xs, Or.inl (Or.inl hl0)⟩, fun D hD => ?_⟩
    refine lc_it (walk_list (K := X.K) (a := l) (xs := xs)) (fun i H' => Ex H2 H' ∧ ∃ acc, H' D = some (.lst acc) ∧ LLg X.K D acc (rss.take i) H') ⟨ex_new hD, [], upd_same, rfl, fun i x hx => by simp at hx⟩ (fun i H' _ h => Evl.ex_l h.1 (Or.inl (Or.inl hl0))) (fun i x H3 H4 hin hp hy => ?_) fun H' h => ?_
    · obtain ⟨x2, acc, h1, h2⟩ := hp
      obtain ⟨rfl, hxi⟩ := hy
      obtain ⟨qq, ds, ys, rfl, _, hds, hq, hr⟩ := hx i x hxi
      obtain ⟨rs, hrs, hB⟩ := hi i H4 qq ys ds ((e1.trans e2).trans x2) hds (x2 _ _ hq) (hr.ex x2)
      refine ⟨hw (.ref qq), ?_⟩
      unfold tYes
      dsimp only
      rw [if_pos rfl]
      intro s H0 C cl fp
      refine hB s H0 C cl fp H4 (ex_refl H4) _ fun v H6 x6 rv => ?_
      have hD6 : H6 D = some (.lst acc) := x6 _ _ h1
      have r6 : LLg X.K D acc (rss.take i) H6 := h2.ex x6
      have rv : (v = .ref qq ∧ rs = ds) ∨ NewR X.K H4 rs v H6 := rv
      obtain ⟨w, zs, rfl, hwD, hwz, hwr⟩ : ∃ w zs, v = .ref w ∧ w ≠ D ∧ H6 w = some (.lst zs) ∧ RpL X.K H6 zs rs := by
        rcases rv with ⟨rfl, rfl⟩ | ⟨w, zs, rfl, g1, g2, g3⟩
        · refine ⟨qq, ys, rfl, ?_, x6 _ _ (x2 _ _ hq), hr.ex (x2.trans x6)⟩
          rintro rfl
          rw [hq] at hD
          cases hD
        · refine ⟨w, zs, rfl, ?_, g2, g3⟩
          rintro rfl
          rw [h1] at g1
          cases g1
      refine ⟨acc, hD6, Evl.sz_lt (by rw [h2.1, List.length_take]; omega), Evl.Ex.mut (x2.trans x6) hD, acc ++ [.ref w], upd_same, ?_⟩
      rw [List.take_add_one, hrs]
      exact (r6.push hwD hwz hwr).bt (Or.inr rfl) ((Bt.refl _ _).put) (KT.lst hD6)
    · obtain ⟨x2, acc, h1, h2⟩ := h
      rw [hxl, ← hl, List.take_length] at h2
      exact q _ _ (e2.trans x2) (h2.ll h1))
end
end Ar
set_option maxHeartbeats 4000000
/-! Walk: frames, rows. -/
namespace Ar
open PySem L2
def dF (f : Fr) : PyData := .tuple [dP f.place, .int f.turns, .int f.hand, dQ f.size]
theorem flip_dP {h : Int} {p : Pt} (hh : h = 1 ∨ h = -1) : PyData.tuple [dQ p.1, .tuple [.int (h * p.2.num), .int (p.2.den : Int)]] = dP (gFlip h p) := by
  unfold gFlip dP
  rcases hh with rfl | rfl
  · rw [if_pos rfl, Int.one_mul]; rfl
  · rw [if_neg (by decide)]
    show _ = PyData.tuple [dQ p.1, .tuple [.int (-p.2).num, .int ((-p.2).den : Int)]]
    rw [Rat.neg_num, Rat.neg_den, Int.neg_one_mul]
mutual
def dR : Row → PyData
  | .go x => .tuple [.str "go", dQ x]
  | .skip x => .tuple [.str "skip", dQ x]
  | .side x y => .tuple [.str "side", dQ x, dQ y]
  | .dot => .tuple [.str "dot"]
  | .turn k => .tuple [.str (if k = 1 then "left" else if k = 2 then "round" else "right")]
  | .mirror => .tuple [.str "mirror"]
  | .grow k => .tuple [.str "grow", dQ k]
  | .quarter x => .tuple [.str "quarter", dQ x]
  | .half x => .tuple [.str "half", dQ x]
  | .arc cx cy px py => .tuple [.str "arc", dQ cx, dQ cy, dQ px, dQ py]
  | .again n rs => .tuple [.str "again", .int n, .tuple (dRs rs)]
  | .keep rs => .tuple [.str "keep", .tuple (dRs rs)]
  | .ever rs => .tuple [.str "ever", .tuple (dRs rs)]
def dRs : List Row → List PyData
  | [] => []
  | r :: rs => dR r :: dRs rs
end
theorem dRs_eq : ∀ rs : List Row, dRs rs = rs.map dR
  | [] => rfl
  | r :: rs => by
    show dR r :: dRs rs = _
    rw [dRs_eq rs]
    rfl
theorem cm_hand {h : Int} (hh : h = 1 ∨ h = -1) (j : Int) : CMul h j := Or.inl (by rcases hh with rfl | rfl <;> decide)
theorem dR_get {rs : List Row} {i : Nat} {d : PyData} (h : (dRs rs)[i]? = some d) : ∃ r, rs[i]? = some r ∧ d = dR r := by
  rw [dRs_eq, List.getElem?_map] at h
  obtain ⟨r, h1, h2⟩ := Option.map_eq_some_iff.mp h
  exact ⟨r, h1, h2.symm⟩
theorem dRs_len (rs : List Row) : (dRs rs).length = rs.length := by rw [dRs_eq, List.length_map]
section
variable {P : Program} {w : World} {K : PySem.W.Frag} {mg : Str → Option Value} {base : Heap}
def dom_first : List PyData → PyData → Prop := fun ds r => ds = [] ∧ r = dF fr0
theorem ok_first (T : Tx P w K mg base) : C8.Cal P w K mg base 1 "first" (spD K 0 dom_first) [] := by
  refine cal_of T.d_first sc_first (fun vs H Q E h => h.1) fun f cdv A outer s H vs Q E hr h => ?_
  obtain ⟨_, ds, r, rs, ⟨rfl, rfl⟩, q⟩ := h
  cases rs
  exact go_ret (ev_tup (ea_cons (ev_nought T) (ea_cons ev_int (ea_cons ev_int (ea_cons (ev_tup (ea_cons ev_int (ea_cons ev_int ea_nil))) ea_nil))))) fun v H1 e1 rv => q v H1 e1 rv
def dom_led : List PyData → PyData → Prop := fun ds r => ∃ (f : Fr) (p : Pt), ds = [dF f, dP p] ∧ (f.hand = 1 ∨ f.hand = -1) ∧ hp p + ht f.size + hp f.place ≤ 5000000 ∧ r = dP (gLed f p)
theorem ok_led (T : Tx P w K mg base) : C8.Cal P w K mg base 36 "led" (spD K 2 dom_led) [] := by
  refine cal_of T.d_led sc_led (fun vs H Q E h => h.1) fun f cdv A outer s H vs Q E hr h => ?_
  obtain ⟨_, ds, r, rs, ⟨fr, p, rfl, hh, hb, rfl⟩, q⟩ := h
  obtain ⟨v_f, v_p, rfl, r_f, r_p⟩ := inv2 rs
  refine go_unp [2, 3, 4, 5] (ev_d 0 r_f) rfl sc_led.nd (nm_cons 2 (nm_cons 3 (nm_cons 4 (nm_cons 5 NmAt.nil)))) fun vs1 H1 e1 rs1 => ?_
  obtain ⟨v_pl, v_tu, v_ha, v_si, rfl, r_pl, r_tu, r_ha, r_si⟩ := inv4 rs1
  have r_p := r_p.ex e1
  refine go_unp [6, 7] (ev_d 1 r_p) rfl sc_led.nd (nm_cons 6 (nm_cons 7 NmAt.nil)) fun vs2 H2 e2 rs2 => ?_
  obtain ⟨v_x, v_y, rfl, r_x, r_y⟩ := inv2 rs2
  have r_pl := r_pl.ex e2
  have r_tu := r_tu.ex e2
  have r_ha := r_ha.ex e2
  have r_si := r_si.ex e2
  have b1 := hp_flip fr.hand p
  have b2 := hp_turn (gFlip fr.hand p) (fr.turns % 4).toNat
  have b3 := hp_grow (gTurn (gFlip fr.hand p) (fr.turns % 4).toNat) fr.size
  refine go_ret (ev_call (ok_together T) hr (ea_cons (ev_call (ok_grown T) hr (ea_cons (ev_call (ok_turned T) hr (ea_cons ((ev_tup (ea_cons (ev_d 6 r_x) (ea_cons (ev_tup (ea_cons (ev_mulS (ev_d 4 r_ha) (ev_ix (ev_d 7 r_y) ev_int) (cm_hand hh _)) (ea_cons (ev_ix (ev_d 7 r_y) ev_int) ea_nil))) ea_nil))).cast (flip_dP hh)) (ea_cons (ev_d 3 r_tu) ea_nil)) ⟨_, _, rfl, rfl⟩) (ea_cons (ev_d 5 r_si) ea_nil)) ⟨_, _, rfl, by omega, rfl⟩) (ea_cons (ev_d 2 r_pl) ea_nil)) ⟨_, _, rfl, by omega, rfl⟩) fun v H3 e3 rv => q v H3 ((e1.trans e2).trans e3) rv
def dom_behind : List PyData → PyData → Prop := fun ds r => ∃ (f g : Fr), ds = [dF f, dF g] ∧ (f.hand = 1 ∨ f.hand = -1) ∧ hp g.place + ht f.size + hp f.place + ht g.size ≤ 5000000 ∧ r = dF (gBehind f g)
theorem ok_behind (T : Tx P w K mg base) : C8.Cal P w K mg base 37 "behind" (spD K 2 dom_behind) [] := by
  refine cal_of T.d_behind sc_behind (fun vs H Q E h => h.1) fun f cdv A outer s H vs Q E hr h => ?_
  obtain ⟨_, ds, r, rs, ⟨fr, g, rfl, hh, hb, rfl⟩, q⟩ := h
  obtain ⟨v_f, v_g, rfl, r_f, r_g⟩ := inv2 rs
  refine go_asg 2 (ev_mod (ev_add (ev_ix (ev_d 0 r_f) ev_int) (ev_mulS (ev_ix (ev_d 0 r_f) ev_int) (ev_ix (ev_d 1 r_g) ev_int) (cm_hand hh _))) ev_int (by decide)) (fun v_t H1 e1 r_t => ?_) sc_behind.nd
  have r_f := r_f.ex e1
  have r_g := r_g.ex e1
  exact go_ret (ev_tup (ea_cons (ev_call (ok_led T) hr (ea_cons (ev_d 0 r_f) (ea_cons (ev_ix (ev_d 1 r_g) ev_int) ea_nil)) ⟨fr, g.place, rfl, hh, by omega, rfl⟩) (ea_cons (ev_d 2 r_t) (ea_cons (ev_mulS (ev_ix (ev_d 0 r_f) ev_int) (ev_ix (ev_d 1 r_g) ev_int) (cm_hand hh _)) (ea_cons (ev_call (ok_times T) hr (ea_cons (ev_ix (ev_d 0 r_f) ev_int) (ea_cons (ev_ix (ev_d 1 r_g) ev_int) ea_nil)) ⟨_, _, rfl, by omega, rfl⟩) ea_nil))))) fun v H2 e2 rv => q v H2 (e1.trans e2) rv
def dom_stood : List PyData → PyData → Prop := fun ds r => ∃ (p : Pt) (k : Int), ds = [dP p, .int k] ∧ r = dF (frAt p k)
theorem stood_body (T : Tx P w K mg base) {ds : List Value} {dvs : List V} {f : Addr} {fd : FuncData} (F : C8.Def K mg "stood" s_stood f fd) (b : Binds K fd ["place", "turns"] ds) (hv : Vals dvs ds) : C8.Cal P w K mg base 1 "stood" (spD K 2 dom_stood) dvs :=
  C8.cal0 F b hv sc_stood (fun vs H Q E h => h.1) fun cdv A outer s H vs Q E hr h => ⟨_, pss_u, by
    obtain ⟨_, ds, r, rs, ⟨p, k, rfl, rfl⟩, q⟩ := h
    obtain ⟨v_f, v_g, rfl, r_f, r_g⟩ := inv2 rs
    exact go_ret (X := bX P w K mg base n_stood "stood" s_stood f cdv A outer s H E) (ev_tup (ea_cons (ev_d 0 r_f) (ea_cons (ev_d 1 r_g) (ea_cons ev_int (ea_cons (ev_tup (ea_cons ev_int (ea_cons ev_int ea_nil))) ea_nil))))) fun v H2 e2 rv => q v H2 e2 rv⟩
theorem ok_stood (T : Tx P w K mg base) : C8.Cal P w K mg base 1 "stood" (spD K 2 dom_stood) [] := by
  obtain ⟨f, fd, F, b, _⟩ := T.d_stood
  exact stood_body T F b .nil
theorem ok_stood1 (T : Tx P w K mg base) : C8.Cal P w K mg base 1 "stood" (spD K 2 dom_stood) [.int 0] := by
  obtain ⟨f, fd, F, _, t, b⟩ := T.d_stood
  exact stood_body T F b (.cons ⟨t, rfl⟩ .nil)
theorem zero_dv {K : PySem.W.Frag} : ∀ H, RpL K H [.int 0] [.int 0] := fun H => .cons (.int 0) .nil
def dom_straight : List PyData → PyData → Prop := fun ds r => ∃ (p : Pt), ds = [dP p] ∧ hp p ≤ 1000 ∧ r = .tuple [dPc (gStretch (0, 0) p), dF (frAt p 0)]
theorem ok_straight (T : Tx P w K mg base) : C8.Cal P w K mg base 37 "straight" (spD K 1 dom_straight) [] := by
  refine cal_of T.d_straight sc_straight (fun vs H Q E h => h.1) fun f cdv A outer s H vs Q E hr h => ?_
  obtain ⟨_, ds, r, rs, ⟨p, rfl, hb, rfl⟩, q⟩ := h
  obtain ⟨v_p, rfl, r_p⟩ := inv1 rs
  have z : hp (0, 0) ≤ 2 := by decide
  exact go_ret (ev_tup (ea_cons (ev_call (ok_stretch T) hr (ea_cons (ev_nought T) (ea_cons (ev_d 0 r_p) ea_nil)) ⟨_, _, rfl, by omega, rfl⟩) (ea_cons (ev_callDv (ok_stood1 T) hr (ea_cons (ev_d 0 r_p) ea_nil) zero_dv ⟨_, _, rfl, rfl⟩) ea_nil))) fun v H1 e1 rv => q v H1 e1 rv
end
end Ar
set_option maxHeartbeats 4000000
/-! Walk: shaped, moved_by, told_leg, led_leg, done_by. -/
namespace Ar
open PySem L2
theorem quarter_far (x : Rat) : gFar (0, x) (0, 0) = gFar (0, x) (gAbs x, x) := by
  have := abs_sq x
  unfold gFar gAlong gOff
  simp only
  grind
theorem quarter_ne {x : Rat} (h : x ≠ 0) : x ≠ 0 ∧ ((0, x) : Pt) ≠ (gAbs x, x) := ⟨h, fun e => by
  have e1 : 0 = gAbs x := congrArg Prod.fst e
  have := abs_sq x
  rw [← e1] at this
  rcases Rat.mul_eq_zero.mp (show x * x = 0 by grind) with q | q <;> exact h q⟩
theorem half_far (x : Rat) : gFar (0, x) (0, 0) = gFar (0, x) (0, x + x) := by
  unfold gFar gAlong gOff
  simp only
  grind
theorem half_ne {x : Rat} (h : x ≠ 0) : x ≠ 0 ∧ ((0, x) : Pt) ≠ (0, x + x) := ⟨h, fun e => by
  have e1 : x = x + x := congrArg Prod.snd e
  exact h (by grind)⟩
theorem half_turn (x : Rat) : (if 0 < x then (2 : Int) else (0 - 2) % 4) = 2 := by split <;> rfl
theorem num_pos_iff {x : Rat} : decide (0 < x.num) = decide (0 < x) := decide_eq_decide.mpr (by
  have h := Rat.lt_iff 0 x
  simp at h
  exact h.symm)
theorem num_neg_iff {x : Rat} : decide (x.num < 0) = decide (x < 0) := decide_eq_decide.mpr (by
  have h := Rat.lt_iff x 0
  simp at h
  exact h.symm)
theorem abs_dP (x : Rat) : PyData.tuple [.tuple [.int (x.num.natAbs : Int), .int (x.den : Int)], dQ x] = dP (gAbs x, x) := by
  show _ = PyData.tuple [dQ (gAbs x), dQ x]
  have e : PyData.tuple [.int (x.num.natAbs : Int), .int (x.den : Int)] = dQ (gAbs x) := by
    unfold gAbs dQ
    have h := num_neg_iff (x := x)
    split
    · rename_i hx
      rw [decide_eq_true hx] at h
      have hn : x.num < 0 := of_decide_eq_true h
      rw [Rat.neg_num, Rat.neg_den]
      rw [show (x.num.natAbs : Int) = -x.num by omega]
    · rename_i hx
      rw [decide_eq_false hx] at h
      have hn : ¬ x.num < 0 := of_decide_eq_false h
      rw [show (x.num.natAbs : Int) = x.num by omega]
  rw [e]
def gBowPc (x : Rat) (p : Pt) : Piece := if 0 < x then gArc (0, x) (0, 0) p else gArc (0, x) p (0, 0)
def gPc : Row → PyData
  | .go x => dPc (gStretch (0, 0) (x, 0))
  | .side x y => dPc (gStretch (0, 0) (x, y))
  | .dot => .tuple [.str "dot", dP (0, 0)]
  | .quarter x => dPc (gBowPc x (gAbs x, x))
  | .half x => dPc (gBowPc x (0, x + x))
  | .arc cx cy px py => dPc (gArc (cx, cy) (0, 0) (px, py))
  | _ => .none
section
variable {P : Program} {w : World} {K : PySem.W.Frag} {mg : Str → Option Value} {base : Heap}
def dom_bowed : List PyData → PyData → Prop := fun ds r => ∃ (x : Rat) (p : Pt) (k : Int), ds = [dQ x, dP p, .int k] ∧ ht x + hp p ≤ 1000 ∧ gFar (0, x) (0, 0) = gFar (0, x) p ∧ (x ≠ 0 ∧ ((0, x) : Pt) ≠ p) ∧ r = .tuple [dPc (gBowPc x p), dF (frAt p (if 0 < x then k else (0 - k) % 4))]
theorem ok_bowed (T : Tx P w K mg base) : C8.Cal P w K mg base 38 "bowed" (spD K 3 dom_bowed) [] := by
  refine cal_of T.d_bowed sc_bowed (fun vs H Q E h => h.1) fun f cdv A outer s H vs Q E hr h => ?_
  obtain ⟨_, ds, r, rs, ⟨x, p, k, rfl, hb, hf, ⟨hx, hne⟩, rfl⟩, q⟩ := h
  obtain ⟨v_n, v_p, v_t, rfl, r_n, r_p, r_t⟩ := inv3 rs
  have z : hp (0, 0) ≤ 2 := by decide
  have zc : hp (0, x) ≤ 1 + ht x := by rw [hp_mk]; have := ht_zero; omega
  refine go_asg 3 (ev_tup (ea_cons (ev_tup (ea_cons ev_int (ea_cons ev_int ea_nil))) (ea_cons (ev_d 0 r_n) ea_nil))) (fun v_c H1 e1 r_c => ?_) sc_bowed.nd
  have r_n := r_n.ex e1
  have r_p := r_p.ex e1
  have r_t := r_t.ex e1
  have r_c : Rp K H1 v_c (dP (0, x)) := r_c
  have ne0 : ((0, x) : Pt) ≠ (0, 0) := fun e => hx (congrArg Prod.snd e)
  refine go_when (EvT.cast (et_gt (ev_ix (ev_d 0 r_n) ev_int) ev_int) num_pos_iff) (fun hk H2 e2 => ?_) fun hk H2 e2 => ?_
  · have hk := of_decide_eq_true hk
    have r_n := r_n.ex e2
    have r_p := r_p.ex e2
    have r_t := r_t.ex e2
    have r_c := r_c.ex e2
    refine go_ret (ev_tup (ea_cons (ev_call (ok_arc T) hr (ea_cons (ev_d 3 r_c) (ea_cons (ev_nought T) (ea_cons (ev_d 1 r_p) ea_nil))) ⟨_, _, _, rfl, by omega, hf, ne0, rfl⟩) (ea_cons (ev_call (ok_stood T) hr (ea_cons (ev_d 1 r_p) (ea_cons (ev_d 2 r_t) ea_nil)) ⟨_, _, rfl, rfl⟩) ea_nil))) fun v H3 e3 rv => q v H3 ((e1.trans e2).trans e3) ?_
    unfold gBowPc
    rw [if_pos hk, if_pos hk]
    exact rv
  · have hk := of_decide_eq_false hk
    have r_n := r_n.ex e2
    have r_p := r_p.ex e2
    have r_t := r_t.ex e2
    have r_c := r_c.ex e2
    refine go_ret (ev_tup (ea_cons (ev_call (ok_arc T) hr (ea_cons (ev_d 3 r_c) (ea_cons (ev_d 1 r_p) (ea_cons (ev_nought T) ea_nil))) ⟨_, _, _, rfl, by omega, hf.symm, hne, rfl⟩) (ea_cons (ev_call (ok_stood T) hr (ea_cons (ev_d 1 r_p) (ea_cons (ev_mod (ev_sub ev_int (ev_d 2 r_t)) ev_int (by decide)) ea_nil)) ⟨_, _, rfl, rfl⟩) ea_nil))) fun v H3 e3 rv => q v H3 ((e1.trans e2).trans e3) ?_
    unfold gBowPc
    rw [if_neg hk, if_neg hk]
    exact rv
def dom_shaped : List PyData → PyData → Prop := fun ds r => ∃ (row : Row), ds = [dR row] ∧ isPlain row = true ∧ RowOk row ∧ r = .tuple [gPc row, dF (gFr row)]
theorem ok_shaped (T : Tx P w K mg base) : C8.Cal P w K mg base 39 "shaped" (spD K 1 dom_shaped) [] := by
  refine cal_of T.d_shaped sc_shaped (fun vs H Q E h => h.1) fun f cdv A outer s H vs Q E hr h => ?_
  obtain ⟨_, ds, r, rs, ⟨row, rfl, hpn, ok, rfl⟩, q⟩ := h
  obtain ⟨v_row, rfl, r_row⟩ := inv1 rs
  cases row with
  | go x =>
    have h0 : ht x ≤ 40 := ok
    have z := ht_zero
    refine go_asg 1 (ev_ix (ev_d 0 r_row) ev_int) (fun v_word H0 e0 r_word => ?_) sc_shaped.nd
    have r_row := r_row.ex e0
    have x0 := e0
    refine go_yes (EvT.cast (et_eqS (ev_d 1 r_word) ev_str) (by decide)) (fun H1 e1 => ?_)
    have r_row := r_row.ex e1
    exact go_ret (ev_call (ok_straight T) hr (ea_cons (ev_tup (ea_cons (ev_ix (ev_d 0 r_row) ev_int) (ea_cons (ev_tup (ea_cons ev_int (ea_cons ev_int ea_nil))) ea_nil))) ea_nil) ⟨(x, 0), rfl, (by rw [hp_mk]; omega), rfl⟩) fun v H' e' rv => q v H' ((x0.trans e1).trans e') rv
  | skip x =>
    refine go_asg 1 (ev_ix (ev_d 0 r_row) ev_int) (fun v_word H0 e0 r_word => ?_) sc_shaped.nd
    have r_row := r_row.ex e0
    have x0 := e0
    refine go_no (EvT.cast (et_eqS (ev_d 1 r_word) ev_str) (by decide)) (fun H1 e1 => ?_)
    have r_row := r_row.ex e1
    have r_word := r_word.ex e1
    have x1 := x0.trans e1
    refine go_yes (EvT.cast (et_eqS (ev_d 1 r_word) ev_str) (by decide)) (fun H2 e2 => ?_)
    have r_row := r_row.ex e2
    exact go_ret (ev_tup (ea_cons ev_non (ea_cons (ev_callDv (ok_stood1 T) hr (ea_cons (ev_tup (ea_cons (ev_ix (ev_d 0 r_row) ev_int) (ea_cons (ev_tup (ea_cons ev_int (ea_cons ev_int ea_nil))) ea_nil))) ea_nil) zero_dv ⟨(x, 0), _, rfl, rfl⟩) ea_nil))) fun v H' e' rv => q v H' ((x1.trans e2).trans e') rv
  | side x y =>
    have h0 : ht x ≤ 40 ∧ ht y ≤ 40 := ok
    refine go_asg 1 (ev_ix (ev_d 0 r_row) ev_int) (fun v_word H0 e0 r_word => ?_) sc_shaped.nd
    have r_row := r_row.ex e0
    have x0 := e0
    refine go_no (EvT.cast (et_eqS (ev_d 1 r_word) ev_str) (by decide)) (fun H1 e1 => ?_)
    have r_row := r_row.ex e1
    have r_word := r_word.ex e1
    have x1 := x0.trans e1
    refine go_no (EvT.cast (et_eqS (ev_d 1 r_word) ev_str) (by decide)) (fun H2 e2 => ?_)
    have r_row := r_row.ex e2
    have r_word := r_word.ex e2
    have x2 := x1.trans e2
    refine go_yes (EvT.cast (et_eqS (ev_d 1 r_word) ev_str) (by decide)) (fun H3 e3 => ?_)
    have r_row := r_row.ex e3
    exact go_ret (ev_call (ok_straight T) hr (ea_cons (ev_tup (ea_cons (ev_ix (ev_d 0 r_row) ev_int) (ea_cons (ev_ix (ev_d 0 r_row) ev_int) ea_nil))) ea_nil) ⟨(x, y), rfl, (by rw [hp_mk]; omega), rfl⟩) fun v H' e' rv => q v H' ((x2.trans e3).trans e') rv
  | dot =>
    refine go_asg 1 (ev_ix (ev_d 0 r_row) ev_int) (fun v_word H0 e0 r_word => ?_) sc_shaped.nd
    have r_row := r_row.ex e0
    have x0 := e0
    refine go_no (EvT.cast (et_eqS (ev_d 1 r_word) ev_str) (by decide)) (fun H1 e1 => ?_)
    have r_row := r_row.ex e1
    have r_word := r_word.ex e1
    have x1 := x0.trans e1
    refine go_no (EvT.cast (et_eqS (ev_d 1 r_word) ev_str) (by decide)) (fun H2 e2 => ?_)
    have r_row := r_row.ex e2
    have r_word := r_word.ex e2
    have x2 := x1.trans e2
    refine go_no (EvT.cast (et_eqS (ev_d 1 r_word) ev_str) (by decide)) (fun H3 e3 => ?_)
    have r_row := r_row.ex e3
    have r_word := r_word.ex e3
    have x3 := x2.trans e3
    refine go_yes (EvT.cast (et_eqS (ev_d 1 r_word) ev_str) (by decide)) (fun H4 e4 => ?_)
    have r_row := r_row.ex e4
    exact go_ret (ev_tup (ea_cons (ev_tup (ea_cons ev_str (ea_cons (ev_nought T) ea_nil))) (ea_cons (ev_call0 (ok_first T) hr ⟨rfl, rfl⟩) ea_nil))) fun v H' e' rv => q v H' ((x3.trans e4).trans e') rv
  | mirror =>
    refine go_asg 1 (ev_ix (ev_d 0 r_row) ev_int) (fun v_word H0 e0 r_word => ?_) sc_shaped.nd
    have r_row := r_row.ex e0
    have x0 := e0
    refine go_no (EvT.cast (et_eqS (ev_d 1 r_word) ev_str) (by decide)) (fun H1 e1 => ?_)
    have r_row := r_row.ex e1
    have r_word := r_word.ex e1
    have x1 := x0.trans e1
    refine go_no (EvT.cast (et_eqS (ev_d 1 r_word) ev_str) (by decide)) (fun H2 e2 => ?_)
    have r_row := r_row.ex e2
    have r_word := r_word.ex e2
    have x2 := x1.trans e2
    refine go_no (EvT.cast (et_eqS (ev_d 1 r_word) ev_str) (by decide)) (fun H3 e3 => ?_)
    have r_row := r_row.ex e3
    have r_word := r_word.ex e3
    have x3 := x2.trans e3
    refine go_no (EvT.cast (et_eqS (ev_d 1 r_word) ev_str) (by decide)) (fun H4 e4 => ?_)
    have r_row := r_row.ex e4
    have r_word := r_word.ex e4
    have x4 := x3.trans e4
    refine go_yes (EvT.cast (et_eqS (ev_d 1 r_word) ev_str) (by decide)) (fun H5 e5 => ?_)
    have r_row := r_row.ex e5
    exact go_ret (ev_tup (ea_cons ev_non (ea_cons (ev_tup (ea_cons (ev_nought T) (ea_cons ev_int (ea_cons (ev_neg ev_int) (ea_cons (ev_tup (ea_cons ev_int (ea_cons ev_int ea_nil))) ea_nil))))) ea_nil))) fun v H' e' rv => q v H' ((x4.trans e5).trans e') rv
  | grow k =>
    refine go_asg 1 (ev_ix (ev_d 0 r_row) ev_int) (fun v_word H0 e0 r_word => ?_) sc_shaped.nd
    have r_row := r_row.ex e0
    have x0 := e0
    refine go_no (EvT.cast (et_eqS (ev_d 1 r_word) ev_str) (by decide)) (fun H1 e1 => ?_)
    have r_row := r_row.ex e1
    have r_word := r_word.ex e1
    have x1 := x0.trans e1
    refine go_no (EvT.cast (et_eqS (ev_d 1 r_word) ev_str) (by decide)) (fun H2 e2 => ?_)
    have r_row := r_row.ex e2
    have r_word := r_word.ex e2
    have x2 := x1.trans e2
    refine go_no (EvT.cast (et_eqS (ev_d 1 r_word) ev_str) (by decide)) (fun H3 e3 => ?_)
    have r_row := r_row.ex e3
    have r_word := r_word.ex e3
    have x3 := x2.trans e3
    refine go_no (EvT.cast (et_eqS (ev_d 1 r_word) ev_str) (by decide)) (fun H4 e4 => ?_)
    have r_row := r_row.ex e4
    have r_word := r_word.ex e4
    have x4 := x3.trans e4
    refine go_no (EvT.cast (et_eqS (ev_d 1 r_word) ev_str) (by decide)) (fun H5 e5 => ?_)
    have r_row := r_row.ex e5
    have r_word := r_word.ex e5
    have x5 := x4.trans e5
    refine go_yes (EvT.cast (et_eqS (ev_d 1 r_word) ev_str) (by decide)) (fun H6 e6 => ?_)
    have r_row := r_row.ex e6
    exact go_ret (ev_tup (ea_cons ev_non (ea_cons (ev_tup (ea_cons (ev_nought T) (ea_cons ev_int (ea_cons ev_int (ea_cons (ev_ix (ev_d 0 r_row) ev_int) ea_nil))))) ea_nil))) fun v H' e' rv => q v H' ((x5.trans e6).trans e') rv
  | quarter x =>
    have h0 : x ≠ 0 ∧ ht x ≤ 40 := ok
    have z := ht_zero
    have za := ht_abs x
    refine go_asg 1 (ev_ix (ev_d 0 r_row) ev_int) (fun v_word H0 e0 r_word => ?_) sc_shaped.nd
    have r_row := r_row.ex e0
    have x0 := e0
    refine go_no (EvT.cast (et_eqS (ev_d 1 r_word) ev_str) (by decide)) (fun H1 e1 => ?_)
    have r_row := r_row.ex e1
    have r_word := r_word.ex e1
    have x1 := x0.trans e1
    refine go_no (EvT.cast (et_eqS (ev_d 1 r_word) ev_str) (by decide)) (fun H2 e2 => ?_)
    have r_row := r_row.ex e2
    have r_word := r_word.ex e2
    have x2 := x1.trans e2
    refine go_no (EvT.cast (et_eqS (ev_d 1 r_word) ev_str) (by decide)) (fun H3 e3 => ?_)
    have r_row := r_row.ex e3
    have r_word := r_word.ex e3
    have x3 := x2.trans e3
    refine go_no (EvT.cast (et_eqS (ev_d 1 r_word) ev_str) (by decide)) (fun H4 e4 => ?_)
    have r_row := r_row.ex e4
    have r_word := r_word.ex e4
    have x4 := x3.trans e4
    refine go_no (EvT.cast (et_eqS (ev_d 1 r_word) ev_str) (by decide)) (fun H5 e5 => ?_)
    have r_row := r_row.ex e5
    have r_word := r_word.ex e5
    have x5 := x4.trans e5
    refine go_no (EvT.cast (et_eqS (ev_d 1 r_word) ev_str) (by decide)) (fun H6 e6 => ?_)
    have r_row := r_row.ex e6
    have r_word := r_word.ex e6
    have x6 := x5.trans e6
    refine go_yes (EvT.cast (et_eqS (ev_d 1 r_word) ev_str) (by decide)) (fun H7 e7 => ?_)
    have r_row := r_row.ex e7
    exact go_ret ((ev_call (ok_bowed T) hr (ea_cons (ev_ix (ev_d 0 r_row) ev_int) (ea_cons (((ev_tup (ea_cons (ev_tup (ea_cons (ev_abs T.m_abs (ev_ix (ev_ix (ev_d 0 r_row) ev_int) ev_int)) (ea_cons (ev_ix (ev_ix (ev_d 0 r_row) ev_int) ev_int) ea_nil))) (ea_cons (ev_ix (ev_d 0 r_row) ev_int) ea_nil)))).cast (abs_dP x)) (ea_cons ev_int ea_nil))) ⟨x, (gAbs x, x), 1, rfl, (by rw [hp_mk]; omega), quarter_far x, quarter_ne h0.1, rfl⟩)) fun v H' e' rv => q v H' ((x6.trans e7).trans e') rv
  | half x =>
    have h0 : x ≠ 0 ∧ ht x ≤ 40 := ok
    have z := ht_zero
    have za := ht_add x x
    refine go_asg 1 (ev_ix (ev_d 0 r_row) ev_int) (fun v_word H0 e0 r_word => ?_) sc_shaped.nd
    have r_row := r_row.ex e0
    have x0 := e0
    refine go_no (EvT.cast (et_eqS (ev_d 1 r_word) ev_str) (by decide)) (fun H1 e1 => ?_)
    have r_row := r_row.ex e1
    have r_word := r_word.ex e1
    have x1 := x0.trans e1
    refine go_no (EvT.cast (et_eqS (ev_d 1 r_word) ev_str) (by decide)) (fun H2 e2 => ?_)
    have r_row := r_row.ex e2
    have r_word := r_word.ex e2
    have x2 := x1.trans e2
    refine go_no (EvT.cast (et_eqS (ev_d 1 r_word) ev_str) (by decide)) (fun H3 e3 => ?_)
    have r_row := r_row.ex e3
    have r_word := r_word.ex e3
    have x3 := x2.trans e3
    refine go_no (EvT.cast (et_eqS (ev_d 1 r_word) ev_str) (by decide)) (fun H4 e4 => ?_)
    have r_row := r_row.ex e4
    have r_word := r_word.ex e4
    have x4 := x3.trans e4
    refine go_no (EvT.cast (et_eqS (ev_d 1 r_word) ev_str) (by decide)) (fun H5 e5 => ?_)
    have r_row := r_row.ex e5
    have r_word := r_word.ex e5
    have x5 := x4.trans e5
    refine go_no (EvT.cast (et_eqS (ev_d 1 r_word) ev_str) (by decide)) (fun H6 e6 => ?_)
    have r_row := r_row.ex e6
    have r_word := r_word.ex e6
    have x6 := x5.trans e6
    refine go_no (EvT.cast (et_eqS (ev_d 1 r_word) ev_str) (by decide)) (fun H7 e7 => ?_)
    have r_row := r_row.ex e7
    have r_word := r_word.ex e7
    have x7 := x6.trans e7
    refine go_yes (EvT.cast (et_eqS (ev_d 1 r_word) ev_str) (by decide)) (fun H8 e8 => ?_)
    have r_row := r_row.ex e8
    exact go_ret (ev_call (ok_bowed T) hr (ea_cons (ev_ix (ev_d 0 r_row) ev_int) (ea_cons (ev_tup (ea_cons (ev_tup (ea_cons ev_int (ea_cons ev_int ea_nil))) (ea_cons (ev_call (ok_plus T) hr (ea_cons (ev_ix (ev_d 0 r_row) ev_int) (ea_cons (ev_ix (ev_d 0 r_row) ev_int) ea_nil)) ⟨_, _, rfl, (by omega), rfl⟩) ea_nil))) (ea_cons ev_int ea_nil))) ⟨x, (0, x + x), 2, rfl, (by rw [hp_mk]; omega), half_far x, half_ne h0.1, rfl⟩) fun v H' e' rv => q v H' ((x7.trans e8).trans e') (by rw [half_turn] at rv; exact rv)
  | arc cx cy px py =>
    have h0 : (ht cx ≤ 40 ∧ ht cy ≤ 40 ∧ ht px ≤ 40 ∧ ht py ≤ 40) ∧ gFar (cx, cy) (0, 0) = gFar (cx, cy) (px, py) ∧ ((cx, cy) : Pt) ≠ (0, 0) := ok
    have z : hp (0, 0) ≤ 2 := by decide
    refine go_asg 1 (ev_ix (ev_d 0 r_row) ev_int) (fun v_word H0 e0 r_word => ?_) sc_shaped.nd
    have r_row := r_row.ex e0
    have x0 := e0
    refine go_no (EvT.cast (et_eqS (ev_d 1 r_word) ev_str) (by decide)) (fun H1 e1 => ?_)
    have r_row := r_row.ex e1
    have r_word := r_word.ex e1
    have x1 := x0.trans e1
    refine go_no (EvT.cast (et_eqS (ev_d 1 r_word) ev_str) (by decide)) (fun H2 e2 => ?_)
    have r_row := r_row.ex e2
    have r_word := r_word.ex e2
    have x2 := x1.trans e2
    refine go_no (EvT.cast (et_eqS (ev_d 1 r_word) ev_str) (by decide)) (fun H3 e3 => ?_)
    have r_row := r_row.ex e3
    have r_word := r_word.ex e3
    have x3 := x2.trans e3
    refine go_no (EvT.cast (et_eqS (ev_d 1 r_word) ev_str) (by decide)) (fun H4 e4 => ?_)
    have r_row := r_row.ex e4
    have r_word := r_word.ex e4
    have x4 := x3.trans e4
    refine go_no (EvT.cast (et_eqS (ev_d 1 r_word) ev_str) (by decide)) (fun H5 e5 => ?_)
    have r_row := r_row.ex e5
    have r_word := r_word.ex e5
    have x5 := x4.trans e5
    refine go_no (EvT.cast (et_eqS (ev_d 1 r_word) ev_str) (by decide)) (fun H6 e6 => ?_)
    have r_row := r_row.ex e6
    have r_word := r_word.ex e6
    have x6 := x5.trans e6
    refine go_no (EvT.cast (et_eqS (ev_d 1 r_word) ev_str) (by decide)) (fun H7 e7 => ?_)
    have r_row := r_row.ex e7
    have r_word := r_word.ex e7
    have x7 := x6.trans e7
    refine go_no (EvT.cast (et_eqS (ev_d 1 r_word) ev_str) (by decide)) (fun H8 e8 => ?_)
    have r_row := r_row.ex e8
    have r_word := r_word.ex e8
    have x8 := x7.trans e8
    refine go_yes (EvT.cast (et_eqS (ev_d 1 r_word) ev_str) (by decide)) (fun H9 e9 => ?_)
    have r_row := r_row.ex e9
    exact go_ret (ev_tup (ea_cons (ev_call (ok_arc T) hr (ea_cons (ev_tup (ea_cons (ev_ix (ev_d 0 r_row) ev_int) (ea_cons (ev_ix (ev_d 0 r_row) ev_int) ea_nil))) (ea_cons (ev_nought T) (ea_cons (ev_tup (ea_cons (ev_ix (ev_d 0 r_row) ev_int) (ea_cons (ev_ix (ev_d 0 r_row) ev_int) ea_nil))) ea_nil))) ⟨(cx, cy), (0, 0), (px, py), rfl, (by show hp (cx, cy) + hp (0, 0) + hp (px, py) ≤ 1000000; rw [hp_mk cx cy, hp_mk px py]; omega), h0.2.1, h0.2.2, rfl⟩) (ea_cons (ev_callDv (ok_stood1 T) hr (ea_cons (ev_tup (ea_cons (ev_ix (ev_d 0 r_row) ev_int) (ea_cons (ev_ix (ev_d 0 r_row) ev_int) ea_nil))) ea_nil) zero_dv ⟨(px, py), _, rfl, rfl⟩) ea_nil))) fun v H' e' rv => q v H' ((x8.trans e9).trans e') rv
  | turn k =>
    have hk : k = 1 ∨ k = 2 ∨ k = 3 := ok
    obtain ⟨tp, ht, k1, k2, k3⟩ := T.c_turns
    have hw : (if k = 1 then "left" else if k = 2 then "round" else "right" : Str) = "left" ∧ k = 1 ∨ (if k = 1 then "left" else if k = 2 then "round" else "right" : Str) = "round" ∧ k = 2 ∨ (if k = 1 then "left" else if k = 2 then "round" else "right" : Str) = "right" ∧ k = 3 := by rcases hk with rfl | rfl | rfl <;> decide
    have r_row : Rp K H v_row (.tuple [.str (if k = 1 then "left" else if k = 2 then "round" else "right")]) := r_row
    generalize hz : (if k = 1 then "left" else if k = 2 then "round" else "right" : Str) = z at hw r_row
    have kd : KDct K w tp z (.int k) := by rcases hw with ⟨rfl, rfl⟩ | ⟨rfl, rfl⟩ | ⟨rfl, rfl⟩ <;> assumption
    have no : ∀ u ∈ (["go", "skip", "side", "dot", "mirror", "grow", "quarter", "half", "arc"] : List Str), z ≠ u := by
      rcases hw with ⟨rfl, _⟩ | ⟨rfl, _⟩ | ⟨rfl, _⟩ <;> decide
    refine go_asg 1 (ev_ix (ev_d 0 r_row) ev_int) (fun v_word H0 e0 r_word => ?_) sc_shaped.nd
    have r_row := r_row.ex e0
    have x0 := e0
    refine go_no (EvT.cast (et_eqS (ev_d 1 r_word) ev_str) (decide_eq_false (no _ (by decide)))) (fun H1 e1 => ?_)
    have r_word := r_word.ex e1
    have x1 := x0.trans e1
    refine go_no (EvT.cast (et_eqS (ev_d 1 r_word) ev_str) (decide_eq_false (no _ (by decide)))) (fun H2 e2 => ?_)
    have r_word := r_word.ex e2
    have x2 := x1.trans e2
    refine go_no (EvT.cast (et_eqS (ev_d 1 r_word) ev_str) (decide_eq_false (no _ (by decide)))) (fun H3 e3 => ?_)
    have r_word := r_word.ex e3
    have x3 := x2.trans e3
    refine go_no (EvT.cast (et_eqS (ev_d 1 r_word) ev_str) (decide_eq_false (no _ (by decide)))) (fun H4 e4 => ?_)
    have r_word := r_word.ex e4
    have x4 := x3.trans e4
    refine go_no (EvT.cast (et_eqS (ev_d 1 r_word) ev_str) (decide_eq_false (no _ (by decide)))) (fun H5 e5 => ?_)
    have r_word := r_word.ex e5
    have x5 := x4.trans e5
    refine go_no (EvT.cast (et_eqS (ev_d 1 r_word) ev_str) (decide_eq_false (no _ (by decide)))) (fun H6 e6 => ?_)
    have r_word := r_word.ex e6
    have x6 := x5.trans e6
    refine go_no (EvT.cast (et_eqS (ev_d 1 r_word) ev_str) (decide_eq_false (no _ (by decide)))) (fun H7 e7 => ?_)
    have r_word := r_word.ex e7
    have x7 := x6.trans e7
    refine go_no (EvT.cast (et_eqS (ev_d 1 r_word) ev_str) (decide_eq_false (no _ (by decide)))) (fun H8 e8 => ?_)
    have r_word := r_word.ex e8
    have x8 := x7.trans e8
    refine go_no (EvT.cast (et_eqS (ev_d 1 r_word) ev_str) (decide_eq_false (no _ (by decide)))) (fun H9 e9 => ?_)
    have r_word := r_word.ex e9
    have x9 := x8.trans e9
    exact go_ret (ev_tup (ea_cons ev_non (ea_cons (ev_call (ok_stood T) hr (ea_cons (ev_nought T) (ea_cons ((ev_ixK (ev_globV ht rfl) (ev_d 1 r_word) kd).imp fun v H1 _ h => (by rw [h]; exact Rp.int _ : Rp K H1 v (.int k))) ea_nil)) ⟨_, _, rfl, rfl⟩) ea_nil))) fun v H' e' rv => q v H' (x9.trans e') rv
  | again _ _ => cases hpn
  | keep _ => cases hpn
  | ever _ => cases hpn
theorem plain_word {r : Row} (h : isPlain r = true) (ok : RowOk r) : ∃ (z : Str) (ds : List PyData), dR r = .tuple (.str z :: ds) ∧ z ≠ "again" ∧ z ≠ "keep" ∧ z ≠ "ever" := by
  cases r with
  | again _ _ => cases h
  | keep _ => cases h
  | ever _ => cases h
  | turn k =>
    have hk : k = 1 ∨ k = 2 ∨ k = 3 := ok
    rcases hk with rfl | rfl | rfl
    · exact ⟨_, _, rfl, by decide, by decide, by decide⟩
    · exact ⟨_, _, rfl, by decide, by decide, by decide⟩
    · exact ⟨_, _, rfl, by decide, by decide, by decide⟩
  | _ => exact ⟨_, _, rfl, by decide, by decide, by decide⟩
def dom_moved_by : List PyData → PyData → Prop := fun ds r => ∃ (row : Row), ds = [dR row] ∧ isPlain row = true ∧ RowOk row ∧ r = dF (gFr row)
theorem ok_moved_by (T : Tx P w K mg base) : C8.Cal P w K mg base 40 "moved_by" (spD K 1 dom_moved_by) [] := by
  refine cal_of T.d_moved_by sc_moved_by (fun vs H Q E h => h.1) fun f cdv A outer s H vs Q E hr h => ?_
  obtain ⟨_, ds, r, rs, ⟨row, rfl, hpn, ok, rfl⟩, q⟩ := h
  obtain ⟨v_row, rfl, r_row⟩ := inv1 rs
  obtain ⟨z, zs, e, z1, z2, z3⟩ := plain_word hpn ok
  have r0 := r_row
  rw [e] at r0
  have i0 : atI (PyData.str z :: zs) 0 = some (.str z) := atI_nat (j := 0) rfl
  refine go_no (EvT.cast (et_w (ew_or (EvT.cast (et_eqS (ev_ix (ev_d 0 r0) ev_int i0) ev_str) (decide_eq_false z2)) fun _ => ew_or1 (EvT.cast (et_eqS (ev_ix (ev_d 0 r0) ev_int i0) ev_str) (decide_eq_false z3)))) rfl) fun H1 e1 => ?_
  have r0 := r0.ex e1
  have r_row := r_row.ex e1
  refine go_yes (EvT.cast (et_neS (ev_ix (ev_d 0 r0) ev_int i0) ev_str) (by rw [decide_eq_false z1]; rfl)) fun H2 e2 => ?_
  have r_row := r_row.ex e2
  exact go_ret (ev_ix (ev_call (ok_shaped T) hr (ea_cons (ev_d 0 r_row) ea_nil) ⟨row, rfl, hpn, ok, rfl⟩) ev_int) fun v H3 e3 rv => q v H3 ((e1.trans e2).trans e3) rv
def optL : Option Leg → PyData
  | none => .none
  | some l => dL l
def dom_told_leg : List PyData → PyData → Prop := fun ds r => ∃ (row : Row), ds = [dR row] ∧ isPlain row = true ∧ RowOk row ∧ r = optL (gTold row)
theorem ok_told_leg (T : Tx P w K mg base) : C8.Cal P w K mg base 41 "told_leg" (spD K 1 dom_told_leg) [] := by
  refine cal_of T.d_told_leg sc_told_leg (fun vs H Q E h => h.1) fun f cdv A outer s H vs Q E hr h => ?_
  obtain ⟨_, ds, r, rs, ⟨row, rfl, hpn, ok, rfl⟩, q⟩ := h
  obtain ⟨v_row, rfl, r_row⟩ := inv1 rs
  obtain ⟨z, zs, ed, z1, z2, z3⟩ := plain_word hpn ok
  have i0 : atI (PyData.str z :: zs) 0 = some (.str z) := atI_nat (j := 0) rfl
  have ed' := ed
  refine go_asg 1 (ev_ix (ev_call (ok_moved_by T) hr (ea_cons (ev_d 0 r_row) ea_nil) ⟨row, rfl, hpn, ok, rfl⟩) ev_int) (fun v_p H1 e1 r_p => ?_) sc_told_leg.nd
  have r_row := r_row.ex e1
  have r_p : Rp K H1 v_p (dP (gFr row).place) := r_p
  have r0 := r_row
  rw [ed] at r0
  -- a line
  have line : ∀ (p : Pt), (gFr row).place = p → (["go", "side"].any fun w => w == z) = true → gTold row = (if p = (0, 0) then none else some (.str (0, 0) p)) → (["quarter", "half"].any fun w => w == z) = false → z ≠ "arc" →
      Go (bX P w K mg base n_told_leg "told_leg" s_told_leg f cdv A outer s H E) (List.drop 1 (C8.fnBody s_told_leg)) { nx := fun _ H' => Q .non H', rt := Q } [some v_row, some v_p, none] H1 := fun p hp1 hz ht h3 h4 => by
    rw [hp1] at r_p
    refine go_when (EvT.cast (et_w (ew_and (EvT.cast (et_inT (ws := ["go", "side"]) (ev_ix (ev_d 0 r0) ev_int i0) (ev_tup (ea_cons ev_str (ea_cons ev_str ea_nil)))) hz) fun _ => ew_and1 (et_ne hr.units (ev_d 1 r_p) (ev_nought T) rfl rfl))) (by rw [Bool.true_and, eqv_dP])) (fun hk H2 e2 => ?_) fun hk H2 e2 => ?_
    · have hk := of_decide_eq_false (nbT hk)
      rw [ht, if_neg hk] at q
      exact go_ret (ev_tup (ea_cons ev_str (ea_cons (ev_nought T) (ea_cons (ev_d 1 (r_p.ex e2)) ea_nil)))) fun v H3 e3 rv => q v H3 ((e1.trans e2).trans e3) rv
    · have hk := of_decide_eq_true (nbF hk)
      rw [ht, if_pos hk] at q
      have r0 := r0.ex e2
      refine go_no (EvT.cast (et_inT (ws := ["quarter", "half"]) (ev_ix (ev_d 0 r0) ev_int i0) (ev_tup (ea_cons ev_str (ea_cons ev_str ea_nil)))) h3) fun H3 e3 => ?_
      have r0 := r0.ex e3
      refine go_no (EvT.cast (et_eqS (ev_ix (ev_d 0 r0) ev_int i0) ev_str) (decide_eq_false h4)) fun H4 e4 => ?_
      exact go_ret ev_non fun v H5 e5 rv => q v H5 ((((e1.trans e2).trans e3).trans e4).trans e5) rv
  have none' : (["go", "side"].any fun w => w == z) = false → (["quarter", "half"].any fun w => w == z) = false → z ≠ "arc" → gTold row = none →
      Go (bX P w K mg base n_told_leg "told_leg" s_told_leg f cdv A outer s H E) (List.drop 1 (C8.fnBody s_told_leg)) { nx := fun _ H' => Q .non H', rt := Q } [some v_row, some v_p, none] H1 := fun h1 h2 h3 ht => by
    rw [ht] at q
    refine go_no (EvT.cast (et_w (ew_and (EvT.cast (et_inT (ws := ["go", "side"]) (ev_ix (ev_d 0 r0) ev_int i0) (ev_tup (ea_cons ev_str (ea_cons ev_str ea_nil)))) h1) fun z => absurd z Bool.false_ne_true)) (Bool.false_and true)) fun H2 e2 => ?_
    have r0 := r0.ex e2
    refine go_no (EvT.cast (et_inT (ws := ["quarter", "half"]) (ev_ix (ev_d 0 r0) ev_int i0) (ev_tup (ea_cons ev_str (ea_cons ev_str ea_nil)))) h2) fun H3 e3 => ?_
    have r0 := r0.ex e3
    refine go_no (EvT.cast (et_eqS (ev_ix (ev_d 0 r0) ev_int i0) ev_str) (decide_eq_false h3)) fun H4 e4 => ?_
    exact go_ret ev_non fun v H5 e5 rv => q v H5 ((((e1.trans e2).trans e3).trans e4).trans e5) rv
  have bow : ∀ (x : Rat) (p : Pt), (gFr row).place = p → (∃ w0, dR row = .tuple [.str w0, dQ x]) → (["go", "side"].any fun w => w == z) = false → (["quarter", "half"].any fun w => w == z) = true → gTold row = some (.bend (0, x) (0, 0) p (if x < 0 then -1 else 1)) →
      Go (bX P w K mg base n_told_leg "told_leg" s_told_leg f cdv A outer s H E) (List.drop 1 (C8.fnBody s_told_leg)) { nx := fun _ H' => Q .non H', rt := Q } [some v_row, some v_p, none] H1 := fun x p hp1 ⟨w0, hx⟩ h1 h2 ht => by
    rw [hp1] at r_p
    rw [ht] at q
    rw [hx] at r_row
    refine go_no (EvT.cast (et_w (ew_and (EvT.cast (et_inT (ws := ["go", "side"]) (ev_ix (ev_d 0 r0) ev_int i0) (ev_tup (ea_cons ev_str (ea_cons ev_str ea_nil)))) h1) fun z => absurd z Bool.false_ne_true)) (Bool.false_and true)) fun H2 e2 => ?_
    have r0 := r0.ex e2
    have r_row := r_row.ex e2
    have r_p := r_p.ex e2
    refine go_yes (EvT.cast (et_inT (ws := ["quarter", "half"]) (ev_ix (ev_d 0 r0) ev_int i0) (ev_tup (ea_cons ev_str (ea_cons ev_str ea_nil)))) h2) fun H3 e3 => ?_
    have r_row := r_row.ex e3
    have r_p := r_p.ex e3
    refine go_asg 2 ev_int (fun v_w H4 e4 r_w => ?_) sc_told_leg.nd
    have r_row := r_row.ex e4
    have r_p := r_p.ex e4
    refine go_when (EvT.cast (et_lt (ev_ix (ev_ix (ev_d 0 r_row) ev_int) ev_int) ev_int) num_neg_iff) (fun hk H5 e5 => ?_) fun hk H5 e5 => ?_
    · have hk := of_decide_eq_true hk
      refine go_asg 2 (ev_neg ev_int) (fun v_w H6 e6 r_w => go_nil ?_) sc_told_leg.nd
      have r_row := (r_row.ex e5).ex e6
      have r_p := (r_p.ex e5).ex e6
      rw [if_pos hk] at q
      exact go_ret (ev_tup (ea_cons ev_str (ea_cons (ev_tup (ea_cons (ev_tup (ea_cons ev_int (ea_cons ev_int ea_nil))) (ea_cons (ev_ix (ev_d 0 r_row) ev_int) ea_nil))) (ea_cons (ev_nought T) (ea_cons (ev_d 1 r_p) (ea_cons (ev_d 2 r_w) ea_nil)))))) fun v H7 e7 rv => q v H7 ((((((e1.trans e2).trans e3).trans e4).trans e5).trans e6).trans e7) rv
    · have hk := of_decide_eq_false hk
      have r_row := r_row.ex e5
      have r_p := r_p.ex e5
      have r_w := r_w.ex e5
      rw [if_neg hk] at q
      exact go_ret (ev_tup (ea_cons ev_str (ea_cons (ev_tup (ea_cons (ev_tup (ea_cons ev_int (ea_cons ev_int ea_nil))) (ea_cons (ev_ix (ev_d 0 r_row) ev_int) ea_nil))) (ea_cons (ev_nought T) (ea_cons (ev_d 1 r_p) (ea_cons (ev_d 2 r_w) ea_nil)))))) fun v H7 e7 rv => q v H7 (((((e1.trans e2).trans e3).trans e4).trans e5).trans e7) rv
  cases row with
  | go x => cases ed; exact line (x, 0) rfl (by decide) rfl (by decide) (by decide)
  | side x y => cases ed; exact line (x, y) rfl (by decide) rfl (by decide) (by decide)
  | skip x => cases ed; exact none' (by decide) (by decide) (by decide) rfl
  | dot => cases ed; exact none' (by decide) (by decide) (by decide) rfl
  | mirror => cases ed; exact none' (by decide) (by decide) (by decide) rfl
  | grow k => cases ed; exact none' (by decide) (by decide) (by decide) rfl
  | turn k =>
    have hk : k = 1 ∨ k = 2 ∨ k = 3 := ok
    rcases hk with rfl | rfl | rfl
    · cases ed; exact none' (by decide) (by decide) (by decide) rfl
    · cases ed; exact none' (by decide) (by decide) (by decide) rfl
    · cases ed; exact none' (by decide) (by decide) (by decide) rfl
  | quarter x => cases ed; exact bow x (gAbs x, x) rfl ⟨_, rfl⟩ (by decide) (by decide) rfl
  | half x => cases ed; exact bow x (0, x + x) rfl ⟨_, rfl⟩ (by decide) (by decide) rfl
  | arc cx cy px py =>
    cases ed
    refine go_no (EvT.cast (et_w (ew_and (EvT.cast (et_inT (ws := ["go", "side"]) (ev_ix (ev_d 0 r0) ev_int i0) (ev_tup (ea_cons ev_str (ea_cons ev_str ea_nil)))) (by decide)) fun z => absurd z Bool.false_ne_true)) (Bool.false_and true)) fun H2 e2 => ?_
    have r0 := r0.ex e2
    have r_row := r_row.ex e2
    have r_p := r_p.ex e2
    refine go_no (EvT.cast (et_inT (ws := ["quarter", "half"]) (ev_ix (ev_d 0 r0) ev_int i0) (ev_tup (ea_cons ev_str (ea_cons ev_str ea_nil)))) (by decide)) fun H3 e3 => ?_
    have r0 := r0.ex e3
    have r_row := r_row.ex e3
    have r_p := r_p.ex e3
    refine go_yes (EvT.cast (et_eqS (ev_ix (ev_d 0 r0) ev_int i0) ev_str) (by decide)) fun H4 e4 => ?_
    have r_row := r_row.ex e4
    have r_p := r_p.ex e4
    exact go_ret (ev_tup (ea_cons ev_str (ea_cons (ev_tup (ea_cons (ev_ix (ev_d 0 r_row) ev_int) (ea_cons (ev_ix (ev_d 0 r_row) ev_int) ea_nil))) (ea_cons (ev_nought T) (ea_cons (ev_d 1 r_p) (ea_cons ev_int ea_nil)))))) fun v H5 e5 rv => q v H5 ((((e1.trans e2).trans e3).trans e4).trans e5) rv
  | again _ _ => cases hpn
  | keep _ => cases hpn
  | ever _ => cases hpn
def dom_led_leg : List PyData → PyData → Prop := fun ds r => ∃ (f : Fr) (l : Leg), ds = [dF f, dL l] ∧ (f.hand = 1 ∨ f.hand = -1) ∧ (ht f.size + hp f.place ≤ 4000000 ∧ hl l ≤ 1000 ∧ LegOk l) ∧ r = dL (gLedLeg f l)
theorem ok_led_leg (T : Tx P w K mg base) : C8.Cal P w K mg base 37 "led_leg" (spD K 2 dom_led_leg) [] := by
  refine cal_of T.d_led_leg sc_led_leg (fun vs H Q E h => h.1) fun f cdv A outer s H vs Q E hr h => ?_
  obtain ⟨_, ds, r, rs, ⟨fr, l, rfl, hh, ⟨hb, hb2, lo⟩, rfl⟩, q⟩ := h
  obtain ⟨v_f, v_l, rfl, r_f, r_l⟩ := inv2 rs
  cases l with
  | str a b =>
    have hb2 : hp a + hp b ≤ 1000 := hb2
    refine go_yes (EvT.cast (et_eqS (ev_ix (ev_d 1 r_l) ev_int) ev_str) (by decide)) fun H1 e1 => ?_
    have r_f := r_f.ex e1
    have r_l := r_l.ex e1
    exact go_ret (ev_tup (ea_cons ev_str (ea_cons (ev_call (ok_led T) hr (ea_cons (ev_d 0 r_f) (ea_cons (ev_ix (ev_d 1 r_l) ev_int) ea_nil)) ⟨fr, a, rfl, hh, by omega, rfl⟩) (ea_cons (ev_call (ok_led T) hr (ea_cons (ev_d 0 r_f) (ea_cons (ev_ix (ev_d 1 r_l) ev_int) ea_nil)) ⟨fr, b, rfl, hh, by omega, rfl⟩) ea_nil)))) fun v H2 e2 rv => q v H2 (e1.trans e2) rv
  | bend c a b way =>
    have hb2 : hp c + hp a + hp b ≤ 1000 := hb2
    refine go_no (EvT.cast (et_eqS (ev_ix (ev_d 1 r_l) ev_int) ev_str) (by decide)) fun H1 e1 => ?_
    have r_f := r_f.ex e1
    have r_l := r_l.ex e1
    exact go_ret (ev_tup (ea_cons ev_str (ea_cons (ev_call (ok_led T) hr (ea_cons (ev_d 0 r_f) (ea_cons (ev_ix (ev_d 1 r_l) ev_int) ea_nil)) ⟨fr, c, rfl, hh, by omega, rfl⟩) (ea_cons (ev_call (ok_led T) hr (ea_cons (ev_d 0 r_f) (ea_cons (ev_ix (ev_d 1 r_l) ev_int) ea_nil)) ⟨fr, a, rfl, hh, by omega, rfl⟩) (ea_cons (ev_call (ok_led T) hr (ea_cons (ev_d 0 r_f) (ea_cons (ev_ix (ev_d 1 r_l) ev_int) ea_nil)) ⟨fr, b, rfl, hh, by omega, rfl⟩) (ea_cons (ev_mulS (ev_ix (ev_d 1 r_l) ev_int) (ev_ix (ev_d 0 r_f) ev_int) (cm_hand lo.2.2.2 _)) ea_nil)))))) fun v H2 e2 rv => q v H2 (e1.trans e2) rv
end
end Ar
set_option maxHeartbeats 4000000
/-! Walk: done_by, legs_from. -/
namespace Ar
open PySem L2
section
variable {P : Program} {w : World} {K : PySem.W.Frag} {mg : Str → Option Value} {base : Heap}
def dom_done_by (d : Nat) : List PyData → PyData → Prop := fun ds r => ∃ (rs : List Row), ds = [.tuple (dRs rs)] ∧ RowsOk rs ∧ gDep rs ≤ d ∧ r = .int (gDone rs)
theorem row_kinds (row : Row) (ok : RowOk row) : isPlain row = true ∨ (∃ (z : Str) (ss : List Row), dR row = .tuple [.str z, .tuple (dRs ss)] ∧ z ≠ "again" ∧ (decide (z = "keep") || decide (z = "ever")) = true ∧ gDone1 row = gDone ss ∧ gDep ss + 1 ≤ gDep1 row ∧ RowsOk ss ∧ (z = "keep" → ∀ f, gLegs1 row f = ((gLegs ss f).1, f)) ∧ (z = "ever" → ∀ f, gLegs1 row f = ([], f))) ∨ ∃ n ss, row = .again n ss := by
  cases row with
  | again n ss => exact Or.inr (Or.inr ⟨n, ss, rfl⟩)
  | keep ss => exact Or.inr (Or.inl ⟨"keep", ss, rfl, by decide, by decide, rfl, Nat.le_refl _, ok, fun _ _ => rfl, fun h => absurd h (by decide)⟩)
  | ever ss => exact Or.inr (Or.inl ⟨"ever", ss, rfl, by decide, by decide, rfl, Nat.le_refl _, ok, fun h => absurd h (by decide), fun _ _ => rfl⟩)
  | _ => exact Or.inl rfl
theorem done_body (T : Tx P w K mg base) (d : Nat) (ih : ∀ d', d = d' + 1 → C8.Cal P w K mg base (d' + 1) "done_by" (spD K 1 (dom_done_by d')) []) : C8.Cal P w K mg base (d + 1) "done_by" (spD K 1 (dom_done_by d)) [] := by
  refine cal_of T.d_done_by sc_done_by (fun vs H Q E h => h.1) fun f cdv A outer s H vs Q E hr h => ?_
  obtain ⟨_, ds, r, rs, ⟨rows, rfl, ok, hdep, rfl⟩, q⟩ := h
  obtain ⟨v_rows, rfl, r_rows⟩ := inv1 rs
  obtain ⟨a, xs, rfl, hT, rl⟩ := r_rows.tup_inv
  have hxl : xs.length = rows.length := by rw [rl.length, dRs_len]
  refine go_asg 1 ev_int (fun v_m H1 e1 r_m => ?_) sc_done_by.nd
  have ev := r_m.int_inv
  subst ev
  refine go_forT (R := fun v _ => v = .ref a) (xs := xs) 2 PassesOwn.never rfl sc_done_by.nd ((ev_v 0 rfl).imp fun v H2 e2 h => ⟨a, h, (Ex.kt (e1.trans e2)).sqT hT, h⟩)
    (fun i σ' H' => ∃ v2, σ' = [some (.ref a), some (.int (gDone (rows.take i))), v2] ∧ Ex H H') (fun b H2 e2 _ hb => ?_) ?_ ?_
  · obtain rfl := V.ref.inj hb
    exact ⟨⟨none, rfl, e1.trans e2⟩, fun i σ' H' _ hq => by obtain ⟨_, _, ex⟩ := hq; exact (Ex.kt ex).sqT hT⟩
  · rintro i v σ' H' hi ⟨v2, rfl, ex⟩
    obtain ⟨dd, hdd, rv⟩ := rl.get' hi
    obtain ⟨row, hrow, rfl⟩ := dR_get hdd
    have rv := rv.ex ex
    have hm := List.mem_of_getElem? hrow
    have rok := rowsOk_iff.mp ok row hm
    have rdep := dep_mem hm
    have hstep := done_take1 hrow
    have inner : ∀ (ss : List Row), gDep ss + 1 ≤ gDep1 row → ∃ d', d = d' + 1 ∧ gDep ss ≤ d' := fun ss h => ⟨d - 1, by omega, by omega⟩
    rcases row_kinds row rok with hpl | ⟨z, ss, e, z1, z2, hd1, hdp, sok, -⟩ | ⟨n, ss, rfl⟩
    · skip
      obtain ⟨z, zs, e, z1, z2, z3⟩ := plain_word hpl rok
      rw [e] at rv
      have i0 : atI (PyData.str z :: zs) 0 = some (.str z) := atI_nat (j := 0) rfl
      refine go_if (EvT.cast (et_eqS (ev_ix (ev_d 2 rv) ev_int i0) ev_str) (decide_eq_false z1)) (fun hk => absurd hk Bool.false_ne_true) fun _ H2 e2 => ?_
      have rv := rv.ex e2
      refine go_if (EvT.cast (et_w (ew_or (EvT.cast (et_eqS (ev_ix (ev_d 2 rv) ev_int i0) ev_str) (decide_eq_false z2)) fun _ => ew_or1 (EvT.cast (et_eqS (ev_ix (ev_d 2 rv) ev_int i0) ev_str) (decide_eq_false z3)))) rfl) (fun hk => absurd hk Bool.false_ne_true) fun _ H3 e3 => ?_
      refine go_asg 1 (ev_add (ev_d 1 (.int _)) ev_int) (fun u H4 e4 ru => go_nil (go_nil (go_nil ⟨some v, ?_, ((ex.trans e2).trans e3).trans e4⟩))) sc_done_by.nd
      rw [ru.int_inv, hstep, done1_plain hpl, Int.natCast_add]
      rfl
    · skip
      obtain ⟨d', rfl, hd'⟩ := inner ss hdp
      rw [e] at rv
      refine go_if (EvT.cast (et_eqS (ev_ix (ev_d 2 rv) ev_int) ev_str) (decide_eq_false z1)) (fun hk => absurd hk Bool.false_ne_true) fun _ H2 e2 => ?_
      have rv := rv.ex e2
      refine go_if (EvT.cast (et_w (ew_or (et_eqS (ev_ix (ev_d 2 rv) ev_int) ev_str) fun _ => ew_or1 (et_eqS (ev_ix (ev_d 2 rv) ev_int) ev_str))) z2) (fun _ H3 e3 => ?_) fun hk => absurd hk.symm Bool.false_ne_true
      have rv := rv.ex e3
      refine go_asg 1 (ev_add (ev_d 1 (.int _)) (ev_call (ih d' rfl) hr (ea_cons (ev_ix (ev_d 2 rv) ev_int) ea_nil) ⟨ss, rfl, sok, hd', rfl⟩ (hk := Nat.le_refl _))) (fun u H4 e4 ru => go_nil (go_nil (go_nil ⟨some v, ?_, ((ex.trans e2).trans e3).trans e4⟩))) sc_done_by.nd
      rw [ru.int_inv, hstep, hd1, Int.natCast_add]
      rfl
    · skip
      obtain ⟨hn, sok⟩ : n ≤ 12 ∧ RowsOk ss := rok
      obtain ⟨d', rfl, hd'⟩ := inner ss (Nat.le_refl _)
      refine go_if (EvT.cast (et_eqS (ev_ix (ev_d 2 rv) ev_int) ev_str) (by decide)) (fun _ H2 e2 => ?_) fun hk => absurd hk.symm Bool.false_ne_true
      have rv := rv.ex e2
      refine go_asg 1 (ev_add (ev_d 1 (.int _)) (ev_mulS (ev_ix (ev_d 2 rv) ev_int) (ev_call (ih d' rfl) hr (ea_cons (ev_ix (ev_d 2 rv) ev_int) ea_nil) ⟨ss, rfl, sok, hd', rfl⟩ (hk := Nat.le_refl _)) (Or.inl (by omega)))) (fun u H4 e4 ru => go_nil (go_nil ⟨some v, ?_, (ex.trans e2).trans e4⟩)) sc_done_by.nd
      rw [ru.int_inv, hstep]
      show _ = [some (V.ref a), some (V.int ((gDone (rows.take i) + n * gDone ss : Nat) : Int)), some v]
      rw [Int.natCast_add, Int.natCast_mul]
      rfl
  · rintro σ' H' ⟨v2, rfl, ex⟩
    rw [hxl, List.take_length]
    exact go_ret (ev_d 1 (.int _)) fun v H2 e2 rv => q v H2 (ex.trans e2) rv
theorem ok_done_by (T : Tx P w K mg base) : ∀ d, C8.Cal P w K mg base (d + 1) "done_by" (spD K 1 (dom_done_by d)) []
  | 0 => done_body T 0 fun d' hd => absurd hd (by omega)
  | d + 1 => done_body T (d + 1) fun d' hd => by
    obtain rfl : d = d' := by omega
    exact ok_done_by T d
end
end Ar
set_option maxHeartbeats 4000000
/-! Walk: legs_from. -/
namespace Ar
open PySem L2
theorem told_len (r : Row) (f : Fr) : (gOne r f).1.length ≤ 1 := by
  show ((gTold r).toList.map (gLedLeg f)).length ≤ 1
  rw [List.length_map]
  cases gTold r with
  | none => exact Nat.zero_le _
  | some _ => exact Nat.le_refl _
theorem leg_hl {l : Leg} (h : LegS l) : hl l ≤ 1000 := by
  cases l with
  | str a b => obtain ⟨_, h1, h2⟩ := h; show hp a + hp b ≤ 1000; omega
  | bend c a b way => obtain ⟨_, h1, h2, h3⟩ := h; show hp c + hp a + hp b ≤ 1000; omega
theorem itF_succ (g : Fr → List Leg × Fr) (n : Nat) (f : Fr) : itF g (n + 1) f = ((itF g n f).1 ++ (g (itF g n f).2).1, (g (itF g n f).2).2) := rfl
section
variable {P : Program} {w : World} {K : PySem.W.Frag} {mg : Str → Option Value} {base : Heap}
theorem NewR.back {K : PySem.W.Frag} {H0 H H' : Hp} {ds : List PyData} {v : V} (h : NewR K H ds v H') (x : Ex H0 H) : NewR K H0 ds v H' := let ⟨p, xs, h1, h2, h3⟩ := h; ⟨p, xs, h1, Evl.fresh_back x h2, h3⟩
def P_legs (K : PySem.W.Frag) (d : Nat) (i : List Row × Fr) : List V → Hp → Prop := fun vs H => ∃ v u m, vs = [v, u] ∧ Rp K H v (.tuple (dRs i.1)) ∧ Rp K H u (dF i.2) ∧ RowsOk i.1 ∧ gDep i.1 ≤ d ∧ FrB m i.2 ∧ m + gDone i.1 ≤ 14
def R_legs (K : PySem.W.Frag) (i : List Row × Fr) (H : Hp) : V → Hp → Prop := TupR K (NewR K H ((gLegs i.1 i.2).1.map dL)) (fun v H' => Rp K H' v (dF (gLegs i.1 i.2).2))
theorem ev_legs {X : Cx} {σ : L2.St} {H : Hp} {e1 e2 : Expr} {p pos : Pos} {j d m : Nat} {rs : List Row} {f : Fr} (c : C8.Cal X.prog X.w X.K X.mg X.base (d + 42) "legs_from" (spI 2 (P_legs X.K d) (R_legs X.K)) []) (hr : Room j X.A) (ha : EvDs X σ H [e1, e2] [.tuple (dRs rs), dF f]) (ok : RowsOk rs) (hd : gDep rs ≤ d) (hf : FrB m f) (hm : m + gDone rs ≤ 14) (hk : d + 42 ≤ j) (hg : Gl X "legs_from" := by rfl)
    (he : starEach [e1, e2] X.env = (false, eval e1 X.env) :: starEach [e2] X.env := by rfl) (hpl : (backTo pos (starEach [e2] X.env)).any (·.1) = false := by rfl) : Ev X σ H (.Call (.Name "legs_from" p) [e1, e2] [] pos) (R_legs X.K (rs, f) H) :=
  ev_callI (rs, f) c hr (ha.imp fun vs H1 _ rv => ⟨by rw [rv.length]; rfl, by
    obtain ⟨v, u, rfl, r1, r2⟩ := inv2 rv
    exact ⟨v, u, m, rfl, r1, r2, ok, hd, hf, hm⟩⟩) (fun H2 v H3 x2 x3 r => by
    obtain ⟨p, v1, v2, h1, h2, h3, h4⟩ := r
    exact ⟨p, v1, v2, h1, h2, h3.back x2, h4⟩) hk hg (by decide) he hpl
theorem go_extG {X : Cx} {σ : L2.St} {H H0 : Hp} {D : Ends} {a e : Expr} {rest : List Stmt} {pos apos cpos : Pos} {l : Addr} {ds es : List PyData} (g : Grow X.K H0 l ds H) (ha : Ev X σ H a (fun v _ => v = .ref l)) (h : Ev X σ H e (fun v H' => ∃ p ys, v = .ref p ∧ H' p = some (.lst ys) ∧ RpL X.K H' ys es)) (hz : ds.length + es.length ≤ 100000)
    (q : ∀ H1, KT H H1 → Grow X.K H0 l (ds ++ es) H1 → Go X rest D σ H1)
    (hs : swapsWith (.Call (.Attribute a "extend" apos) [e] [] cpos) none pos.line X.env = pure false := by rfl) (hbase : attributeBase a "extend" X.env (eval a X.env) = eval a X.env := by rfl)
    (hfew : ((backTo cpos (starEach [e] X.env)).all (fun x => !x.1) && (backToKw cpos (keywordEach [] X.env)).all (fun x => x.1.isSome)
      && decide (([e] : List Expr).length + ([] : List Keyword).length + (if ([] : List Keyword).isEmpty then 0 else 1) < 30)) = true := by rfl)
    (hline : (apos.endLine == cpos.line) = true := by rfl) (hs1 : starEach [e] X.env = (false, eval e X.env) :: starEach [] X.env := by rfl) (hplain : (backTo cpos (starEach [] X.env)).any (·.1) = false := by rfl) :
    Go X (.Expr (.Call (.Attribute a "extend" apos) [e] [] cpos) pos :: rest) D σ H := by
  obtain ⟨g0, gx, xs, gl, gr⟩ := g
  refine go_ext (R := fun v H' => ∃ p ys, v = .ref p ∧ H' p = some (.lst ys) ∧ RpL X.K H' ys es) gl ha (h.imp fun v H1 x1 r => ?_) (fun p ys H1 x1 hp hr => ?_) hs hbase hfew hline hs1 hplain
  · obtain ⟨p, ys, rfl, h1, h2⟩ := r
    exact ⟨p, ys, rfl, h1, by rw [gr.length, h2.length]; exact hz, p, ys, rfl, h1, h2⟩
  · obtain ⟨p', ys', e1, h1, h2⟩ := hr
    obtain rfl := V.ref.inj e1
    rw [hp] at h1
    obtain rfl := HO.lst.inj (Option.some.inj h1)
    exact q _ ((Ex.kt x1).trans (KT.lst (x1 _ _ gl))) (Grow.cat g0 (gx.trans x1) (x1 _ _ gl) (gr.ex x1) h2)
theorem go_appG {X : Cx} {σ : L2.St} {H H0 : Hp} {D : Ends} {a e : Expr} {rest : List Stmt} {pos apos cpos : Pos} {l : Addr} {ds : List PyData} {d : PyData} (g : Grow X.K H0 l ds H) (ha : Ev X σ H a (fun v _ => v = .ref l)) (h : EvD X σ H e d) (hz : ds.length ≤ 90000)
    (q : ∀ H1, KT H H1 → Grow X.K H0 l (ds ++ [d]) H1 → Go X rest D σ H1)
    (hs : swapsWith (.Call (.Attribute a "append" apos) [e] [] cpos) none pos.line X.env = pure false := by rfl) (hbase : attributeBase a "append" X.env (eval a X.env) = eval a X.env := by rfl)
    (hfew : ((backTo cpos (starEach [e] X.env)).all (fun x => !x.1) && (backToKw cpos (keywordEach [] X.env)).all (fun x => x.1.isSome)
      && decide (([e] : List Expr).length + ([] : List Keyword).length + (if ([] : List Keyword).isEmpty then 0 else 1) < 30)) = true := by rfl)
    (hline : (apos.endLine == cpos.line) = true := by rfl) (hs1 : starEach [e] X.env = (false, eval e X.env) :: starEach [] X.env := by rfl) (hplain : (backTo cpos (starEach [] X.env)).any (·.1) = false := by rfl) :
    Go X (.Expr (.Call (.Attribute a "append" apos) [e] [] cpos) pos :: rest) D σ H := by
  obtain ⟨g0, gx, xs, gl, gr⟩ := g
  exact go_app gl ha h (by rw [gr.length]; omega) (fun v H1 x1 r => q _ ((Ex.kt x1).trans (KT.lst (x1 _ _ gl))) (Grow.push g0 (gx.trans x1) (x1 _ _ gl) (gr.ex x1) r)) hs hbase hfew hline hs1 hplain
theorem legs_body (T : Tx P w K mg base) (d : Nat) (ih : ∀ d', d = d' + 1 → C8.Cal P w K mg base (d' + 42) "legs_from" (spI 2 (P_legs K d') (R_legs K)) []) : C8.Cal P w K mg base (d + 42) "legs_from" (spI 2 (P_legs K d) (R_legs K)) [] := by
  refine cal_of T.d_legs_from sc_legs_from (fun vs H Q E h => h.1) fun f cdv A outer s H vs Q E hr h => ?_
  obtain ⟨_, ⟨rows, f0⟩, ⟨v_rows, v_f, m, rfl, r_rows, r_f, ok, hdep, hfb, hmm⟩, q⟩ := h
  have r_rows : Rp K H v_rows (.tuple (dRs rows)) := r_rows
  have r_f : Rp K H v_f (dF f0) := r_f
  have ok : RowsOk rows := ok
  have hdep : gDep rows ≤ d := hdep
  have hfb : FrB m f0 := hfb
  have hmm : m + gDone rows ≤ 14 := hmm
  have hr41 : Room 41 (bX P w K mg base n_legs_from "legs_from" s_legs_from f cdv A outer s H E).A := hr.mono (by omega)
  obtain ⟨a, xs, rfl, hT, rl⟩ := r_rows.tup_inv
  have hxl : xs.length = rows.length := by rw [rl.length, dRs_len]
  refine go_asg 2 (ev_lst ea_nil) (fun v_l H1 e1 r_l => ?_) sc_legs_from.nd
  obtain ⟨lf, rfl, gf⟩ := Grow.of (ex_refl H) r_l e1
  refine go_forT (R := fun v _ => v = .ref a) (xs := xs) 3 PassesOwn.never rfl sc_legs_from.nd ((ev_v 0 rfl).imp fun v H2 e2 h => ⟨a, h, (Ex.kt (e1.trans e2)).sqT hT, h⟩)
    (fun i σ' H' => ∃ vf v3 v4 v5 v6, σ' = [some (.ref a), some vf, some (.ref lf), v3, v4, v5, v6] ∧ Rp K H' vf (dF (gLegs (rows.take i) f0).2) ∧ Grow K H lf ((gLegs (rows.take i) f0).1.map dL) H') (fun b H2 e2 _ hb => ?_) ?_ ?_
  · obtain rfl := V.ref.inj hb
    exact ⟨⟨v_f, none, none, none, none, rfl, r_f.ex (e1.trans e2), gf.ex e2⟩, fun i σ' H' _ hq => by obtain ⟨_, _, _, _, _, _, _, gr⟩ := hq; exact (Ex.kt gr.2.1).sqT hT⟩
  · rintro i v σ' H' hi ⟨vf, v3, v4, v5, v6, rfl, rvf, gr⟩
    obtain ⟨dd, hdd, rv⟩ := rl.get' hi
    obtain ⟨row, hrow, rfl⟩ := dR_get hdd
    have rv := rv.ex gr.2.1
    have hm := List.mem_of_getElem? hrow
    have rok := rowsOk_iff.mp ok row hm
    have rdep := dep_mem hm
    have hdone := done_take1 hrow
    have hdle := done_take_le rows (i + 1)
    obtain ⟨-, b2, b3⟩ := legs_b (rows.take i) m f0 (rowsOk_take ok i) hfb (by omega)
    have hleg := legs_take1 hrow f0
    generalize hg0 : gLegs (rows.take i) f0 = g0 at *
    have inner : ∀ (ss : List Row), gDep ss + 1 ≤ gDep1 row → ∃ d', d = d' + 1 ∧ gDep ss ≤ d' := fun ss h => ⟨d - 1, by omega, by omega⟩
    rcases row_kinds row rok with hpl | ⟨z, ss, e, z1, z2, hd1, hdp, sok, lk, le⟩ | ⟨n, ss, rfl⟩
    · obtain ⟨z, zs, e, z1, z2, z3⟩ := plain_word hpl rok
      have rv0 := rv
      rw [e] at rv0
      rw [done1_plain hpl] at hdone
      rw [legs1_plain hpl] at hleg
      have i0 : atI (PyData.str z :: zs) 0 = some (.str z) := atI_nat (j := 0) rfl
      refine go_if (EvT.cast (et_eqS (ev_ix (ev_d 3 rv0) ev_int i0) ev_str) (decide_eq_false z1)) (fun hk => absurd hk Bool.false_ne_true) fun _ H2 e2 => ?_
      have rv0 := rv0.ex e2
      refine go_if (EvT.cast (et_eqS (ev_ix (ev_d 3 rv0) ev_int i0) ev_str) (decide_eq_false z2)) (fun hk => absurd hk Bool.false_ne_true) fun _ H3 e3 => ?_
      have rv0 := rv0.ex e3
      refine go_yes (EvT.cast (et_neS (ev_ix (ev_d 3 rv0) ev_int i0) ev_str) (by rw [decide_eq_false z3]; rfl)) fun H4 e4 => ?_
      have ex4 := (e2.trans e3).trans e4
      have rv := rv.ex ex4
      have rvf := rvf.ex ex4
      have gr := gr.ex ex4
      have fs := fr_s rok
      refine go_asg 6 (ev_call (ok_told_leg T) hr41 (ea_cons (ev_d 3 rv) ea_nil) ⟨row, rfl, hpl, rok, rfl⟩) (fun v_leg H5 e5 r_leg => ?_) sc_legs_from.nd
      have rv := rv.ex e5
      have rvf := rvf.ex e5
      have gr := gr.ex e5
      have cB : ∀ {σ1 : L2.St} {H6 : Hp} {pa pb pc pd : Pos} {p1 p2 : Pos}, σ1[1]? = some (some vf) → σ1[3]? = some (some v) → KT H5 H6 → EvD (bX P w K mg base n_legs_from "legs_from" s_legs_from f cdv A outer s H E) σ1 H6 (.Call (.Name "behind" p1) [.Name "frame" pa, .Call (.Name "moved_by" p2) [.Name "row" pb] [] pc] [] pd) (dF (gBehind g0.2 (gFr row))) := fun {σ1 H6 _ _ _ _ _ _} s1 s3 kt =>
        ev_call (ok_behind T) hr41 (ea_cons (ev_d 1 (Rp.kt kt _ _ rvf) s1) (ea_cons (ev_call (ok_moved_by T) hr41 (ea_cons (ev_d 3 (Rp.kt kt _ _ rv) s3) ea_nil) ⟨row, rfl, hpl, rok, rfl⟩) ea_nil)) ⟨g0.2, gFr row, rfl, b3.2.2.1, by have := b3.1; have := b3.2.1; have := fs.1; have := fs.2.1; omega, rfl⟩
      cases hto : gTold row with
      | none =>
        have e1' : (gOne row g0.2).1 = [] := by show (gTold row).toList.map _ = []; rw [hto]; rfl
        rw [hto] at r_leg
        have r_leg : Rp K H5 v_leg .none := r_leg
        refine go_no (et_notN (v := .non) (k := false) (ev_d 6 r_leg) mo_rp fun u H6 ru => by rw [Rp.non_inv ru]; rfl) fun H6 e6 => ?_
        refine go_asg 1 (cB rfl rfl (Ex.kt e6)) (fun u H7 e7 ru => go_nil (go_nil (go_nil (go_nil ⟨u, _, _, _, _, rfl, ?_, ?_⟩)))) sc_legs_from.nd
        · rw [hleg]
          exact ru
        · rw [hleg, e1', List.append_nil]
          exact (gr.ex e6).ex e7
      | some l =>
        have e1' : (gOne row g0.2).1 = [gLedLeg g0.2 l] := by show (gTold row).toList.map _ = _; rw [hto]; rfl
        rw [hto] at r_leg
        have r_leg : Rp K H5 v_leg (dL l) := r_leg
        have ls := told_s rok hto
        refine go_yes (et_notN (v := .non) (k := true) (ev_d 6 r_leg) mo_rp fun u H6 ru => ?_) fun H6 e6 => ?_
        · have ru : Rp K H6 u (dL l) := ru
          cases l with
          | str _ _ => obtain ⟨_, _, rfl, _⟩ := Rp.tup_inv ru; rfl
          | bend _ _ _ _ => obtain ⟨_, _, rfl, _⟩ := Rp.tup_inv ru; rfl
        · refine go_appG (gr.ex e6) (ev_v 2 rfl) (ev_call (ok_led_leg T) hr41 (ea_cons (ev_d 1 (rvf.ex e6)) (ea_cons (ev_d 6 (r_leg.ex e6)) ea_nil)) ⟨g0.2, l, rfl, b3.2.2.1, ⟨by have := b3.1; have := b3.2.1; omega, leg_hl ls, ls.1⟩, rfl⟩) (by rw [List.length_map]; omega) fun H7 k7 g7 => go_nil ?_
          refine go_asg 1 (cB rfl rfl ((Ex.kt e6).trans k7)) (fun u H8 e8 ru => go_nil (go_nil (go_nil (go_nil ⟨u, _, _, _, _, rfl, ?_, ?_⟩)))) sc_legs_from.nd
          · rw [hleg]
            exact ru
          · rw [hleg, e1', List.map_append]
            exact g7.ex e8
    · obtain ⟨d', rfl, hd'⟩ := inner ss hdp
      have rvk := rv
      rw [e] at rvk
      refine go_if (EvT.cast (et_eqS (ev_ix (ev_d 3 rvk) ev_int) ev_str) (decide_eq_false z1)) (fun hk => absurd hk Bool.false_ne_true) fun _ H2 e2 => ?_
      have rvk := rvk.ex e2
      have rvf := rvf.ex e2
      have gr := gr.ex e2
      have bl := legs_b ss (m + gDone (rows.take i)) g0.2 sok b3 (by omega)
      refine go_if (et_eqS (ev_ix (ev_d 3 rvk) ev_int) ev_str) (fun hk H3 e3 => ?_) fun hk H3 e3 => ?_
      · have hz : z = "keep" := of_decide_eq_true hk
        have hrk : (gLegs1 row g0.2) = ((gLegs ss g0.2).1, g0.2) := lk hz g0.2
        refine go_extG (es := (gLegs ss g0.2).1.map dL) (gr.ex e3) (ev_v 2 rfl) ((ev_fst (ev_legs (ih d' rfl) hr (ea_cons (ev_ix (ev_d 3 (rvk.ex e3)) ev_int) (ea_cons (ev_d 1 (rvf.ex e3)) ea_nil)) sok hd' b3 (by omega) (Nat.le_refl _))).imp fun u H4 x4 r => ?_) (by rw [List.length_map, List.length_map]; have := bl.2.1; omega) fun H4 k4 g4 => go_nil (go_nil (go_nil ⟨vf, _, _, _, _, rfl, ?_, ?_⟩))
        · obtain ⟨p, ys, h1, _, h3, h4⟩ := r
          exact ⟨p, ys, h1, h3, h4⟩
        · rw [hleg, hrk]
          exact Rp.kt ((Ex.kt e3).trans k4) _ _ rvf
        · rw [hleg, hrk, List.map_append]
          exact g4
      · have hz : z ≠ "keep" := of_decide_eq_false hk
        have hz2 : z = "ever" := by
          rw [decide_eq_false hz, Bool.false_or] at z2
          exact of_decide_eq_true z2
        have hrk : (gLegs1 row g0.2) = ([], g0.2) := le hz2 g0.2
        refine go_no (EvT.cast (et_neS (ev_ix (ev_d 3 (rvk.ex e3)) ev_int) ev_str) (by rw [decide_eq_true hz2]; rfl)) fun H4 e4 => go_nil (go_nil (go_nil ⟨vf, _, _, _, _, rfl, ?_, ?_⟩))
        · rw [hleg, hrk]
          exact (rvf.ex e3).ex e4
        · rw [hleg, hrk, List.append_nil]
          exact (gr.ex e3).ex e4
    · obtain ⟨d', rfl, hd'⟩ := inner ss (Nat.le_refl _)
      obtain ⟨hn, sok⟩ : n ≤ 12 ∧ RowsOk ss := rok
      have hdo : gDone (rows.take (i + 1)) = gDone (rows.take i) + n * gDone ss := hdone
      have hleg : gLegs (rows.take (i + 1)) f0 = (g0.1 ++ (itF (gLegs ss) n g0.2).1, (itF (gLegs ss) n g0.2).2) := hleg
      refine go_if (EvT.cast (et_eqS (ev_ix (ev_d 3 rv) ev_int) ev_str) (by decide)) (fun _ H2 e2 => ?_) fun hk => absurd hk.symm Bool.false_ne_true
      have rv := rv.ex e2
      have itb : ∀ k, k ≤ n → LgB (m + gDone (rows.take i)) (k * gDone ss) (itF (gLegs ss) k g0.2) := fun k hk => it_b (fun m f h hm => legs_b ss m f sok h hm) k _ _ b3 (by have := Nat.mul_le_mul_right (gDone ss) hk; omega)
      refine go_forR 4 PassesOwn.never rfl sc_legs_from.nd T.m_range (ev_ix (ev_d 3 rv) ev_int) (by omega)
        (fun k σ2 H3 => ∃ vf v4 v5, σ2 = [some (.ref a), some vf, some (.ref lf), some v, v4, v5, v6] ∧ KT H2 H3 ∧ Rp K H3 vf (dF (itF (gLegs ss) k g0.2).2) ∧ Grow K H lf ((g0.1 ++ (itF (gLegs ss) k g0.2).1).map dL) H3) (fun H3 e3 => ⟨vf, v4, v5, rfl, Ex.kt e3, (rvf.ex e2).ex e3, ?_⟩) ?_ ?_ (by omega)
      · show Grow K H lf ((g0.1 ++ []).map dL) H3
        rw [List.append_nil]
        exact (gr.ex e2).ex e3
      · rintro k σ2 H3 hk ⟨vf, v4, v5, rfl, kt, rvf, gr⟩
        have hk : k < n := by omega
        have rv := Rp.kt kt _ _ rv
        obtain ⟨-, c2, c3⟩ := itb k (by omega)
        obtain ⟨-, c2', -⟩ := itb (k + 1) (by omega)
        have hmul := Nat.mul_le_mul_right (gDone ss) (show k + 1 ≤ n by omega)
        rw [Nat.succ_mul] at hmul
        have bl := legs_b ss (m + gDone (rows.take i) + k * gDone ss) (itF (gLegs ss) k g0.2).2 sok c3 (by omega)
        refine go_unpG [5, 1] ((ev_legs (ih d' rfl) hr (ea_cons (ev_ix (ev_d 3 rv) ev_int) (ea_cons (ev_d 1 rvf) ea_nil)) sok hd' c3 (by omega) (Nat.le_refl _)).imp fun u H4 x4 r => ?_) rfl sc_legs_from.nd (nm_cons 5 (nm_cons 1 NmAt.nil)) (P := fun vs H4 => ∃ v1 v2, vs = [v1, v2] ∧ NewR K H3 ((gLegs ss (itF (gLegs ss) k g0.2).2).1.map dL) v1 H4 ∧ Rp K H4 v2 (dF (gLegs ss (itF (gLegs ss) k g0.2).2).2)) fun vs H4 e4 _ hvs => ?_
        · obtain ⟨p, v1, v2, h1, h2, h3, h4⟩ := r
          exact ⟨p, [v1, v2], h1, h2, rfl, v1, v2, rfl, h3, h4⟩
        · obtain ⟨v1, v2, rfl, hn1, hr2⟩ := hvs
          refine go_extG (es := (gLegs ss (itF (gLegs ss) k g0.2).2).1.map dL) (gr.ex e4) (ev_v 2 rfl) ((ev_n 5 rfl hn1 mo_new).imp fun u H5 x5 r => ?_) (by rw [List.length_map, List.length_map, List.length_append]; have := bl.2.1; omega) fun H5 k5 g5 => go_nil ⟨v2, _, _, rfl, kt.trans ((Ex.kt e4).trans k5), ?_, ?_⟩
          · obtain ⟨p, ys, h1, _, h3, h4⟩ := r
            exact ⟨p, ys, h1, h3, h4⟩
          · rw [itF_succ]
            exact Rp.kt k5 _ _ hr2
          · rw [itF_succ, ← List.append_assoc, List.map_append (l₁ := g0.1 ++ _)]
            exact g5
      · rintro σ2 H3 ⟨vf, v4, v5, rfl, kt, rvf, gr⟩
        refine go_nil (go_nil ⟨vf, _, _, _, _, rfl, ?_, ?_⟩)
        · rw [hleg]
          exact rvf
        · rw [hleg]
          exact gr
  · rintro σ' H' ⟨vf, v3, v4, v5, v6, rfl, rvf, gr⟩
    rw [hxl, List.take_length] at rvf gr
    refine go_ret (ev_tup2 mo_new mo_rp ((ev_tr 2 gr.tr).imp fun v H1 x1 r => ?_) (ev_d 1 rvf)) fun v H2 e2 rv => q v H2 (gr.2.1.trans e2) rv
    obtain ⟨rfl, ys, g1, g2⟩ := r
    exact ⟨lf, ys, rfl, gr.1, g1, g2⟩
theorem ok_legs_from (T : Tx P w K mg base) : ∀ d, C8.Cal P w K mg base (d + 42) "legs_from" (spI 2 (P_legs K d) (R_legs K)) []
  | 0 => legs_body T 0 fun d' hd => absurd hd (by omega)
  | d + 1 => legs_body T (d + 1) fun d' hd => by
    obtain rfl : d = d' := by omega
    exact ok_legs_from T d
end
end Ar
set_option maxHeartbeats 4000000
/-! Walk: closed, strokes. -/
namespace Ar
open PySem L2
theorem atI_last {α : Type} {l : List α} {x : α} (h : l.getLast? = some x) : atI l (-1) = some x := by
  cases l with
  | nil => cases h
  | cons a r =>
    rw [List.getLast?_eq_getElem?] at h
    have e : ixN (a :: r).length (-1) = some ((a :: r).length - 1) := by
      unfold ixN
      rw [List.length_cons]
      simp
      omega
    unfold atI
    rw [e]
    exact h
theorem last_map {α β : Type} {f : α → β} {l : List α} {x : α} (h : l.getLast? = some x) : (l.map f).getLast? = some (f x) := by rw [List.getLast?_map, h]; rfl
theorem strokes_ne : ∀ (ls : List Leg) (ss : List (List Leg)), (∀ s ∈ ss, s ≠ []) → ∀ s ∈ ls.foldl gStep ss, s ≠ []
  | [], ss, h => h
  | l :: ls, ss, h => strokes_ne ls (gStep ss l) (by
    intro s hs
    unfold gStep at hs
    split at hs
    · rcases List.mem_append.mp hs with hs | hs
      · exact h s hs
      · rw [List.mem_singleton.mp hs]; exact List.cons_ne_nil _ _
    · split at hs
      · rcases List.mem_append.mp hs with hs | hs
        · exact h s hs
        · rw [List.mem_singleton.mp hs]; exact List.cons_ne_nil _ _
      · split at hs
        · rcases List.mem_append.mp hs with hs | hs
          · exact h s (List.dropLast_subset _ hs)
          · rw [List.mem_singleton.mp hs]; simp
        · rcases List.mem_append.mp hs with hs | hs
          · exact h s hs
          · rw [List.mem_singleton.mp hs]; exact List.cons_ne_nil _ _)
theorem step_len (ss : List (List Leg)) (l : Leg) : (gStep ss l).flatten.length = ss.flatten.length + 1 := by
  unfold gStep
  split
  · rw [List.flatten_append, List.length_append]; rfl
  · rename_i s hs
    have e : ss = ss.dropLast ++ [s] := by
      obtain ⟨ys, rfl⟩ := List.getLast?_eq_some_iff.mp hs
      rw [List.dropLast_concat]
    split
    · rw [List.flatten_append, List.length_append]; rfl
    · split
      · conv => rhs; rw [e]
        rw [List.flatten_append, List.length_append, List.flatten_append, List.length_append]
        simp
        omega
      · rw [List.flatten_append, List.length_append]; rfl
theorem strokes_len : ∀ (ls : List Leg) (ss : List (List Leg)), (ls.foldl gStep ss).flatten.length = ss.flatten.length + ls.length
  | [], ss => rfl
  | l :: ls, ss => by
    rw [List.foldl_cons, strokes_len ls, step_len, List.length_cons]
    omega
theorem flat_mem_len {α : Type} {s : List α} {ss : List (List α)} (h : s ∈ ss) : s.length ≤ ss.flatten.length := (List.sublist_flatten_of_mem h).length_le
theorem ne_flat_len {α : Type} : ∀ {ss : List (List α)}, (∀ s ∈ ss, s ≠ []) → ss.length ≤ ss.flatten.length
  | [], _ => Nat.le_refl _
  | s :: ss, h => by
    have h1 := ne_flat_len (ss := ss) fun t ht => h t (List.mem_cons_of_mem _ ht)
    have h2 : s.length ≠ 0 := fun z => h s List.mem_cons_self (List.eq_nil_of_length_eq_zero z)
    rw [List.length_cons, List.flatten_cons, List.length_append]
    omega
theorem fold_take1 {ls : List Leg} {i : Nat} {l : Leg} (h : ls[i]? = some l) : (ls.take (i + 1)).foldl gStep [] = gStep ((ls.take i).foldl gStep []) l := by
  rw [List.take_add_one, h, List.foldl_append]
  rfl
theorem eqv_ll_nil (dss : List PyData) : PyData.eqv (.list dss) (.list []) = decide (dss = []) := by
  cases dss with
  | nil => rfl
  | cons d dss => exact (decide_eq_false (List.cons_ne_nil _ _)).symm
theorem canLay_dL (l : Leg) : PyData.canLay0 (dL l) = true := by
  have h1 : PyData.canLay0 (.str "straight") = true := by decide +kernel
  have h2 : PyData.canLay0 (.str "bend") = true := by decide +kernel
  cases l with
  | str a b =>
    show (PyData.canLay0 (.str "straight") && _) = true
    rw [h1]
    rfl
  | bend c a b way =>
    show (PyData.canLay0 (.str "bend") && _) = true
    rw [h2]
    rfl
theorem depth_dL (l : Leg) : PyData.depth (dL l) ≤ 3 := by cases l <;> exact Nat.le_of_ble_eq_true rfl
theorem canLay_dLs : ∀ ls : List Leg, PyData.canLayAll0 (dLs ls) = true
  | [] => rfl
  | l :: ls => by
    show (PyData.canLay0 (dL l) && PyData.canLayAll0 (dLs ls)) = true
    rw [canLay_dL, canLay_dLs ls]
    rfl
theorem depth_dLs : ∀ ls : List Leg, PyData.depthAll (dLs ls) ≤ 3
  | [] => Nat.zero_le _
  | l :: ls => by
    have h1 := depth_dL l
    have h2 := depth_dLs ls
    show max (PyData.depth (dL l)) (PyData.depthAll (dLs ls)) ≤ 3
    omega
theorem canLay_dLL : ∀ ss : List (List Leg), PyData.canLayAll0 ((ss.map dLs).map .list) = true
  | [] => rfl
  | s :: ss => by
    show (PyData.canLayAll0 (dLs s) && PyData.canLayAll0 ((ss.map dLs).map .list)) = true
    rw [canLay_dLs, canLay_dLL ss]
    rfl
theorem depth_dLL : ∀ ss : List (List Leg), PyData.depthAll ((ss.map dLs).map .list) ≤ 4
  | [] => Nat.zero_le _
  | s :: ss => by
    have h1 := depth_dLs s
    have h2 := depth_dLL ss
    show max (PyData.depthAll (dLs s) + 1) (PyData.depthAll ((ss.map dLs).map .list)) ≤ 4
    omega
theorem shaped_dLL (ss : List (List Leg)) : SeqAt.shaped (.list ((ss.map dLs).map .list)) = true := by
  have h := depth_dLL ss
  show (PyData.canLayAll0 ((ss.map dLs).map .list) && decide (PyData.depthAll ((ss.map dLs).map .list) + 1 ≤ 64)) = true
  rw [canLay_dLL, decide_eq_true (show PyData.depthAll ((ss.map dLs).map .list) + 1 ≤ 64 by omega)]
  rfl
/-- xs[i], any list -/
theorem ev_ixV {X : Cx} {σ : L2.St} {H : Hp} {a b : Expr} {pos : Pos} {l : Addr} {xs : List V} {i : Int} {v : V} (hl : H l = some (.lst xs)) (ha : Ev X σ H a (fun v _ => v = .ref l)) (hb : EvD X σ H b (.int i)) (h : atI xs i = some v) (hs : ∀ v u, subscripted b false v u = operate [v, u] (getItem v u) := by intro _ _; rfl) : Ev X σ H (.Subscript a b pos) (fun w _ => w = v) := fun H1 e1 Q q =>
  uE.of (pe_ix ix_list pe_u pe_u hs) (ha H1 e1 _ fun x H2 e2 rx => hb H2 (e1.trans e2) _ fun y H3 e3 ry => ⟨l, xs, i, v, rx, ry.int_inv, Or.inl (Or.inl ((e1.trans e2).trans e3 _ _ hl)), h, q v H3 (e2.trans e3) rfl⟩)
section
variable {P : Program} {w : World} {K : PySem.W.Frag} {mg : Str → Option Value} {base : Heap}
def P_closed (K : PySem.W.Frag) (i : List Leg × Addr) : List V → Hp → Prop := fun vs H => vs = [.ref i.2] ∧ ∃ ys, H i.2 = some (.lst ys) ∧ RpL K H ys (dLs i.1) ∧ i.1 ≠ [] ∧ i.1.length ≤ 1000
def R_closed (K : PySem.W.Frag) (i : List Leg × Addr) (H : Hp) : V → Hp → Prop := fun v H' => (v = .ref i.2 ∧ dLs (gClosed i.1) = dLs i.1) ∨ NewR K H (dLs (gClosed i.1)) v H'
theorem ok_closed (T : Tx P w K mg base) : C8.Cal P w K mg base 2 "closed" (spI 1 (P_closed K) (R_closed K)) [] := by
  refine cal_of T.d_closed sc_closed (fun vs H Q E h => h.1) fun f cdv A outer s H vs Q E hr h => ?_
  obtain ⟨_, ⟨st, qa⟩, ⟨rfl, ys, hq, hy, hne, hlen⟩, q⟩ := h
  have hq : H qa = some (.lst ys) := hq
  have hy : RpL K H ys (dLs st) := hy
  have hne : st ≠ [] := hne
  have hlen : st.length ≤ 1000 := hlen
  obtain ⟨a, ha⟩ : ∃ a, st.head? = some a := by
    cases st with
    | nil => exact absurd rfl hne
    | cons a r => exact ⟨a, rfl⟩
  obtain ⟨b, hb⟩ : ∃ b, st.getLast? = some b := ⟨_, List.getLast?_eq_some_getLast hne⟩
  have ec : gClosed st = if gEnd b = gBegin a then st else st ++ [.str (gEnd b) (gBegin a)] := by
    unfold gClosed
    rw [ha, hb]
  have tr : TrR K qa (dLs st) (.ref qa) H := ⟨rfl, ys, hq, hy⟩
  have ha0 : (dLs st)[0]? = some (dL a) := by rw [List.getElem?_map, ← List.head?_eq_getElem?, ha]; rfl
  refine go_asg 1 (ev_call (ok_begin_of T) hr (ea_cons (ev_ixL (ev_n 0 rfl tr.ls mo_ls) ev_int (atI_nat (j := 0) ha0)) ea_nil) ⟨a, rfl, rfl⟩) (fun v_s H1 e1 r_s => ?_) sc_closed.nd
  have tr := mo_tr _ _ _ e1 tr
  refine go_asg 2 (ev_call (ok_end_of T) hr (ea_cons (ev_ixL (ev_n 0 rfl tr.ls mo_ls) (ev_neg ev_int) (atI_last (last_map hb))) ea_nil) ⟨b, rfl, rfl⟩) (fun v_l H2 e2 r_l => ?_) sc_closed.nd
  have tr := mo_tr _ _ _ e2 tr
  have r_s := r_s.ex e2
  refine go_when (EvT.cast (et_eq hr.units (ev_d 2 r_l) (ev_d 1 r_s) rfl rfl) (eqv_dP _ _)) (fun hk H3 e3 => ?_) fun hk H3 e3 => ?_
  · have hk := of_decide_eq_true hk
    rw [if_pos hk] at ec
    exact go_ret (ev_v 0 rfl) fun v H4 e4 rv => q v H4 (((e1.trans e2).trans e3).trans e4) (Or.inl ⟨rv, by show dLs (gClosed st) = dLs st; rw [ec]⟩)
  · have hk := of_decide_eq_false hk
    rw [if_neg hk] at ec
    have tr := mo_tr _ _ _ e3 tr
    refine go_ret (ev_cat (es := [dL (.str (gEnd b) (gBegin a))]) (ev_tr 0 tr) (ev_lst (ea_cons (ev_tup (ea_cons ev_str (ea_cons (ev_d 2 (r_l.ex e3)) (ea_cons (ev_d 1 (r_s.ex e3)) ea_nil)))) ea_nil)) mo_tr tr_lst new_lst (by rw [List.length_map]; show st.length + 1 ≤ 100000; omega)) fun v H4 e4 rv => q v H4 (((e1.trans e2).trans e3).trans e4) (Or.inr ?_)
    show NewR K H (dLs (gClosed st)) v H4
    rw [ec]
    show NewR K H ((st ++ [_]).map dL) v H4
    rw [List.map_append]
    exact NewR.back rv ((e1.trans e2).trans e3)
/-- the strokes that grow: at lf; the last one at ll -/
def StR (K : PySem.W.Frag) (H1 : Hp) (lf : Addr) (xs : List V) (ss : List (List Leg)) (H : Hp) : Prop := (xs = [] ∧ ss = []) ∨ ∃ ys ll init s zs, xs = ys ++ [.ref ll] ∧ ss = init ++ [s] ∧ s ≠ [] ∧ ll ≠ lf ∧ H1 ll = none ∧ H ll = some (.lst zs) ∧ RpL K H zs (dLs s) ∧ LLg K lf ys (init.map dLs) H ∧ LLg K ll ys (init.map dLs) H
theorem StR.ex {K : PySem.W.Frag} {H1 H H' : Hp} {lf : Addr} {xs : List V} {ss : List (List Leg)} (h : StR K H1 lf xs ss H) (e : Ex H H') : StR K H1 lf xs ss H' := by
  rcases h with h | ⟨ys, ll, init, s, zs, h1, h2, h3, h4, h5, h6, h7, h8, h9⟩
  · exact Or.inl h
  · exact Or.inr ⟨ys, ll, init, s, zs, h1, h2, h3, h4, h5, e _ _ h6, h7.ex e, h8.ex e, h9.ex e⟩
theorem StR.llg {K : PySem.W.Frag} {H1 H : Hp} {lf : Addr} {xs : List V} {ss : List (List Leg)} (h : StR K H1 lf xs ss H) : LLg K lf xs (ss.map dLs) H := by
  rcases h with ⟨rfl, rfl⟩ | ⟨ys, ll, init, s, zs, rfl, rfl, h3, h4, h5, h6, h7, h8, h9⟩
  · exact ⟨rfl, fun i x hx => by simp at hx⟩
  · rw [List.map_append]
    exact h8.push h4 h6 h7
/-- a new stroke -/
theorem StR.push {K : PySem.W.Frag} {H1 H : Hp} {lf p : Addr} {xs : List V} {ss : List (List Leg)} {zs : List V} {l : Leg} (h : StR K H1 lf xs ss H) (hxs : H lf = some (.lst xs)) (hp : p ≠ lf) (hp1 : H1 p = none) (hz : H p = some (.lst zs)) (hr : RpL K H zs [dL l]) (hnew : LLg K p xs (ss.map dLs) H) :
    StR K H1 lf (xs ++ [.ref p]) (ss ++ [[l]]) (upd H lf (.lst (xs ++ [.ref p]))) := by
  have kt := KT.lst (o := .lst (xs ++ [.ref p])) hxs
  exact Or.inr ⟨xs, p, ss, [l], zs, rfl, rfl, List.cons_ne_nil _ _, hp, hp1, by rw [upd_ne hp]; exact hz, RpL.kt kt _ _ hr, h.llg.bt (Or.inr rfl) ((Bt.refl _ _).put) kt, ⟨hnew.1, fun i x hx => by
    obtain ⟨q, ds, ys, g1, g2, g3, g4, g5⟩ := hnew.2 i x hx
    obtain ⟨q', ds', ys', f1, f2, f3, f4, f5⟩ := h.llg.2 i x hx
    rw [g1] at f1
    obtain rfl := V.ref.inj f1
    exact ⟨q, ds, ys, g1, g2, g3, by rw [upd_ne f2]; exact g4, RpL.kt kt _ _ g5⟩⟩⟩
/-- all else of a list of lists stands when another list is changed -/
theorem LLg.put {K : PySem.W.Frag} {H : Hp} {lf l : Addr} {xs : List V} {dss : List (List PyData)} {zs : List V} {o : HO} (h : LLg K lf xs dss H) (h' : LLg K l xs dss H) (hl : H l = some (.lst zs)) : LLg K lf xs dss (upd H l o) := ⟨h.1, fun i x hx => by
  obtain ⟨q, ds, ys, g1, g2, g3, g4, g5⟩ := h.2 i x hx
  obtain ⟨q', _, _, f1, f2, _⟩ := h'.2 i x hx
  rw [g1] at f1
  obtain rfl := V.ref.inj f1
  exact ⟨q, ds, ys, g1, g2, g3, by rw [upd_ne f2]; exact g4, RpL.kt (KT.lst hl) _ _ g5⟩⟩
end
end Ar
set_option maxHeartbeats 4000000
/-! Walk: strokes. -/
namespace Ar
open PySem L2
section
variable {X : Cx} {σ : L2.St} {H : Hp} {D : Ends} {it : Expr} {rest body : List Stmt} {pos p' : Pos} {R : V → Hp → Prop} {y : Str}
/-- for name in a list that the loop may make anew -/
theorem go_forLG (j : Nat) (hp : PassesOwn (model X.prog X.w) X.A X.env X.xe) (hc : X.calm = true) (hN : X.N.Nodup) (h : Ev X σ H it R)
    (hb : ∀ v H1, Ex H H1 → R v H1 → ∃ a xs, v = .ref a ∧ SqL X.K H1 a xs ∧ ∃ Pv : Nat → L2.St → Hp → Prop, Pv 0 σ H1 ∧ (∀ i σ' H', i ≤ xs.length → Pv i σ' H' → SqL X.K H' a xs) ∧
      (∀ i v σ' H', xs[i]? = some v → Pv i σ' H' → Go X body { D with nx := Pv (i + 1), ct := Pv (i + 1), bk := Go X rest D } (σ'.set j (some v)) H') ∧ ∀ σ' H', Pv xs.length σ' H' → Go X rest D σ' H')
    (hi : X.N[j]? = some y := by rfl) (hx : Loc X.env.scope y := by first | exact .inl rfl | exact .inr rfl) (hf : X.fn y = true ∨ X.env.scope.names.lookup y = some .local := by first | exact .inl rfl | exact .inr rfl)
    (hs' : ∀ x, foldedSetIterable it X.env x = pure x := by intro _; rfl) : Go X (.For (.Name y p') it body [] pos :: rest) D σ H :=
  go_cons (ps_for hp hc (pi_list pe_u) (pg_name hN hi hx hf) pss_u hs') (h H (ex_refl H) _ fun v H1 e1 r => by
    obtain ⟨a, xs, rfl, h1, Pv, g0, g1, gs, gd⟩ := hb v H1 e1 r
    exact ⟨a, rfl, ⟨xs, h1⟩, for_list Pv g0 g1 (fun i x σ' H' hi p => gs i x σ' H' hi p) gd⟩)
end
theorem LLg.fresh {K : PySem.W.Frag} {H : Hp} {lf p : Addr} {xs : List V} {dss : List (List PyData)} (h : LLg K lf xs dss H) (hp : H p = none) : LLg K p xs dss H := ⟨h.1, fun i x hx => by
  obtain ⟨q, ds, ys, g1, g2, g3, g4, g5⟩ := h.2 i x hx
  refine ⟨q, ds, ys, g1, ?_, g3, g4, g5⟩
  rintro rfl
  rw [hp] at g4
  cases g4⟩
theorem Bt.nil {l p : Addr} {H H' : Hp} (b : Bt l H H') (n : p ≠ l) (h : H' p = none) : H p = none := by
  cases e : H p with
  | none => rfl
  | some o => rw [b p o n e] at h; cases h
theorem Bt.putF {l p : Addr} {H H' : Hp} {o : HO} (b : Bt l H H') (h : H p = none) : Bt l H (upd H' p o) := fun a u n e => by
  have : a ≠ p := by
    rintro rfl
    rw [h] at e
    cases e
  rw [upd_ne this]
  exact b a u n e
theorem new_dp {K : PySem.W.Frag} {H0 H : Hp} {v : V} (h : NewR K H0 [] v H) : Dp K H v (.list []) := by
  obtain ⟨p, ys, rfl, _, h2, h3⟩ := h
  cases h3
  exact .lst (Or.inl (Or.inl h2)) .nil
/-- where it is found -/
theorem Ev.at {X : Cx} {σ : L2.St} {H : Hp} {e : Expr} {R : V → Hp → Prop} (h : Ev X σ H e R) : Ev X σ H e (fun v H1 => R v H1 ∧ Ex H H1) := h.imp fun v H1 x r => ⟨r, x⟩
section
variable {P : Program} {w : World} {K : PySem.W.Frag} {mg : Str → Option Value} {base : Heap}
def gAllOf (rs : List Row) : List (List Leg) := (gStrokes (gLegs rs fr0).1).map gClosed
def P_strokes (K : PySem.W.Frag) (d : Nat) (rs : List Row) : List V → Hp → Prop := fun vs H => ∃ v, vs = [v] ∧ Rp K H v (.tuple (dRs rs)) ∧ RowsOk rs ∧ gDep rs ≤ d ∧ gDone rs ≤ 14
theorem ok_strokes (T : Tx P w K mg base) (d : Nat) : C8.Cal P w K mg base (d + 43) "strokes" (spI 1 (P_strokes K d) (fun rs _ v H' => LL K ((gAllOf rs).map dLs) v H')) [] := by
  refine cal_of T.d_strokes sc_strokes (fun vs H Q E h => h.1) fun f cdv A outer s H vs Q E hr h => ?_
  obtain ⟨_, rows, ⟨v_p, rfl, r_p, ok, hdep, hdone⟩, q⟩ := h
  have hr2 : Room 2 (bX P w K mg base n_strokes "strokes" s_strokes f cdv A outer s H E).A := hr.mono (by omega)
  refine go_no (EvT.cast (et_gt (ev_call (ok_done_by T d) hr (ea_cons (ev_d 0 r_p) ea_nil) ⟨rows, rfl, ok, hdep, rfl⟩ (hk := by omega)) (ev_most T)) (decide_eq_false (by omega))) fun H1 e1 => ?_
  have r_p := r_p.ex e1
  refine go_asg 1 (ev_lst ea_nil) (fun v_f H2 e2 r_f => ?_) sc_strokes.nd
  obtain ⟨lf, rfl, h0, ex0, zs, hf0, rf0⟩ := Grow.of e1 r_f e2
  cases rf0
  have r_p := r_p.ex e2
  have lb := legs_b rows 0 fr0 ok fr0_b (by omega)
  have lbl : (gLegs rows fr0).1.length ≤ gDone rows := lb.2.1
  generalize hls : (gLegs rows fr0).1 = ls at *
  refine go_forLG (R := NewR K H2 (ls.map dL)) 2 PassesOwn.never rfl sc_strokes.nd ((ev_fst (ev_legs (ok_legs_from T d) hr (ea_cons (ev_d 0 r_p) (ea_cons (ev_call0 (ok_first T) hr2 ⟨rfl, rfl⟩) ea_nil)) ok hdep fr0_b (by omega) (Nat.le_refl _))).imp fun u H3 x3 r => ?_) fun v H3 e3 hn => ?_
  · show NewR K H2 (ls.map dL) u H3
    rw [← hls]
    exact r
  · obtain ⟨la, xs, rfl, hla, hlx, hrx⟩ := hn
    have nla : la ≠ lf := by
      rintro rfl
      rw [hla] at hf0
      cases hf0
    have hxl : xs.length = ls.length := by rw [hrx.length, List.length_map]
    refine ⟨la, xs, rfl, Or.inl (Or.inl hlx), fun i σ' H' => ∃ v2 xs', σ' = [some v_p, some (.ref lf), v2, none] ∧ Bt lf H3 H' ∧ KT H3 H' ∧ H' lf = some (.lst xs') ∧ StR K H3 lf xs' ((ls.take i).foldl gStep []) H', ⟨none, [], rfl, Bt.refl _ _, KT.refl _, e3 _ _ hf0, Or.inl ⟨rfl, rfl⟩⟩, fun i σ' H' _ hq => ?_, ?_, ?_⟩
    · obtain ⟨_, _, _, bt, _⟩ := hq
      exact Or.inl (Or.inl (bt la _ nla hlx))
    · rintro i v σ' H' hi ⟨v2, xs', rfl, bt, kt, hxs, st⟩
      obtain ⟨dd, hdd, rv⟩ := hrx.get' hi
      rw [List.getElem?_map] at hdd
      obtain ⟨l, hl, rfl⟩ := Option.map_eq_some_iff.mp hdd
      have rv := Rp.kt kt _ _ rv
      have hfold := fold_take1 hl
      have hlen := strokes_len (ls.take i) []
      have hne := strokes_ne (ls.take i) [] (fun s hs => by simp at hs)
      generalize hss : (ls.take i).foldl gStep [] = ss at *
      have hlen : ss.flatten.length ≤ 14 := by
        rw [hlen]
        simp only [List.flatten_nil, List.length_nil, List.length_take]
        omega
      have hsl : ss.length ≤ 14 := Nat.le_trans (ne_flat_len hne) hlen
      -- a new stroke
      have push : ∀ (p : Addr) (zs : List V) (H4 : Hp), Ex H' H4 → H' p = none → H4 p = some (.lst zs) → RpL K H4 zs [dL l] → gStep ss l = ss ++ [[l]] → ∃ v2 xs2, [some v_p, some (V.ref lf), some v, none] = [some v_p, some (.ref lf), v2, none] ∧ Bt lf H3 (upd H4 lf (.lst (xs' ++ [.ref p]))) ∧ KT H3 (upd H4 lf (.lst (xs' ++ [.ref p]))) ∧ (upd H4 lf (.lst (xs' ++ [.ref p]))) lf = some (.lst xs2) ∧ StR K H3 lf xs2 ((ls.take (i + 1)).foldl gStep []) (upd H4 lf (.lst (xs' ++ [.ref p]))) := fun p zs H4 e4 hp hz hrz hg => by
        have np : p ≠ lf := by
          rintro rfl
          rw [hp] at hxs
          cases hxs
        refine ⟨_, _, rfl, (bt.ex e4).put, kt.trans ((Ex.kt e4).trans (KT.lst (e4 _ _ hxs))), upd_same, ?_⟩
        rw [hfold, hg]
        exact (st.ex e4).push (e4 _ _ hxs) np (bt.nil np hp) hz hrz ((st.llg.fresh hp).ex e4)
      rcases id st with ⟨rfl, rfl⟩ | ⟨ys, ll, init, sl, zs, rfl, rfl, hsne, hll, hl1, hlz, hrz, hg1, hg2⟩
      · refine go_if (EvT.cast (et_w (ew_and (EvT.cast (et_neDp (Rb := NewR K H' []) (d := .list ((([] : List (List Leg)).map dLs).map .list)) (d' := .list []) hr2.units (ev_n 1 rfl (st.llg.ll hxs) mo_LL) (ev_lst ea_nil) mo_LL (fun u H5 hu => LL.dp hu) (fun u H5 hu => new_dp hu) (shaped_dLL []) (by rfl)) ((eqv_ll_nil _).symm ▸ rfl )) fun z => absurd z Bool.false_ne_true)) (Bool.false_and true)) (fun hk => absurd hk Bool.false_ne_true) fun _ H4 e4 => ?_
        refine go_app (e4 _ _ hxs) (ev_v 1 rfl) (ev_lst (ea_cons (ev_d 2 (rv.ex e4)) ea_nil)) (by decide) fun u H5 e5 hu => go_nil (go_nil ?_)
        obtain ⟨p, zs, rfl, hp, hz, hrz⟩ := hu
        exact push p zs H5 (e4.trans e5) (Evl.fresh_back e4 hp) hz hrz rfl
      · obtain ⟨en, hen⟩ : ∃ b, sl.getLast? = some b := ⟨_, List.getLast?_eq_some_getLast hsne⟩
        have hgs : gStep (init ++ [sl]) l = if gEnd en = gBegin l then init ++ [sl ++ [l]] else init ++ [sl] ++ [[l]] := by
          unfold gStep
          rw [List.getLast?_concat]
          simp only [hen, List.dropLast_concat]
        have hlast : atI (ys ++ [V.ref ll]) (-1) = some (.ref ll) := atI_last List.getLast?_concat
        have tr : TrR K ll (dLs sl) (.ref ll) H' := ⟨rfl, zs, hlz, hrz⟩
        refine go_if (EvT.cast (et_w (ew_and (EvT.cast (et_neDp (Rb := NewR K H' []) (d := .list (((init ++ [sl]).map dLs).map .list)) (d' := .list []) hr2.units (ev_n 1 rfl (st.llg.ll hxs) mo_LL) (ev_lst ea_nil) mo_LL (fun u H5 hu => LL.dp hu) (fun u H5 hu => new_dp hu) (shaped_dLL (init ++ [sl])) (by rfl)) (by rw [eqv_ll_nil, decide_eq_false (by simp)]; rfl)) fun _ => ew_and1 (EvT.cast (et_eq hr.units (ev_call (ok_end_of T) hr2 (ea_cons (ev_ixL (((ev_ixV hxs (ev_v 1 rfl) (ev_neg ev_int) hlast).at).imp fun u H4 x4 hu => (by rw [hu.1]; exact (mo_tr _ _ _ hu.2 tr).ls)) (ev_neg ev_int) (atI_last (last_map hen))) ea_nil) ⟨en, rfl, rfl⟩) (ev_call (ok_begin_of T) hr2 (ea_cons (ev_d 2 rv) ea_nil) ⟨l, rfl, rfl⟩) rfl rfl) (eqv_dP _ _)))) (Bool.true_and _)) (fun hk H4 e4 => ?_) fun hk H4 e4 => ?_
        · have hk := of_decide_eq_true hk
          rw [if_pos hk] at hgs
          have hxs4 := e4 _ _ hxs
          refine go_app (e4 _ _ hlz) (ev_ixV hxs4 (ev_v 1 rfl) (ev_neg ev_int) hlast) (ev_d 2 (rv.ex e4)) (by rw [hrz.length, List.length_map]; have := flat_mem_len (s := sl) (ss := init ++ [sl]) (by simp); omega) fun u H5 e5 ru => go_nil (go_nil ?_)
          have hlz5 := e5 _ _ (e4 _ _ hlz)
          have kt5 := KT.lst (o := .lst (zs ++ [u])) hlz5
          refine ⟨_, _, rfl, (bt.ex (e4.trans e5)).putF hl1, kt.trans ((Ex.kt (e4.trans e5)).trans kt5), by rw [upd_ne (Ne.symm hll)]; exact e5 _ _ hxs4, ?_⟩
          rw [hfold, hgs]
          refine Or.inr ⟨ys, ll, init, sl ++ [l], zs ++ [u], rfl, rfl, by simp, hll, hl1, upd_same, ?_, (hg1.ex (e4.trans e5)).put (hg2.ex (e4.trans e5)) hlz5, (hg2.ex (e4.trans e5)).put (hg2.ex (e4.trans e5)) hlz5⟩
          show RpL K _ (zs ++ [u]) ((sl ++ [l]).map dL)
          rw [List.map_append]
          exact (RpL.kt kt5 _ _ (hrz.ex (e4.trans e5))).append (.one (Rp.kt kt5 _ _ ru))
        · have hk := of_decide_eq_false hk
          rw [if_neg hk] at hgs
          refine go_app (e4 _ _ hxs) (ev_v 1 rfl) (ev_lst (ea_cons (ev_d 2 (rv.ex e4)) ea_nil)) (by rw [st.llg.1, List.length_map]; omega) fun u H5 e5 hu => go_nil (go_nil ?_)
          obtain ⟨p, zs', rfl, hp, hz, hrz'⟩ := hu
          exact push p zs' H5 (e4.trans e5) (Evl.fresh_back e4 hp) hz hrz' hgs
    · rintro σ' H' ⟨v2, xs', rfl, bt, kt, hxs, st⟩
      rw [hxl, List.take_length] at st
      have hlen := strokes_len ls []
      have hne := strokes_ne ls [] (fun s hs => by simp at hs)
      have hlen2 : (ls.foldl gStep []).flatten.length ≤ 14 := by
        rw [hlen]
        simp only [List.flatten_nil, List.length_nil]
        omega
      have exH : Ex H H' := fun a o ho => by
        have h3 := ((e1.trans e2).trans e3) a o ho
        refine bt a o ?_ h3
        rintro rfl
        rw [h0] at ho
        cases ho
      refine go_ret (ev_lcM (dss := (ls.foldl gStep []).map dLs) (rss := ((ls.foldl gStep []).map gClosed).map dLs) 3 rfl sc_strokes.nd ((ev_v 1 rfl).imp fun u H4 x4 hu => ⟨lf, xs', hu, x4 _ _ hxs, st.llg.ex x4⟩)
        (blkOk_by (N := n_strokes) (sc := C8.fnScope s_strokes) (by decide +kernel)) (fun _ _ _ _ _ => pg_name sc_strokes.nd rfl (by first | exact .inl rfl | exact .inr rfl) (by first | exact .inl rfl | exact .inr rfl)) (by simp) (by rw [List.length_map, List.length_map]; have := ne_flat_len hne; omega) fun i H4 qa ys ds x4 hds hq hr => ?_) fun u H4 e4 ru => q u H4 (exH.trans e4) ?_
      · rw [List.getElem?_map] at hds
        obtain ⟨s, hs, rfl⟩ := Option.map_eq_some_iff.mp hds
        refine ⟨dLs (gClosed s), by rw [List.getElem?_map, List.getElem?_map, hs]; rfl, fun _ _ _ _ _ => ?_⟩
        refine ev_callI (s, qa) (by exact ok_closed T) (by exact hr2) (P := P_closed K) (R := R_closed K) (EvA.imp (eb_cons (R := fun u H5 => u = .ref qa ∧ H5 qa = some (.lst ys) ∧ RpL K H5 ys (dLs s)) (ev_n 3 rfl ⟨rfl, hq, hr⟩ fun _ _ _ e h => ⟨h.1, e _ _ h.2.1, h.2.2.ex e⟩) (fun _ _ _ e h => ⟨h.1, e _ _ h.2.1, h.2.2.ex e⟩) eb_nil) fun vs H5 x5 hv => ?_) fun H5 u H6 x5 x6 hu => ?_
        · obtain ⟨u, r, rfl, ⟨rfl, g1, g2⟩, hr0⟩ := hv
          have hr0 : r = [] := hr0
          subst hr0
          have hm := List.mem_of_getElem? hs
          exact ⟨rfl, rfl, ys, g1, g2, hne s hm, by show s.length ≤ 1000; have := flat_mem_len hm; omega⟩
        · rcases hu with hu | hu
          · exact Or.inl hu
          · exact Or.inr (NewR.back hu x5)
      · show LL K ((gAllOf rows).map dLs) u H4
        unfold gAllOf gStrokes
        rw [hls]
        exact ru
end
end Ar
set_option maxHeartbeats 4000000
/-! Walk of the law: numbers, points. -/
namespace Ar
open PySem L2
theorem law_num {t b : Int} (h : 0 < b) : t.fdiv (Int.gcd t b : Int) = (Rat.divInt t b).num := by
  have := ratio_num (t := t) (b := b) (by omega)
  rw [if_neg (by omega)] at this
  exact this
theorem law_den {t b : Int} (h : 0 < b) : b.fdiv (Int.gcd t b : Int) = ((Rat.divInt t b).den : Int) := by
  have := ratio_den (t := t) (b := b) (by omega)
  rw [if_neg (by omega)] at this
  exact this
def gDrawn (a b : Int) : Rat := if b % 5 = 4 then Rat.divInt (a * 7 % 1999999 - 999999) (1 + b * 13 % 999999) else Rat.divInt (a % 41 - 20) (1 + a / 41 % (if b % 3 = 2 then 9 else 1))
def gAmid (p q : Pt) : Pt := ((p.1 + q.1) * (1 / 2), (p.2 + q.2) * (1 / 2))
def gOut (c p : Pt) (k : Rat) : Pt := (p.1 + k * (gOff p c).1, p.2 + k * (gOff p c).2)
def gLawSide (a b p : Pt) : Int := (gAcross (gOff b a) (gOff p a)).num
def gLawBet (c a b p : Pt) : Bool := decide (gAlong (gOff p c) (gOff p c) < gAlong (gOff a c) (gOff a c)) && decide (gLawSide a b p < 0)
def bits (n : Int) (h : Nat) : Prop := n.natAbs < 2 ^ h
theorem loose_mul {a b c d : Int} (hb : 0 < b) (hd : 0 < d) : Rat.divInt (a * c) (b * d) = Rat.divInt a b * Rat.divInt c d := (Rat.divInt_mul_divInt a c).symm
theorem minus_eq (x y : Rat) : x + -1 * y = x - y := by grind
local macro_rules | `(tactic| walk_at "bd") => `(tactic| (first | omega | (simp only [hp] at *; omega) | grind [hp, ht_add, ht_sub, ht_mul, ht_div, ht_neg, hp_tog, hp_off, hp_grow, ht_along, ht_across, ht_far, gTog, gOff]))
local macro_rules | `(tactic| walk_at "mu") => `(tactic| (first | exact cm_nd (by omega) | exact cm_nn (by omega) | exact cm_dd (by omega) | exact cm_dn (by omega)))
section
variable {P : Program} {w : World} {K : PySem.W.Frag} {mg : Str → Option Value} {base : Heap}
def dom_law_ratio : List PyData → PyData → Prop := fun ds r => ∃ t b : Int, ds = [.int t, .int b] ∧ 0 < b ∧ r = dQ (Rat.divInt t b)
theorem ok_law_ratio (T : Tx P w K mg base) : C8.Cal P w K mg base 33 "_law_ratio" (spD K 2 dom_law_ratio) [] := by
  refine cal_of T.d_law_ratio sc_law_ratio (fun vs H Q E h => h.1) fun f cdv A outer s H vs Q E hr h => ?_
  obtain ⟨_, ds, r, rs, ⟨t, b, rfl, hb, rfl⟩, q⟩ := h
  obtain ⟨v, u, rfl, r1, r2⟩ := two_inv rs
  have e1 := r1.int_inv
  have e2 := r2.int_inv
  subst e1 e2
  have ho := op_fdivP (X := bX P w K mg base n_law_ratio "_law_ratio" s_law_ratio f cdv A outer s H E) T.seer T.tree (by have := hr.dp; omega) rfl rfl rfl
  refine go_par 2 3 (ev_abs T.m_abs (ev_d 0 (.int t))) mo_rp (ev_d 1 (.int b)) rfl sc_law_ratio.nd fun v w H1 e1 rv rw' => ?_
  have ev := rv.int_inv
  have ew := rw'.int_inv
  subst ev ew
  refine go_while PassesOwn.never (fun n σ' H' => ∃ m : Nat, σ' = [some (.int t), some (.int b), some (.int m), some (.int n)] ∧ Int.gcd m n = Int.gcd t b ∧ Ex H H') b.natAbs ⟨t.natAbs, ?_, by rw [Int.gcd_natCast_natCast]; rfl, e1⟩ ?_
  · show [some (V.int t), some (V.int b), some (V.int t.natAbs), some (V.int b)] = _
    rw [Int.natAbs_of_nonneg (Int.le_of_lt hb)]
  rintro n σ' H' ⟨m, rfl, hg, ex⟩
  refine ⟨_, et_gt (ev_d 3 (.int n)) ev_int, fun hk H3 e3 => ?_, fun hk H3 e3 => ?_⟩
  · have hn : 0 < (n : Int) := of_decide_eq_true hk
    refine go_par 2 3 (ev_d 3 (.int n)) mo_rp (ev_mod (ev_d 2 (.int m)) (ev_d 3 (.int n)) hn) rfl sc_law_ratio.nd fun v w H4 e4 rv rw' => go_nil ?_
    rw [rv.int_inv, rw'.int_inv]
    refine ⟨m % n, Nat.mod_lt _ (by omega), n, ?_, gcd_step t b m n hg, (ex.trans e3).trans e4⟩
    show [some (V.int t), some (V.int b), some (V.int n), some (V.int ((m : Int) % (n : Int)))] = _
    rw [← Int.natCast_emod]
  · have hn : ¬ 0 < (n : Int) := of_decide_eq_false hk
    have n0 : n = 0 := by omega
    subst n0
    have em : (m : Int) = (Int.gcd t b : Int) := by rw [← hg, Int.gcd_natCast_natCast, Nat.gcd_zero_right]
    have hm : (m : Int) ≠ 0 := by rw [em]; exact gcd_ne (by omega)
    refine go_ret (ev_tup (ea_cons (ev_fdiv ho (ev_d 0 (.int t)) (ev_d 2 (.int m)) hm) (ea_cons (ev_fdiv ho (ev_d 1 (.int b)) (ev_d 2 (.int m)) hm) ea_nil))) fun v H4 e4 rv => q v H4 ((ex.trans e3).trans e4) (by
      rw [em, law_num hb, law_den hb] at rv
      exact rv)
def dom_law_times : List PyData → PyData → Prop := fun ds r => ∃ (a b c d : Int) (h k : Nat), ds = [.tuple [.int a, .int b], .tuple [.int c, .int d]] ∧ 0 < b ∧ 0 < d ∧ (a.natAbs < 2 ^ h ∧ b.natAbs < 2 ^ h ∧ c.natAbs < 2 ^ k ∧ d.natAbs < 2 ^ k ∧ h + k ≤ 60000000) ∧ r = dQ (Rat.divInt a b * Rat.divInt c d)
theorem ok_law_times (T : Tx P w K mg base) : C8.Cal P w K mg base 34 "_law_times" (spD K 2 dom_law_times) [] := by
  refine cal_of T.d_law_times sc_law_times (fun vs H Q E h => h.1) fun f cdv A outer s H vs Q E hr h => ?_
  obtain ⟨_, ds, r, rs, ⟨a, b, c, d, h, k, rfl, hb, hd, ⟨ha1, hb1, hc1, hd1, hk⟩, rfl⟩, q⟩ := h
  obtain ⟨v_1, v_2, rfl, r_1, r_2⟩ := inv2 rs
  refine go_ret (ev_call (ok_law_ratio T) hr (ea_cons (ev_mul (ev_ix (ev_d 0 r_1) ev_int) (ev_ix (ev_d 1 r_2) ev_int) (mulx_ok ha1 hc1 (by omega))) (ea_cons (ev_mul (ev_ix (ev_d 0 r_1) ev_int) (ev_ix (ev_d 1 r_2) ev_int) (mulx_ok hb1 hd1 (by omega))) ea_nil)) ⟨_, _, rfl, Int.mul_pos hb hd, rfl⟩) fun v H1 e1 rv => q v H1 e1 ?_
  rw [loose_mul hb hd] at rv
  exact rv
theorem den_pos (x : Rat) : 0 < (x.den : Int) := by have := x.den_pos; omega
theorem tms {x y : Rat} (h : ht x + ht y ≤ 60000000) : dom_law_times [dQ x, dQ y] (dQ (x * y)) := ⟨x.num, x.den, y.num, y.den, ht x, ht y, rfl, den_pos x, den_pos y, ⟨ht_num x, by simpa using ht_den x, ht_num y, by simpa using ht_den y, h⟩, by rw [Rat.num_divInt_den, Rat.num_divInt_den]⟩
theorem dpos2 (x y : Rat) : 0 < (x.den : Int) * (y.den : Int) := Int.mul_pos (den_pos x) (den_pos y)

def dom_law_plus : List PyData → PyData → Prop := fun ds r => ∃ (x y : Rat), ds = [dQ x, dQ y] ∧ (ht x + ht y ≤ 60000000) ∧ r = dQ (x + y)
theorem ok_law_plus (T : Tx P w K mg base) : C8.Cal P w K mg base 34 "_law_plus" (spD K 2 dom_law_plus) [] := by
  refine cal_of T.d_law_plus sc_law_plus (fun vs H Q E h => h.1) fun f cdv A outer s H vs Q E hr h => ?_
  obtain ⟨_, ds, r, rs, ⟨x, y, rfl, p0, rfl⟩, q⟩ := h
  obtain ⟨v_law_one, v_law_other, rfl, r_law_one, r_law_other⟩ := inv2 rs
  exact go_ret (ev_call (ok_law_ratio T) hr (ea_cons (ev_add (ev_mul (ev_ix (ev_d 0 r_law_one) ev_int) (ev_ix (ev_d 1 r_law_other) ev_int) (by walk_at "mu")) (ev_mul (ev_ix (ev_d 1 r_law_other) ev_int) (ev_ix (ev_d 0 r_law_one) ev_int) (by walk_at "mu"))) (ea_cons (ev_mul (ev_ix (ev_d 0 r_law_one) ev_int) (ev_ix (ev_d 1 r_law_other) ev_int) (by walk_at "mu")) ea_nil)) ⟨_, _, rfl, dpos2 _ _, rfl⟩) fun v H1 e1 rv => q v H1 ((ex_refl H).trans e1) (by rw [q_add] at rv; exact rv)
theorem mone : ht (-1) ≤ 1 := by decide
def dom_law_minus : List PyData → PyData → Prop := fun ds r => ∃ (x y : Rat), ds = [dQ x, dQ y] ∧ (ht x + ht y ≤ 50000000) ∧ r = dQ (x - y)
theorem ok_law_minus (T : Tx P w K mg base) : C8.Cal P w K mg base 35 "_law_minus" (spD K 2 dom_law_minus) [] := by
  refine cal_of T.d_law_minus sc_law_minus (fun vs H Q E h => h.1) fun f cdv A outer s H vs Q E hr h => ?_
  obtain ⟨_, ds, r, rs, ⟨x, y, rfl, p0, rfl⟩, q⟩ := h
  obtain ⟨v_law_one, v_law_other, rfl, r_law_one, r_law_other⟩ := inv2 rs
  have hm1 := mone
  have hmm := ht_mul (-1) y
  exact go_ret (ev_call (ok_law_plus T) hr (ea_cons (ev_d 0 r_law_one) (ea_cons (ev_call (ok_law_times T) hr (ea_cons ((ev_tup (ea_cons (ev_neg ev_int) (ea_cons ev_int ea_nil))).cast (show _ = dQ (-1) from rfl)) (ea_cons (ev_d 1 r_law_other) ea_nil)) (tms (by walk_at "bd"))) ea_nil)) ⟨_, _, rfl, (by walk_at "bd"), rfl⟩) fun v H1 e1 rv => q v H1 ((ex_refl H).trans e1) (by rw [minus_eq] at rv; exact rv)
def dom_law_less : List PyData → PyData → Prop := fun ds r => ∃ (x y : Rat), ds = [dQ x, dQ y] ∧ (ht x + ht y ≤ 60000000) ∧ r = .bool (decide (x < y))
theorem ok_law_less (T : Tx P w K mg base) : C8.Cal P w K mg base 1 "_law_less" (spD K 2 dom_law_less) [] := by
  refine cal_of T.d_law_less sc_law_less (fun vs H Q E h => h.1) fun f cdv A outer s H vs Q E hr h => ?_
  obtain ⟨_, ds, r, rs, ⟨x, y, rfl, p0, rfl⟩, q⟩ := h
  obtain ⟨v_law_one, v_law_other, rfl, r_law_one, r_law_other⟩ := inv2 rs
  exact go_ret (ev_lt (ev_mul (ev_ix (ev_d 0 r_law_one) ev_int) (ev_ix (ev_d 1 r_law_other) ev_int) (by walk_at "mu")) (ev_mul (ev_ix (ev_d 1 r_law_other) ev_int) (ev_ix (ev_d 0 r_law_one) ev_int) (by walk_at "mu"))) fun v H1 e1 rv => q v H1 ((ex_refl H).trans e1) (by rw [q_lt] at rv; exact rv)
def dom_law_off : List PyData → PyData → Prop := fun ds r => ∃ (p q : Pt), ds = [dP p, dP q] ∧ (hp p + hp q ≤ 20000000) ∧ r = dP (gOff p q)
theorem ok_law_off (T : Tx P w K mg base) : C8.Cal P w K mg base 36 "_law_off" (spD K 2 dom_law_off) [] := by
  refine cal_of T.d_law_off sc_law_off (fun vs H Q E h => h.1) fun f cdv A outer s H vs Q E hr h => ?_
  obtain ⟨_, ds, r, rs, ⟨p, q, rfl, p0, rfl⟩, q⟩ := h
  obtain ⟨v_law_p, v_law_q, rfl, r_law_p, r_law_q⟩ := inv2 rs
  exact go_ret (ev_tup (ea_cons (ev_call (ok_law_minus T) hr (ea_cons (ev_ix (ev_d 0 r_law_p) ev_int) (ea_cons (ev_ix (ev_d 1 r_law_q) ev_int) ea_nil)) ⟨_, _, rfl, (by walk_at "bd"), rfl⟩) (ea_cons (ev_call (ok_law_minus T) hr (ea_cons (ev_ix (ev_d 0 r_law_p) ev_int) (ea_cons (ev_ix (ev_d 1 r_law_q) ev_int) ea_nil)) ⟨_, _, rfl, (by walk_at "bd"), rfl⟩) ea_nil))) fun v H1 e1 rv => q v H1 ((ex_refl H).trans e1) (rv)
def dom_law_cross : List PyData → PyData → Prop := fun ds r => ∃ (p q : Pt), ds = [dP p, dP q] ∧ (hp p + hp q ≤ 20000000) ∧ r = dQ (gAcross p q)
theorem ok_law_cross (T : Tx P w K mg base) : C8.Cal P w K mg base 36 "_law_cross" (spD K 2 dom_law_cross) [] := by
  refine cal_of T.d_law_cross sc_law_cross (fun vs H Q E h => h.1) fun f cdv A outer s H vs Q E hr h => ?_
  obtain ⟨_, ds, r, rs, ⟨p, q, rfl, p0, rfl⟩, q⟩ := h
  obtain ⟨v_law_p, v_law_q, rfl, r_law_p, r_law_q⟩ := inv2 rs
  exact go_ret (ev_call (ok_law_minus T) hr (ea_cons (ev_call (ok_law_times T) hr (ea_cons (ev_ix (ev_d 0 r_law_p) ev_int) (ea_cons (ev_ix (ev_d 1 r_law_q) ev_int) ea_nil)) (tms (by walk_at "bd"))) (ea_cons (ev_call (ok_law_times T) hr (ea_cons (ev_ix (ev_d 0 r_law_p) ev_int) (ea_cons (ev_ix (ev_d 1 r_law_q) ev_int) ea_nil)) (tms (by walk_at "bd"))) ea_nil)) ⟨_, _, rfl, (by walk_at "bd"), rfl⟩) fun v H1 e1 rv => q v H1 ((ex_refl H).trans e1) (rv)
def dom_law_dot : List PyData → PyData → Prop := fun ds r => ∃ (p q : Pt), ds = [dP p, dP q] ∧ (hp p + hp q ≤ 20000000) ∧ r = dQ (gAlong p q)
theorem ok_law_dot (T : Tx P w K mg base) : C8.Cal P w K mg base 35 "_law_dot" (spD K 2 dom_law_dot) [] := by
  refine cal_of T.d_law_dot sc_law_dot (fun vs H Q E h => h.1) fun f cdv A outer s H vs Q E hr h => ?_
  obtain ⟨_, ds, r, rs, ⟨p, q, rfl, p0, rfl⟩, q⟩ := h
  obtain ⟨v_law_p, v_law_q, rfl, r_law_p, r_law_q⟩ := inv2 rs
  exact go_ret (ev_call (ok_law_plus T) hr (ea_cons (ev_call (ok_law_times T) hr (ea_cons (ev_ix (ev_d 0 r_law_p) ev_int) (ea_cons (ev_ix (ev_d 1 r_law_q) ev_int) ea_nil)) (tms (by walk_at "bd"))) (ea_cons (ev_call (ok_law_times T) hr (ea_cons (ev_ix (ev_d 0 r_law_p) ev_int) (ea_cons (ev_ix (ev_d 1 r_law_q) ev_int) ea_nil)) (tms (by walk_at "bd"))) ea_nil)) ⟨_, _, rfl, (by walk_at "bd"), rfl⟩) fun v H1 e1 rv => q v H1 ((ex_refl H).trans e1) (rv)
def dom_law_side : List PyData → PyData → Prop := fun ds r => ∃ (a b p : Pt), ds = [dP a, dP b, dP p] ∧ (hp a + hp b + hp p ≤ 9000000) ∧ r = .int (gLawSide a b p)
theorem ok_law_side (T : Tx P w K mg base) : C8.Cal P w K mg base 37 "_law_side" (spD K 3 dom_law_side) [] := by
  refine cal_of T.d_law_side sc_law_side (fun vs H Q E h => h.1) fun f cdv A outer s H vs Q E hr h => ?_
  obtain ⟨_, ds, r, rs, ⟨a, b, p, rfl, p0, rfl⟩, q⟩ := h
  obtain ⟨v_law_a, v_law_b, v_law_p, rfl, r_law_a, r_law_b, r_law_p⟩ := inv3 rs
  exact go_ret (ev_ix (ev_call (ok_law_cross T) hr (ea_cons (ev_call (ok_law_off T) hr (ea_cons (ev_d 1 r_law_b) (ea_cons (ev_d 0 r_law_a) ea_nil)) ⟨_, _, rfl, (by walk_at "bd"), rfl⟩) (ea_cons (ev_call (ok_law_off T) hr (ea_cons (ev_d 2 r_law_p) (ea_cons (ev_d 0 r_law_a) ea_nil)) ⟨_, _, rfl, (by walk_at "bd"), rfl⟩) ea_nil)) ⟨_, _, rfl, (by walk_at "bd"), rfl⟩) ev_int) fun v H1 e1 rv => q v H1 ((ex_refl H).trans e1) (rv)
def dom_law_is_between : List PyData → PyData → Prop := fun ds r => ∃ (c a b p : Pt), ds = [dP c, dP a, dP b, dP p] ∧ (hp a + hp b + hp p + hp c ≤ 9000000) ∧ r = .bool (gLawBet c a b p)
theorem ok_law_is_between (T : Tx P w K mg base) : C8.Cal P w K mg base 38 "_law_is_between" (spD K 4 dom_law_is_between) [] := by
  refine cal_of T.d_law_is_between sc_law_is_between (fun vs H Q E h => h.1) fun f cdv A outer s H vs Q E hr h => ?_
  obtain ⟨_, ds, r, rs, ⟨c, a, b, p, rfl, p0, rfl⟩, q⟩ := h
  obtain ⟨v_law_c, v_law_a, v_law_b, v_law_p, rfl, r_law_c, r_law_a, r_law_b, r_law_p⟩ := inv4 rs
  refine go_par 4 5 (ev_call (ok_law_off T) hr (ea_cons (ev_d 3 r_law_p) (ea_cons (ev_d 0 r_law_c) ea_nil)) ⟨_, _, rfl, (by walk_at "bd"), rfl⟩) mo_rp (ev_call (ok_law_off T) hr (ea_cons (ev_d 1 r_law_a) (ea_cons (ev_d 0 r_law_c) ea_nil)) ⟨_, _, rfl, (by walk_at "bd"), rfl⟩) rfl sc_law_is_between.nd (fun v_law_here v_law_mark H1 e1 r_law_here r_law_mark => ?_)
  have r_law_c := r_law_c.ex e1
  have r_law_a := r_law_a.ex e1
  have r_law_b := r_law_b.ex e1
  have r_law_p := r_law_p.ex e1
  have x1 := (ex_refl H).trans e1
  exact go_ret (ev_and (ev_call (ok_law_less T) hr (ea_cons (ev_call (ok_law_dot T) hr (ea_cons (ev_d 4 r_law_here) (ea_cons (ev_d 4 r_law_here) ea_nil)) ⟨_, _, rfl, (by walk_at "bd"), rfl⟩) (ea_cons (ev_call (ok_law_dot T) hr (ea_cons (ev_d 5 r_law_mark) (ea_cons (ev_d 5 r_law_mark) ea_nil)) ⟨_, _, rfl, (by walk_at "bd"), rfl⟩) ea_nil)) ⟨_, _, rfl, (by walk_at "bd"), rfl⟩) fun _ => (ev_one (ev_lt (ev_call (ok_law_side T) hr (ea_cons (ev_d 1 r_law_a) (ea_cons (ev_d 2 r_law_b) (ea_cons (ev_d 3 r_law_p) ea_nil))) ⟨_, _, _, rfl, (by walk_at "bd"), rfl⟩) ev_int))) fun v H2 e2 rv => q v H2 (x1.trans e2) (rv)
theorem half_num : (1 / 2 : Rat).num = 1 := by decide +kernel
theorem half_den : (1 / 2 : Rat).den = 2 := by decide +kernel
theorem half_ht : ht (1 / 2) ≤ 2 := by decide +kernel
theorem half_dQ : PyData.tuple [.int 1, .int 2] = dQ (1 / 2) := by
  show _ = PyData.tuple [.int (1 / 2 : Rat).num, .int ((1 / 2 : Rat).den : Int)]
  rw [half_num, half_den]
  rfl
def dom_law_amid : List PyData → PyData → Prop := fun ds r => ∃ (a b : Pt), ds = [dP a, dP b] ∧ (hp a + hp b ≤ 20000000) ∧ r = dP (gAmid a b)
theorem ok_law_amid (T : Tx P w K mg base) : C8.Cal P w K mg base 35 "_law_amid" (spD K 2 dom_law_amid) [] := by
  refine cal_of T.d_law_amid sc_law_amid (fun vs H Q E h => h.1) fun f cdv A outer s H vs Q E hr h => ?_
  obtain ⟨_, ds, r, rs, ⟨a, b, rfl, p0, rfl⟩, q⟩ := h
  obtain ⟨v_law_p, v_law_q, rfl, r_law_p, r_law_q⟩ := inv2 rs
  have hh := half_ht
  have h1 := ht_add a.1 b.1
  have h2 := ht_add a.2 b.2
  have h3 : hp a = ht a.1 + ht a.2 := rfl
  have h4 : hp b = ht b.1 + ht b.2 := rfl
  refine go_asg 2 ((ev_tup (ea_cons ev_int (ea_cons ev_int ea_nil))).cast half_dQ) (fun v_law_half H1 e1 r_law_half => ?_) sc_law_amid.nd
  have r_law_p := r_law_p.ex e1
  have r_law_q := r_law_q.ex e1
  have x1 := (ex_refl H).trans e1
  exact go_ret (ev_tup (ea_cons (ev_call (ok_law_times T) hr (ea_cons (ev_call (ok_law_plus T) hr (ea_cons (ev_ix (ev_d 0 r_law_p) ev_int) (ea_cons (ev_ix (ev_d 1 r_law_q) ev_int) ea_nil)) ⟨_, _, rfl, (by walk_at "bd"), rfl⟩) (ea_cons (ev_d 2 r_law_half) ea_nil)) (tms (by walk_at "bd"))) (ea_cons (ev_call (ok_law_times T) hr (ea_cons (ev_call (ok_law_plus T) hr (ea_cons (ev_ix (ev_d 0 r_law_p) ev_int) (ea_cons (ev_ix (ev_d 1 r_law_q) ev_int) ea_nil)) ⟨_, _, rfl, (by walk_at "bd"), rfl⟩) (ea_cons (ev_d 2 r_law_half) ea_nil)) (tms (by walk_at "bd"))) ea_nil))) fun v H2 e2 rv => q v H2 (x1.trans e2) (rv)
end
end Ar
set_option maxHeartbeats 4000000
/-! Walk of the law: rows of numbers, drawn fractions, ends. -/
namespace Ar
open PySem L2
section
variable {X : Cx} {σ : L2.St} {H : Hp} {a b : Expr} {pos : Pos}
/-- t[i:j], a part of a tuple -/
theorem ev_slT {ds : List PyData} {lo hi : Option Expr} {l u : Option Int} {p2 : Pos} {tl th : TO} (ha : EvD X σ H a (.tuple ds)) (hl : PO X lo tl) (hh : PO X hi th) (gl : ∀ H1 Q, Q l H1 → tl σ H1 Q) (gh : ∀ H1 Q, Q u H1 → th σ H1 Q) (hn : ¬ (HT.sIx ds.length 0 l = 0 ∧ HT.sIx ds.length ds.length u = ds.length)) :
    EvD X σ H (.Subscript a (.Slice lo hi none p2) pos) (.tuple (cutD ds l u)) := fun H1 e1 Q q =>
  uE.of (pe_slice sl_tup pe_u hl hh) (ha H1 e1 _ fun v H2 e2 r => gl H2 _ (gh H2 _ (by
    obtain ⟨p, xs, rfl, hs, rr⟩ := r.tup_inv
    exact ⟨p, xs, rfl, hs, by rw [rr.length]; exact hn, fun t ht => q _ _ (e2.trans (ex_new ht)) (.tup (Or.inl (Or.inl upd_same)) ((cut_rp rr l u).ex (ex_new ht)))⟩)))
theorem ev_pow {i j : Int} (ha : EvD X σ H a (.int i)) (hb : EvD X σ H b (.int j)) (hc : CPow i j) : EvD X σ H (.BinOp a .Pow b pos) (.int (i ^ j.toNat)) :=
  ev_opR op_pow ha hb mo_rp fun x y H2 _ rx ry Q q => ⟨i, j, rx.int_inv, ry.int_inv, hc, q _ H2 (ex_refl H2) (.int _)⟩
end
theorem p6 : PyData.int ((10 : Int) ^ (6 : Int).toNat) = PyData.int 1000000 := congrArg PyData.int (by decide +kernel)
theorem ht_di {t b : Int} {k : Nat} (h1 : t.natAbs < 2 ^ k) (h2 : b.natAbs < 2 ^ k) (h3 : 0 < b) (hk : 0 < k) : ht (Rat.divInt t b) ≤ k := by
  obtain ⟨n, rfl⟩ := Int.eq_ofNat_of_zero_le (Int.le_of_lt h3)
  rw [Rat.divInt_ofNat]
  exact ht_mkRat h1 (by simpa using h2) (by omega) hk
/-! the numbers of a row -/
def rowA (c : Int) : Nat → Int × List Int
  | 0 => (c % 2147483647 + 1, [])
  | k + 1 => ((rowA c k).1 * 48271 % 2147483647, (rowA c k).2 ++ [((rowA c k).1 * 48271 % 2147483647 * ((rowA c k).1 * 48271 % 2147483647) + 69621 * ((rowA c k).1 * 48271 % 2147483647) + k) % 2147483629 / 7 % 1000000])
def rowB (c : Int) : Nat → Int × List Int
  | 0 => (c, [])
  | k + 1 => ((rowB c k).1 / 1000000, (rowB c k).2 ++ [(rowB c k).1 % 1000000])
def gRow (c : Int) : List Int := if (c.natAbs : Int) < 1000000000000000000 then (rowA c 12).2 else (rowB c 12).2
/-- numbers below a million -/
def Low (ns : List Int) : Prop := ∀ n ∈ ns, 0 ≤ n ∧ n < 1000000
theorem rowA_ok (c : Int) : ∀ k, (0 ≤ (rowA c k).1 ∧ (rowA c k).1 ≤ 2147483647) ∧ (rowA c k).2.length = k ∧ Low (rowA c k).2
  | 0 => ⟨⟨by show 0 ≤ c % 2147483647 + 1; omega, by show c % 2147483647 + 1 ≤ _; omega⟩, rfl, fun n hn => by cases hn⟩
  | k + 1 => by
    obtain ⟨-, h2, h3⟩ := rowA_ok c k
    refine ⟨⟨by show 0 ≤ _ % 2147483647; omega, by show _ % 2147483647 ≤ _; omega⟩, by show List.length (α := Int) (_ ++ _) = _; rw [List.length_append, h2]; rfl, fun n hn => ?_⟩
    rcases List.mem_append.mp hn with hn | hn
    · exact h3 n hn
    · rw [List.mem_singleton.mp hn]; omega
theorem rowB_ok (c : Int) : ∀ k, (rowB c k).2.length = k ∧ Low (rowB c k).2
  | 0 => ⟨rfl, fun n hn => by cases hn⟩
  | k + 1 => by
    obtain ⟨h2, h3⟩ := rowB_ok c k
    refine ⟨by show List.length (α := Int) (_ ++ _) = _; rw [List.length_append, h2]; rfl, fun n hn => ?_⟩
    rcases List.mem_append.mp hn with hn | hn
    · exact h3 n hn
    · rw [List.mem_singleton.mp hn]; omega
theorem gRow_ok (c : Int) : (gRow c).length = 12 ∧ Low (gRow c) := by
  unfold gRow
  split
  · exact (rowA_ok c 12).2
  · exact rowB_ok c 12
theorem ht_drawn {a b : Int} : ht (gDrawn a b) ≤ 20 := by
  unfold gDrawn
  split
  · exact ht_di (by omega) (by omega) (by omega) (by decide)
  · split <;> exact ht_di (by omega) (by omega) (by omega) (by decide)
theorem ht_drawn5 {a b : Int} (h : b % 5 ≠ 4) : ht (gDrawn a b) ≤ 5 := by
  unfold gDrawn
  rw [if_neg h]
  split <;> exact ht_di (by omega) (by omega) (by omega) (by decide)
section
variable {P : Program} {w : World} {K : PySem.W.Frag} {mg : Str → Option Value} {base : Heap}
def P_cell (K : PySem.W.Frag) (cs : List Int) : List V → Hp → Prop := fun vs H => ∃ v, vs = [v, .int 0] ∧ LsR K (cs.map .int) v H
theorem ok_law_cell_at (T : Tx P w K mg base) : C8.Cal P w K mg base 1 "_law_cell_at" (spI 2 (P_cell K) (fun cs _ v H' => Rp K H' v (.int (cs.headD 0)))) [] := by
  refine cal_of T.d_law_cell_at sc_law_cell_at (fun vs H Q E h => h.1) fun f cdv A outer s H vs Q E hr h => ?_
  obtain ⟨_, cs, ⟨v, rfl, hl⟩, q⟩ := h
  refine go_when (et_lt (ev_d 1 (.int 0)) (ev_lenL T.m_len (ev_n 0 rfl hl mo_ls))) (fun hk H1 e1 => ?_) fun hk H1 e1 => ?_
  · have hk := of_decide_eq_true hk
    cases cs with
    | nil => exact absurd hk (by decide)
    | cons c r => exact go_ret (ev_ixL (ev_n 0 rfl (mo_ls _ _ _ e1 hl) mo_ls) (ev_d 1 (.int 0)) (atI_nat (j := 0) rfl)) fun u H2 e2 ru => q u H2 (e1.trans e2) ru
  · have hk := of_decide_eq_false hk
    cases cs with
    | nil => exact go_ret ev_int fun u H2 e2 ru => q u H2 (e1.trans e2) ru
    | cons c r => exact absurd (show (0 : Int) < ((c :: r).map PyData.int).length by simp) hk
def dom_law_row : List PyData → List PyData → Prop := fun ds r => ∃ (c : Int) (g : List Int), ds = [.int c, .int 12] ∧ g = gRow c ∧ r = g.map .int
theorem ok_law_row (T : Tx P w K mg base) : C8.Cal P w K mg base 1 "_law_row" (spN K 2 dom_law_row) [] := by
  refine cal_of T.d_law_row sc_law_row (fun vs H Q E h => h.1) fun f cdv A outer s H vs Q E hr h => ?_
  obtain ⟨_, ds, r, rs, ⟨c, g, rfl, hg0, rfl⟩, q⟩ := h
  obtain ⟨v_c, v_m, rfl, r_c, r_m⟩ := inv2 rs
  have e1 := r_c.int_inv
  have e2 := r_m.int_inv
  subst e1 e2
  have test : ∀ {σ1 : L2.St} {H1 : Hp} {a b c' d' e' f' g' : Pos} {i j : Nat}, σ1[0]? = some (some (.int c)) → EvT (bX P w K mg base n_law_row "_law_row" s_law_row f cdv A outer s H E) σ1 H1 (.Compare (.Call (.Name "abs" a) [.Name "_law_cell" b] [] c') [.Lt] [.BinOp (.Constant (.int 10) i d') .Pow (.Constant (.int 18) j e') f'] g') (decide ((c.natAbs : Int) < 1000000000000000000)) := fun {_ _ _ _ _ _ _ _ _ _ _} s0 =>
    EvT.cast (et_lt (ev_abs T.m_abs (ev_d 0 (.int c) s0)) (ev_pow ev_int ev_int ⟨by decide, by decide, by decide⟩)) (by rw [show (10 : Int) ^ (18 : Int).toNat = 1000000000000000000 from by decide +kernel])
  refine go_asg 2 (ev_lst ea_nil) (fun v_f H1 e1 r_f => ?_) sc_law_row.nd
  obtain ⟨lf, rfl, gf⟩ := Grow.of (ex_refl H) r_f e1
  refine go_asg 3 (ev_d 0 (.int c)) (fun v_n H2 e2 r_n => ?_) sc_law_row.nd
  have ev := r_n.int_inv
  subst ev
  have gf := gf.ex e2
  by_cases hc : (c.natAbs : Int) < 1000000000000000000
  · have hg : gRow c = (rowA c 12).2 := if_pos hc
    rw [hg0, hg] at q
    refine go_yes (EvT.cast (test rfl) (decide_eq_true hc)) fun H3 e3 => ?_
    refine go_asg 3 (ev_add (ev_mod (ev_d 0 (.int c)) ev_int (by decide)) ev_int) (fun v_n H4 e4 r_n => go_nil ?_) sc_law_row.nd
    have ev := r_n.int_inv
    subst ev
    refine go_forR 4 PassesOwn.never rfl sc_law_row.nd T.m_range (ev_d 1 (.int 12)) (by decide) (fun i σ' H' => ∃ v4, σ' = [some (.int c), some (.int 12), some (.ref lf), some (.int (rowA c i).1), v4] ∧ Grow K H lf ((rowA c i).2.map .int) H') (fun H5 e5 => ⟨none, rfl, ((gf.ex e3).ex e4).ex e5⟩) ?_ ?_ (by decide)
    · rintro i σ' H' hi ⟨v4, rfl, gr⟩
      obtain ⟨⟨h1, h2⟩, h3, -⟩ := rowA_ok c i
      obtain ⟨⟨h1', h2'⟩, -, -⟩ := rowA_ok c (i + 1)
      have h1' : 0 ≤ (rowA c i).1 * 48271 % 2147483647 := h1'
      have h2' : (rowA c i).1 * 48271 % 2147483647 ≤ 2147483647 := h2'
      refine go_yes (EvT.cast (test rfl) (decide_eq_true hc)) fun H5 e5 => ?_
      refine go_asg 3 (ev_mod (ev_mulS (ev_d 3 (.int (rowA c i).1)) ev_int (Or.inr (by decide))) ev_int (by decide)) (fun v_n H6 e6 r_n => ?_) sc_law_row.nd
      have ev := r_n.int_inv
      subst ev
      have gr := (gr.ex e5).ex e6
      generalize hn : (rowA c i).1 * 48271 % 2147483647 = n at h1' h2'
      refine go_appG gr (ev_v 2 rfl) (ev_mod (ev_div (ev_mod (ev_add (ev_add (ev_mulS (ev_d 3 (.int n)) (ev_d 3 (.int n)) (Or.inl (by omega))) (ev_mulS ev_int (ev_d 3 (.int n)) (Or.inl (by decide)))) (ev_d 4 (.int i))) ev_int (by decide)) ev_int ⟨by decide, by decide⟩) ((ev_pow ev_int ev_int ⟨by decide, by decide, by decide⟩).cast p6) (by decide)) (by rw [List.length_map]; omega) fun H7 k7 g7 => go_nil (go_nil ⟨some (.int i), ?_, ?_⟩)
      · show [_, _, _, some (V.int n), _] = [_, _, _, some (V.int ((rowA c i).1 * 48271 % 2147483647)), _]
        rw [hn]
      · show Grow K H lf ((((rowA c i).2 ++ [_]) : List Int).map .int) H7
        rw [List.map_append, hn]
        exact g7
    · rintro σ' H' ⟨v4, rfl, gr⟩
      exact go_ret (ev_tr 2 gr.tr) fun v H5 e5 rv => by
        obtain ⟨rfl, ys, g1, g2⟩ := rv
        exact q _ H5 (gr.2.1.trans e5) ⟨lf, ys, rfl, gr.1, g1, g2⟩
  · have hg : gRow c = (rowB c 12).2 := if_neg hc
    rw [hg0, hg] at q
    refine go_no (EvT.cast (test rfl) (decide_eq_false hc)) fun H3 e3 => ?_
    refine go_forR 4 PassesOwn.never rfl sc_law_row.nd T.m_range (ev_d 1 (.int 12)) (by decide) (fun i σ' H' => ∃ v4, σ' = [some (.int c), some (.int 12), some (.ref lf), some (.int (rowB c i).1), v4] ∧ Grow K H lf ((rowB c i).2.map .int) H') (fun H5 e5 => ⟨none, rfl, (gf.ex e3).ex e5⟩) ?_ ?_ (by decide)
    · rintro i σ' H' hi ⟨v4, rfl, gr⟩
      have h3 := (rowB_ok c i).1
      refine go_if (EvT.cast (test rfl) (decide_eq_false hc)) (fun hk => absurd hk Bool.false_ne_true) fun _ H5 e5 => ?_
      refine go_appG (gr.ex e5) (ev_v 2 rfl) (ev_mod (ev_d 3 (.int (rowB c i).1)) ((ev_pow ev_int ev_int ⟨by decide, by decide, by decide⟩).cast p6) (by decide)) (by rw [List.length_map]; omega) fun H6 k6 g6 => ?_
      refine go_asg 3 (ev_div (ev_d 3 (.int (rowB c i).1)) ((ev_pow ev_int ev_int ⟨by decide, by decide, by decide⟩).cast p6) ⟨by decide, by decide⟩) (fun v_n H7 e7 r_n => go_nil (go_nil ⟨some (.int i), ?_, ?_⟩)) sc_law_row.nd
      · rw [r_n.int_inv]
        rfl
      · show Grow K H lf ((((rowB c i).2 ++ [_]) : List Int).map .int) H7
        rw [List.map_append]
        exact g6.ex e7
    · rintro σ' H' ⟨v4, rfl, gr⟩
      exact go_ret (ev_tr 2 gr.tr) fun v H5 e5 rv => by
        obtain ⟨rfl, ys, g1, g2⟩ := rv
        exact q _ H5 (gr.2.1.trans e5) ⟨lf, ys, rfl, gr.1, g1, g2⟩
def dom_law_drawn : List PyData → PyData → Prop := fun ds r => ∃ (a b : Int), ds = [.int a, .int b] ∧ (0 ≤ a ∧ a < 1000000) ∧ r = dQ (gDrawn a b)
theorem ok_law_drawn (T : Tx P w K mg base) : C8.Cal P w K mg base 34 "_law_drawn" (spD K 2 dom_law_drawn) [] := by
  refine cal_of T.d_law_drawn sc_law_drawn (fun vs H Q E h => h.1) fun f cdv A outer s H vs Q E hr h => ?_
  obtain ⟨_, ds, r, rs, ⟨a, b, rfl, ⟨ha0, ha1⟩, rfl⟩, q⟩ := h
  obtain ⟨v_a, v_b, rfl, r_a, r_b⟩ := inv2 rs
  refine go_when (et_eqI (ev_mod (ev_d 1 r_b) ev_int (by decide)) ev_int) (fun hk H1 e1 => ?_) fun hk H1 e1 => ?_
  · have hk := of_decide_eq_true hk
    have r_a := r_a.ex e1
    have r_b := r_b.ex e1
    refine go_ret (ev_call (ok_law_ratio T) hr (ea_cons (ev_sub (ev_mod (ev_mulS (ev_d 0 r_a) ev_int (Or.inr (by decide))) ev_int (by decide)) ev_int) (ea_cons (ev_add ev_int (ev_mod (ev_mulS (ev_d 1 r_b) ev_int (Or.inr (by decide))) ev_int (by decide))) ea_nil)) ⟨_, _, rfl, by omega, rfl⟩) fun v H2 e2 rv => q v H2 (e1.trans e2) ?_
    unfold gDrawn
    rw [if_pos hk]
    exact rv
  · have hk := of_decide_eq_false hk
    have r_a := r_a.ex e1
    have r_b := r_b.ex e1
    have hl : atI [PyData.int 1, .int 1, .int 9] (b % 3) = some (.int (if b % 3 = 2 then 9 else 1)) := by
      rcases (show b % 3 = 0 ∨ b % 3 = 1 ∨ b % 3 = 2 by omega) with h | h | h <;> (rw [h]; rfl)
    refine go_ret (ev_call (ok_law_ratio T) hr (ea_cons (ev_sub (ev_mod (ev_d 0 r_a) ev_int (by decide)) ev_int) (ea_cons (ev_add ev_int (ev_mod (ev_div (ev_d 0 r_a) ev_int ⟨by decide, by decide⟩) (ev_ixL ((ev_lst (ea_cons ev_int (ea_cons ev_int (ea_cons ev_int ea_nil)))).imp fun _ _ _ h => h.ls) (ev_mod (ev_d 1 r_b) ev_int (by decide)) hl) (by split <;> decide))) ea_nil)) ⟨_, _, rfl, by split <;> omega, rfl⟩) fun v H2 e2 rv => q v H2 (e1.trans e2) ?_
    unfold gDrawn
    rw [if_neg hk]
    exact rv
def dom_law_ends : List PyData → PyData → Prop := fun ds r => ∃ (l : Leg), ds = [dL l] ∧ r = .tuple [dP (gBegin l), dP (gEnd l)]
theorem ok_law_ends (T : Tx P w K mg base) : C8.Cal P w K mg base 1 "_law_ends" (spD K 1 dom_law_ends) [] := by
  refine cal_of T.d_law_ends sc_law_ends (fun vs H Q E h => h.1) fun f cdv A outer s H vs Q E hr h => ?_
  obtain ⟨_, ds, r, rs, ⟨l, rfl, rfl⟩, q⟩ := h
  obtain ⟨v_l, rfl, r_l⟩ := inv1 rs
  cases l with
  | str a b =>
    refine go_no (EvT.cast (et_eqS (ev_ix (ev_d 0 r_l) ev_int) ev_str) (by decide)) fun H1 e1 => ?_
    refine go_ret ((ev_slT (l := some 1) (u := some 3) (ev_d 0 (r_l.ex e1)) (po_some pe_int) (po_some pe_int) (fun H1 Q q => ⟨1, rfl, q⟩) (fun H1 Q q => ⟨3, rfl, q⟩) (by show ¬ (HT.sIx 3 0 (some 1) = 0 ∧ HT.sIx 3 3 (some 3) = 3); decide))) fun v H2 e2 rv => q v H2 (e1.trans e2) rv
  | bend c a b way =>
    refine go_yes (EvT.cast (et_eqS (ev_ix (ev_d 0 r_l) ev_int) ev_str) (by decide)) fun H1 e1 => ?_
    refine go_ret ((ev_slT (l := some 2) (u := some 4) (ev_d 0 (r_l.ex e1)) (po_some pe_int) (po_some pe_int) (fun H1 Q q => ⟨2, rfl, q⟩) (fun H1 Q q => ⟨4, rfl, q⟩) (by show ¬ (HT.sIx 5 0 (some 2) = 0 ∧ HT.sIx 5 5 (some 4) = 5); decide))) fun v H2 e2 rv => q v H2 (e1.trans e2) rv
def dom_law_out : List PyData → PyData → Prop := fun ds r => ∃ (c p : Pt) (m : Int), ds = [dP c, dP p, .int m] ∧ (0 ≤ m ∧ m ≤ 16 ∧ hp c + hp p ≤ 10000000) ∧ r = dP (gOut c p (Rat.divInt m 16))
theorem ok_law_out (T : Tx P w K mg base) : C8.Cal P w K mg base 37 "_law_out" (spD K 3 dom_law_out) [] := by
  refine cal_of T.d_law_out sc_law_out (fun vs H Q E h => h.1) fun f cdv A outer s H vs Q E hr h => ?_
  obtain ⟨_, ds, r, rs, ⟨c, p, m, rfl, ⟨m0, m16, hb⟩, rfl⟩, q⟩ := h
  obtain ⟨v_c, v_p, v_m, rfl, r_c, r_p, r_m⟩ := inv3 rs
  refine go_asg 3 (ev_call (ok_law_off T) hr (ea_cons (ev_d 1 r_p) (ea_cons (ev_d 0 r_c) ea_nil)) ⟨p, c, rfl, by omega, rfl⟩) (fun v_b H1 e1 r_b => ?_) sc_law_out.nd
  have r_p := r_p.ex e1
  have r_m := r_m.ex e1
  refine go_asg 4 (ev_tup (ea_cons (ev_d 2 r_m) (ea_cons ev_int ea_nil))) (fun v_q H2 e2 r_q => ?_) sc_law_out.nd
  have r_p := r_p.ex e2
  have r_b := r_b.ex e2
  have hk : ht (Rat.divInt m 16) ≤ 5 := ht_di (by omega) (by decide) (by decide) (by decide)
  have bo := hp_off p c
  have b1 := ht_1 (gOff p c)
  have b2 := ht_2 (gOff p c)
  have b3 := ht_1 p
  have b4 := ht_2 p
  have b5 := ht_mul (Rat.divInt m 16) (gOff p c).1
  have b6 := ht_mul (Rat.divInt m 16) (gOff p c).2
  have tm : ∀ x : Rat, ht x ≤ 11000000 → dom_law_times [.tuple [.int m, .int 16], dQ x] (dQ (Rat.divInt m 16 * x)) := fun x hx => ⟨m, 16, x.num, x.den, 5, ht x, rfl, by decide, den_pos x, ⟨by omega, by decide, ht_num x, by simpa using ht_den x, by omega⟩, by rw [Rat.num_divInt_den]⟩
  exact go_ret (ev_tup (ea_cons (ev_call (ok_law_plus T) hr (ea_cons (ev_ix (ev_d 1 r_p) ev_int) (ea_cons (ev_call (ok_law_times T) hr (ea_cons (ev_d 4 r_q) (ea_cons (ev_ix (ev_d 3 r_b) ev_int) ea_nil)) (tm _ (by omega))) ea_nil)) ⟨_, _, rfl, by omega, rfl⟩) (ea_cons (ev_call (ok_law_plus T) hr (ea_cons (ev_ix (ev_d 1 r_p) ev_int) (ea_cons (ev_call (ok_law_times T) hr (ea_cons (ev_d 4 r_q) (ea_cons (ev_ix (ev_d 3 r_b) ev_int) ea_nil)) (tm _ (by omega))) ea_nil)) ⟨_, _, rfl, by omega, rfl⟩) ea_nil))) fun v H3 e3 rv => q v H3 ((e1.trans e2).trans e3) rv
def dom_law_is_below : List PyData → PyData → Prop := fun ds r => ∃ (c a b p : Pt), ds = [dP c, dP a, dP b, dP p] ∧ (hp a + hp b + hp p + hp c ≤ 9000000) ∧ (¬ 0 < gAlong (gOff p a) (gOff a c) ∧ ¬ 0 < gAlong (gOff p b) (gOff b c)) ∧ r = .bool true
theorem ok_law_is_below (T : Tx P w K mg base) : C8.Cal P w K mg base 38 "_law_is_below" (spD K 4 dom_law_is_below) [] := by
  refine cal_of T.d_law_is_below sc_law_is_below (fun vs H Q E h => h.1) fun f cdv A outer s H vs Q E hr h => ?_
  obtain ⟨_, ds, r, rs, ⟨c, a, b, p, rfl, hb, ⟨na, nb⟩, rfl⟩, q⟩ := h
  obtain ⟨v_c, v_a, v_b, v_p, rfl, r_c, r_a, r_b, r_p⟩ := inv4 rs
  refine go_forLG 4 PassesOwn.never rfl sc_law_is_below.nd (ev_lst (ea_cons (ev_d 1 r_a) (ea_cons (ev_d 2 r_b) ea_nil))) fun v H1 e1 hn => ?_
  obtain ⟨l, xs, rfl, hl0, hl, hr2⟩ := hn
  obtain ⟨v1, v2, rfl, r1, r2⟩ := inv2 hr2
  refine ⟨l, _, rfl, Or.inl (Or.inl hl), fun i σ' H' => ∃ v4, σ' = [some v_c, some v_a, some v_b, some v_p, v4] ∧ Ex H1 H', ⟨none, rfl, ex_refl _⟩, fun i σ' H' _ hq => ?_, ?_, ?_⟩
  · obtain ⟨_, _, ex⟩ := hq
    exact Or.inl (Or.inl (ex _ _ hl))
  · rintro i v σ' H' hi ⟨v4, rfl, ex⟩
    obtain ⟨m, rm, nm, bm⟩ : ∃ m : Pt, Rp K H1 v (dP m) ∧ (¬ 0 < gAlong (gOff p m) (gOff m c)) ∧ hp m + hp p + hp c ≤ 9000000 := by
      match i, hi with
      | 0, hi => obtain rfl := Option.some.inj hi; exact ⟨a, r1, na, by omega⟩
      | 1, hi => obtain rfl := Option.some.inj hi; exact ⟨b, r2, nb, by omega⟩
      | i + 2, hi => simp at hi
    have rm := rm.ex ex
    have r_c := r_c.ex (e1.trans ex)
    have r_p := r_p.ex (e1.trans ex)
    have b1 := hp_off p m
    have b2 := hp_off m c
    exact go_no (EvT.cast (et_gt (ev_ix (ev_call (ok_law_dot T) hr (ea_cons (ev_call (ok_law_off T) hr (ea_cons (ev_d 3 r_p) (ea_cons (ev_d 4 rm) ea_nil)) ⟨p, m, rfl, by omega, rfl⟩) (ea_cons (ev_call (ok_law_off T) hr (ea_cons (ev_d 4 rm) (ea_cons (ev_d 0 r_c) ea_nil)) ⟨m, c, rfl, by omega, rfl⟩) ea_nil)) ⟨_, _, rfl, by omega, rfl⟩) ev_int) ev_int) (num_pos_iff.trans (decide_eq_false nm))) fun H2 e2 => go_nil ⟨some v, rfl, ex.trans e2⟩
  · rintro σ' H' ⟨v4, rfl, ex⟩
    exact go_ret ev_bl fun v H2 e2 rv => q v H2 ((e1.trans ex).trans e2) rv
end
end Ar
set_option maxHeartbeats 4000000
/-! More rules: lists or tuples, mixed tuples, pops, repeats, calls that change. -/
namespace Ar
open PySem L2
theorem any_of {ws : List Str} {z : Str} (h : z ∈ ws) : (ws.any fun w => w == z) = true := List.any_eq_true.mpr ⟨z, h, beq_self_eq_true z⟩
section
variable {X : Cx} {σ : L2.St} {H : Hp} {a b c e it elt : Expr} {es : List Expr} {pos p p' : Pos} {R R' R1 R2 R3 : V → Hp → Prop} {sts rest body : List Stmt} {D : Ends} {x y : Str} {d d' : PyData} {k j n : Nat} {scope : Scope}
theorem se_const {c : Const} {i : Nat} {env : Env} : starEach (.Constant c i pos :: es) env = (false, eval (.Constant c i pos) env) :: starEach es env := rfl
theorem se_tuple {fs : List Expr} {i : Nat} {env : Env} : starEach (.Tuple fs i pos :: es) env = (false, eval (.Tuple fs i pos) env) :: starEach es env := rfl
/-- written texts, one behind the other -/
theorem ea_str {ds : List PyData} {z : Str} {i : Nat} (g : EvDs X σ H es ds) : EvDs X σ H (.Constant (.str z) i pos :: es) (.str z :: ds) := ea_cons ev_str g se_const
/-- what a block leaves, made weaker -/
theorem Go.weak {D D' : Ends} (h : Go X sts D σ H) (h1 : ∀ σ' H', D.nx σ' H' → D'.nx σ' H') (h2 : ∀ σ' H', D.ct σ' H' → D'.ct σ' H') (h3 : ∀ σ' H', D.bk σ' H' → D'.bk σ' H') (h4 : D.rt = D'.rt) : Go X sts D' σ H := ⟨fun pins s I => thn (h.run pins s I) fun f s' hf => by
  cases f with
  | next => obtain ⟨σ7, H7, I7, n7⟩ := hf; exact ⟨σ7, H7, I7, h1 _ _ n7⟩
  | cont => obtain ⟨σ7, H7, I7, n7⟩ := hf; exact ⟨σ7, H7, I7, h2 _ _ n7⟩
  | brk => obtain ⟨σ7, H7, I7, n7⟩ := hf; exact ⟨σ7, H7, I7, h3 _ _ n7⟩
  | ret u => obtain ⟨x7, σ7, H7, I7, r7, n7⟩ := hf; exact ⟨x7, σ7, H7, I7, r7, h4 ▸ n7⟩⟩
/-- an if whose two ways meet in J -/
theorem go_meet {c : Expr} {body rest : List Stmt} {D : Ends} {k : Bool} (J : L2.St → Hp → Prop) (h : EvT X σ H c k) (h1 : k = true → ∀ H1, Ex H H1 → Go X body { D with nx := J } σ H1) (h2 : k = false → ∀ H1, Ex H H1 → J σ H1) (h3 : ∀ σ' H', J σ' H' → Go X rest D σ' H') : Go X (.If c body [] pos :: rest) D σ H :=
  go_when h (fun hk H1 e1 => (h1 hk H1 e1).weak h3 (fun _ _ h => h) (fun _ _ h => h) rfl) fun hk H1 e1 => h3 _ _ (h2 hk H1 e1)
/-- a list or a tuple of data -/
def SqR (K : PySem.W.Frag) (ds : List PyData) : V → Hp → Prop := fun v H => LsR K ds v H ∨ Rp K H v (.tuple ds)
theorem mo_sq {K : PySem.W.Frag} {ds : List PyData} : Mo (SqR K ds) := fun _ _ _ e h => h.imp (mo_ls _ _ _ e) fun r => r.ex e
/-- for name in a list or a tuple; what stood stands -/
theorem go_forS (j : Nat) {ds : List PyData} (hp : PassesOwn (model X.prog X.w) X.A X.env X.xe) (hc : X.calm = true) (hN : X.N.Nodup) (h : EvL X σ H it ds ∨ EvD X σ H it (.tuple ds))
    (Pv : Nat → L2.St → Hp → Prop) (h0 : ∀ H1, Ex H H1 → Pv 0 σ H1)
    (hs : ∀ i d v σ' H', ds[i]? = some d → Pv i σ' H' → Rp X.K H' v d → Go X body { D with nx := fun σ2 H2 => Pv (i + 1) σ2 H2 ∧ Ex H' H2, ct := fun σ2 H2 => Pv (i + 1) σ2 H2 ∧ Ex H' H2, bk := Go X rest D } (σ'.set j (some v)) H')
    (hd : ∀ σ' H', Pv ds.length σ' H' → Go X rest D σ' H')
    (hi : X.N[j]? = some y := by rfl) (hx : Loc X.env.scope y := by first | exact .inl rfl | exact .inr rfl) (hf : X.fn y = true ∨ X.env.scope.names.lookup y = some .local := by first | exact .inl rfl | exact .inr rfl)
    (hs' : ∀ x, foldedSetIterable it X.env x = pure x := by intro _; rfl) : Go X (.For (.Name y p') it body [] pos :: rest) D σ H := by
  rcases h with h | h
  · refine go_cons (ps_for hp hc (pi_list pe_u) (pg_name hN hi hx hf) pss_u hs') (h H (ex_refl H) _ fun v H1 e1 r => ?_)
    obtain ⟨a, xs, rfl, h1, h2⟩ := r
    refine ⟨a, rfl, ⟨xs, h1⟩, for_list (fun i σ' H' => Pv i σ' H' ∧ Ex H1 H') ⟨h0 H1 e1, ex_refl _⟩ (fun i σ' H' _ q => Evl.ex_l q.2 h1) (fun i x σ' H' hi q => ?_) (fun σ' H' q => hd σ' H' (by have q1 := q.1; rw [h2.length] at q1; exact q1))⟩
    obtain ⟨d, hd', rv⟩ := h2.get' hi
    exact (hs i d x σ' H' hd' q.1 (rv.ex q.2)).weak (fun _ _ z => ⟨z.1, q.2.trans z.2⟩) (fun _ _ z => ⟨z.1, q.2.trans z.2⟩) (fun _ _ z => z) rfl
  · refine go_cons (ps_for hp hc (pi_tup pe_u) (pg_name hN hi hx hf) pss_u hs') (h H (ex_refl H) _ fun v H1 e1 r => ?_)
    obtain ⟨a, xs, rfl, h1, h2⟩ := r.tup_inv
    refine ⟨a, rfl, ⟨xs, h1⟩, for_tup (fun i σ' H' => Pv i σ' H' ∧ Ex H1 H') ⟨h0 H1 e1, ex_refl _⟩ (fun i σ' H' _ q => (Ex.kt q.2).sqT h1) (fun i x σ' H' hi q => ?_) (fun σ' H' q => hd σ' H' (by have q1 := q.1; rw [h2.length] at q1; exact q1))⟩
    obtain ⟨d, hd', rv⟩ := h2.get' hi
    exact (hs i d x σ' H' hd' q.1 (rv.ex q.2)).weak (fun _ _ z => ⟨z.1, q.2.trans z.2⟩) (fun _ _ z => ⟨z.1, q.2.trans z.2⟩) (fun _ _ z => z) rfl
theorem ev_s (i : Nat) {v : V} {ds : List PyData} (r : SqR X.K ds v H) (hs : σ[i]? = some (some v) := by rfl) (hN : X.N[i]? = some x := by rfl) (hv : Vis X.env.scope x := by first | exact Or.inl rfl | exact Or.inr (Or.inl rfl) | exact Or.inr (Or.inr rfl))
    (hd : (x == ("__debug__" : Str)) = false := by decide) (hcd : (x == ("__classdict__" : Str)) = false := by decide) : EvL X σ H (.Name x pos) ds ∨ EvD X σ H (.Name x pos) (.tuple ds) :=
  r.imp (fun r => ev_n i hs r mo_ls hN hv hd hcd) fun r => ev_n i hs r mo_rp hN hv hd hcd
/-- t[i], t a tuple of any things -/
theorem ev_ixM {i : Int} (ha : Ev X σ H a (fun v H' => ∃ p xs u, v = .ref p ∧ SqT X.K H' p xs ∧ atI xs i = some u ∧ R u H')) (m : Mo R) (hb : EvD X σ H b (.int i)) (hs : ∀ v u, subscripted b false v u = operate [v, u] (getItem v u) := by intro _ _; rfl) : Ev X σ H (.Subscript a b pos) R := fun H1 e1 Q q =>
  uE.of (pe_ix ix_tup pe_u pe_u hs) (ha H1 e1 _ fun x H2 e2 rx => hb H2 (e1.trans e2) _ fun y H3 e3 ry => by
    obtain ⟨p, xs, u, rfl, hq, hu, hr⟩ := rx
    exact ⟨p, xs, i, u, rfl, ry.int_inv, (Ex.kt e3).sqT hq, hu, q u H3 (e2.trans e3) (m _ _ _ e3 hr)⟩)
/-- a tuple of three things -/
def Tup3 (K : PySem.W.Frag) (R1 R2 R3 : V → Hp → Prop) : V → Hp → Prop := fun v H => ∃ p v1 v2 v3, v = .ref p ∧ SqT K H p [v1, v2, v3] ∧ R1 v1 H ∧ R2 v2 H ∧ R3 v3 H
theorem ev_tup3 (m1 : Mo R1) (m2 : Mo R2) (m3 : Mo R3) (h1 : Ev X σ H a R1) (h2 : Ev X σ H b R2) (h3 : Ev X σ H c R3) {k : Nat} (s0 : starEach [c] X.env = (false, eval c X.env) :: starEach [] X.env := by rfl) (s1 : starEach [b, c] X.env = (false, eval b X.env) :: starEach [c] X.env := by rfl) (s2 : starEach [a, b, c] X.env = (false, eval a X.env) :: starEach [b, c] X.env := by rfl) : Ev X σ H (.Tuple [a, b, c] k pos) (Tup3 X.K R1 R2 R3) := fun H1 e1 Q q =>
  uE.of (pe_tup (pa_cons pe_u (pa_cons pe_u (pa_cons pe_u pa_nil s0) s1) s2)) (h1 H1 e1 _ fun v H2 e2 r1 => h2 H2 (e1.trans e2) _ fun w H3 e3 r2 => h3 H3 ((e1.trans e2).trans e3) _ fun u H4 e4 r3 => ⟨(by show 3 ≤ sizeLine; decide), fun p hp =>
    q _ _ (((e2.trans e3).trans e4).trans (ex_new hp)) ⟨p, v, w, u, rfl, Or.inl (Or.inl upd_same), m1 _ _ _ ((e3.trans e4).trans (ex_new hp)) r1, m2 _ _ _ (e4.trans (ex_new hp)) r2, m3 _ _ _ (ex_new hp) r3⟩⟩)
/-- data in; what the arguments hold may change -/
def spM {ι : Type} (n : Nat) (P : ι → List V → Hp → Prop) (R : ι → Hp → V → Hp → Prop) : Sp := fun vs H Q _ => vs.length = n ∧ ∃ i, P i vs H ∧ ∀ v H', R i H v H' → Q v H'
theorem go_callM {ι : Type} {P : ι → List V → Hp → Prop} {R : ι → Hp → V → Hp → Prop} (i : ι) (c : C8.Cal X.prog X.w X.K X.mg X.base k x (spM n P R) []) (hr : Room j X.A) (ha : EvA X σ H (e :: es) (fun vs H2 => vs.length = n ∧ P i vs H2))
    (q : ∀ H2 v H3, Ex H H2 → R i H2 v H3 → Go X rest D σ H3) (hk : k ≤ j := by decide) (hg : Gl X x := by rfl)
    (hdb : (x == ("__debug__" : Str)) = false := by decide) (he : starEach (e :: es) X.env = (false, eval e X.env) :: starEach es X.env := by rfl) (hpl : (backTo pos (starEach es X.env)).any (·.1) = false := by rfl)
    (hs : swapsWith (.Call (.Name x p) (e :: es) [] pos) none p'.line X.env = pure false := by rfl) :
    Go X (.Expr (.Call (.Name x p) (e :: es) [] pos) p' :: rest) D σ H :=
  go_cons (ps_expr (C8.pe_c c hr hk hg pa_u hdb he hpl) hs) (ha H (ex_refl H) _ fun vs H2 e2 rs => by
    show spM n P R (vs ++ []) H2 _ E0
    rw [List.append_nil]
    exact ⟨rs.1, i, rs.2, fun v H3 r => q H2 v H3 e2 r⟩)
/-- xs.pop() -/
theorem go_popS {l : Addr} {xs : List V} {apos cpos : Pos} (hl : H l = some (.lst xs)) (hne : xs ≠ []) (ha : Ev X σ H a (fun v _ => v = .ref l)) (q : ∀ H1, Ex H H1 → Go X rest D σ (upd H1 l (.lst xs.dropLast)))
    (hs : swapsWith (.Call (.Attribute a "pop" apos) [] [] cpos) none pos.line X.env = pure false := by rfl) (hbase : attributeBase a "pop" X.env (eval a X.env) = eval a X.env := by rfl) (hline : (apos.endLine == cpos.line) = true := by rfl) :
    Go X (.Expr (.Call (.Attribute a "pop" apos) [] [] cpos) pos :: rest) D σ H :=
  go_cons (ps_expr (pe_bm0 PySem.F.plainAttrs_list PySem.F.slot_list_pop PySem.F.type_list_pop mt_pop pe_u hbase hline) hs)
    (ha H (ex_refl H) _ fun v H1 e1 hv => by
      subst hv
      exact ⟨Or.inl ⟨rfl, xs, Or.inl (Or.inl (e1 l _ hl))⟩, l, xs, xs.getLast hne, rfl, rfl, e1 _ _ hl, by rw [← List.getLast?_eq_getElem?]; exact List.getLast?_eq_some_getLast hne, q H1 e1⟩)
/-- a, b, .. = xs.pop() -/
theorem go_popU (is : List Nat) {l : Addr} {xs us : List V} {pa : Addr} {kk : Nat} {tp apos cpos : Pos} (hl : H l = some (.lst xs)) (hla : xs.getLast? = some (.ref pa)) (hT : SqT X.K H pa us) (hz : us.length = is.length) (ha : Ev X σ H a (fun v _ => v = .ref l)) (hc : X.calm = true) (hN : X.N.Nodup) (nm : NmAt X es is)
    (q : ∀ H1, Ex H H1 → Go X rest D (setAll σ is us) (upd H1 l (.lst xs.dropLast)))
    (hbase : attributeBase a "pop" X.env (eval a X.env) = eval a X.env := by rfl) (hline : (apos.endLine == cpos.line) = true := by rfl)
    (hn : (assignEach es X.env).length = is.length := by rfl) (hst : (assignEach es X.env).findIdx? (·.1) = none := by rfl) (hs : swapsWithSole [.Tuple es kk tp] (.Call (.Attribute a "pop" apos) [] [] cpos) pos.line X.env = pure false := by rfl) (hw : swappedStores [.Tuple es kk tp] (.Call (.Attribute a "pop" apos) [] [] cpos) X.env = pure none := by rfl)
    (h1 : (assignEach [.Tuple es kk tp] X.env).map (·.2) = [assign (.Tuple es kk tp) X.env] := by rfl) : Go X (.Assign [.Tuple es kk tp] (.Call (.Attribute a "pop" apos) [] [] cpos) pos :: rest) D σ H :=
  go_cons (ps_asg (pe_bm0 PySem.F.plainAttrs_list PySem.F.slot_list_pop PySem.F.type_list_pop mt_pop pe_u hbase hline) (pg_tup hc (pgs_names hN nm) hn hst) hs hw h1) (ha H (ex_refl H) _ fun v H1 e1 hv => by
    subst hv
    have hT1 := ((Ex.kt e1).trans (KT.lst (o := .lst xs.dropLast) (e1 _ _ hl))).sqT hT
    exact ⟨Or.inl ⟨rfl, xs, Or.inl (Or.inl (e1 l _ hl))⟩, l, xs, .ref pa, rfl, rfl, e1 _ _ hl, by rw [← List.getLast?_eq_getElem?]; exact hla, pa, us, rfl, hT1, hz, hz, q H1 e1⟩)
/-- [..] * 0, * 1 -/
theorem ev_rep {ds : List PyData} {w : Bool} (ha : Ev X σ H a (NewR X.K H ds)) (hb : EvD X σ H b (.int (if w = true then 1 else 0))) (hz : ds.length ≤ 1000) : Ev X σ H (.BinOp a .Mult b pos) (NewR X.K H (if w = true then ds else [])) :=
  ev_opR op_rep ha hb mo_new fun x y H2 x2 rx ry Q q => by
    obtain ⟨l, xs, rfl, h0, h1, h2⟩ := rx
    have hxl : xs.length ≤ 1000 := by rw [h2.length]; exact hz
    have e0 : (1000 : Nat) ≤ sizeLine := by decide
    refine ⟨l, _, xs, rfl, ry.int_inv, h1, by cases w <;> decide, by cases w <;> decide, ?_, fun p hp => q _ _ (ex_new hp) ⟨p, _, rfl, Evl.fresh_back x2 hp, upd_same, ?_⟩⟩
    · cases w
      · show xs.length * 0 ≤ sizeLine; omega
      · show xs.length * 1 ≤ sizeLine; omega
    · cases w
      · exact .nil
      · show RpL X.K _ (xs ++ []) ds
        rw [List.append_nil]
        exact h2.ex (ex_new hp)
/-- tuple(xs), list(xs) -/
theorem ev_tupOf {ds : List PyData} (hm : X.mg "tuple" = none) (ha : EvL X σ H e ds) (hg : Gl X "tuple" := by rfl)
    (he : starEach [e] X.env = (false, eval e X.env) :: starEach [] X.env := by rfl) (hpl : (backTo pos (starEach [] X.env)).any (·.1) = false := by rfl) : EvD X σ H (.Call (.Name "tuple" p) [e] [] pos) (.tuple ds) :=
  ev_callTy (T := "tuple") call_tuple_of hm (by decide +kernel) (eb_cons ha mo_ls eb_nil he) (fun vs H2 _ rs Q q => by
    obtain ⟨v, r, rfl, ⟨a, xs, rfl, h2, h3⟩, hr⟩ := rs
    have e0 : r = [] := hr
    subst e0
    exact ⟨a, xs, rfl, Or.inl ⟨h2, fun l hl => q _ _ (ex_new hl) (.tup (Or.inl (Or.inl upd_same)) (h3.ex (ex_new hl)))⟩⟩) hg (by decide) (by decide) he hpl
theorem ev_lstOf {ds : List PyData} (hm : X.mg "list" = none) (ha : EvL X σ H e ds) (hg : Gl X "list" := by rfl)
    (he : starEach [e] X.env = (false, eval e X.env) :: starEach [] X.env := by rfl) (hpl : (backTo pos (starEach [] X.env)).any (·.1) = false := by rfl) : Ev X σ H (.Call (.Name "list" p) [e] [] pos) (NewR X.K H ds) :=
  ev_callTy (T := "list") call_list_of hm (by decide +kernel) (eb_cons ha mo_ls eb_nil he) (fun vs H2 x2 rs Q q => by
    obtain ⟨v, r, rfl, ⟨a, xs, rfl, h2, h3⟩, hr⟩ := rs
    have e0 : r = [] := hr
    subst e0
    exact ⟨a, xs, rfl, Or.inl h2, fun l hl => q _ _ (ex_new hl) ⟨l, xs, rfl, Evl.fresh_back x2 hl, upd_same, h3.ex (ex_new hl)⟩⟩) hg (by decide) (by decide) he hpl
/-- [e for name in xs], xs a list of any things -/
theorem ev_lcG (j : Nat) {l : Addr} {xs : List V} {rs : List PyData} {py : Pos} (hc : X.calm = true) (hN : X.N.Nodup) (hl0 : H l = some (.lst xs)) (he : Ev X σ H it (fun v _ => v = .ref l)) (ok : BlkOk X.N X.env.scope scope [(y, j)]) (hg : ∀ (s : Shared) (H : Hp) (C : Addr) (cl : List (Str × Addr)) (fp : List Addr), PG (X.blk s H scope (compEnvC scope cl C X.env) fp) (.Name y py) (gName j))
    (hl : rs.length = xs.length) (hz : rs.length ≤ 90000) (hi : ∀ (i : Nat) (H1 : Hp) (v : V), Ex H H1 → xs[i]? = some v → ∃ r, rs[i]? = some r ∧ EvB X scope ((wipe σ [j]).set j (some v)) H1 elt r) (hw : ∀ x, wipe ((wipe σ [j]).set j (some x)) [j] = wipe σ [j] := by intro _; rfl)
    (hs : ∀ x, foldedSetIterable it X.env x = pure x := by intro _; rfl) : Ev X σ H (.ListComp elt [⟨.Name y py, it, [], 0⟩] scope pos) (NewR X.K H rs) :=
  ev_lc (n := xs.length) hc hN (pi_list pe_u) ok hg (mog_name j) (fun H1 e1 R hR => he H1 e1 _ fun v H2 e2 r => by
    subst r
    have hl2 : SqL X.K H2 l xs := Or.inl (Or.inl ((e1.trans e2) _ _ hl0))
    refine ⟨l, rfl, ⟨xs, hl2⟩, hR _ H2 e2 ⟨_, _, walk_list (K := X.K) (a := l) (xs := xs), fun H3 e3 => Evl.ex_l e3 hl2, fun i H3 x H4 hin e3 hy => ?_⟩⟩
    obtain ⟨rfl, hx⟩ := hy
    obtain ⟨r, hr, hB⟩ := hi i H4 x ((e1.trans e2).trans e3) hx
    exact ⟨ex_refl _, rfl, hw x, r, hr, hB⟩) hl (by omega) hs
/-- t[:-1], a tuple that isn't empty -/
theorem ev_initT {ds : List PyData} {j : Nat} {p p2 p3 : Pos} (ha : EvD X σ H a (.tuple ds)) (hne : ds ≠ []) : EvD X σ H (.Subscript a (.Slice none (some (.UnaryOp .USub (.Constant (.int 1) j p) p3)) none p2) pos) (.tuple ds.dropLast) := fun H1 e1 Q q =>
  uE.of (pe_slice sl_tup pe_u po_none (po_some (e := .UnaryOp .USub (.Constant (.int 1) j p) p3) (pe_un un_neg pe_int))) (ha H1 e1 _ fun v H2 e2 r => ⟨1, rfl, -1, rfl, by
    obtain ⟨p, xs, rfl, hs, rr⟩ := r.tup_inv
    have hl : 0 < ds.length := List.length_pos_iff.mpr hne
    refine ⟨p, xs, rfl, hs, ?_, fun t ht => q _ _ (e2.trans (ex_new ht)) (.tup (Or.inl (Or.inl upd_same)) ?_)⟩
    · rintro ⟨-, z⟩
      have e : HT.sIx xs.length xs.length (some (-1)) = ((-1 : Int) + (xs.length : Int)).toNat := rfl
      rw [e, rr.length] at z
      omega
    · have := (cut_rp rr none (some (-1))).ex (ex_new (o := .tup (cutV xs none (some (-1)))) ht)
      rw [cut_init] at this
      exact this⟩)
end
end Ar
set_option maxHeartbeats 4000000
/-! Walk of the law: bows, plain rows. -/
namespace Ar
open PySem L2
section
variable {X : Cx} {σ : L2.St} {H : Hp} {a b : Expr} {pos : Pos}
/-- what a block leaves, made weaker -/
theorem Go.imp {sts : List Stmt} {D D' : Ends} (h : Go X sts D σ H) (h1 : ∀ σ' H', D.nx σ' H' → D'.nx σ' H') (h2 : D.rt = D'.rt) (h3 : D.bk = D'.bk) (h4 : D.ct = D'.ct) : Go X sts D' σ H := ⟨fun pins s I => thn (h.run pins s I) fun f s' hf => by
  cases f with
  | next => obtain ⟨σ7, H7, I7, n7⟩ := hf; exact ⟨σ7, H7, I7, h1 _ _ n7⟩
  | cont => obtain ⟨σ7, H7, I7, n7⟩ := hf; exact ⟨σ7, H7, I7, h4 ▸ n7⟩
  | brk => obtain ⟨σ7, H7, I7, n7⟩ := hf; exact ⟨σ7, H7, I7, h3 ▸ n7⟩
  | ret u => obtain ⟨v, H7, I7, r7, n7⟩ := hf; exact ⟨v, H7, I7, r7, h2 ▸ n7⟩⟩
/-- an if whose two ways meet in J -/
theorem go_join {c : Expr} {body rest : List Stmt} {D : Ends} {k : Bool} (J : L2.St → Hp → Prop) (h : EvT X σ H c k) (h1 : k = true → ∀ H1, Ex H H1 → Go X body { D with nx := J } σ H1) (h2 : k = false → ∀ H1, Ex H H1 → J σ H1) (h3 : ∀ σ' H', J σ' H' → Go X rest D σ' H') : Go X (.If c body [] pos :: rest) D σ H :=
  go_when h (fun hk H1 e1 => (h1 hk H1 e1).imp h3 rfl rfl rfl) fun hk H1 e1 => h3 _ _ (h2 hk H1 e1)
/-- t + u, tuples -/
theorem ev_catT {ds es : List PyData} (ha : EvD X σ H a (.tuple ds)) (hb : EvD X σ H b (.tuple es)) (h1 : ds ≠ []) (h2 : es ≠ []) (hz : ds.length + es.length ≤ 1000) : EvD X σ H (.BinOp a .Add b pos) (.tuple (ds ++ es)) :=
  ev_opR op_catT ha hb mo_rp fun x y H2 x2 rx ry Q q => by
    obtain ⟨p, xs, rfl, g1, g2⟩ := rx.tup_inv
    obtain ⟨p2, ys, rfl, g3, g4⟩ := ry.tup_inv
    have n1 : xs ≠ [] := fun e => h1 (by have := g2.length; rw [e] at this; exact List.eq_nil_of_length_eq_zero this.symm)
    have n2 : ys ≠ [] := fun e => h2 (by have := g4.length; rw [e] at this; exact List.eq_nil_of_length_eq_zero this.symm)
    exact ⟨p, p2, xs, ys, rfl, rfl, g1, g3, n1, Evl.sz_of (by rw [g2.length, g4.length]; omega), fun e => absurd e n2, fun _ t ht => q _ _ (ex_new ht) (.tup (Or.inl (Or.inl upd_same)) ((g2.append g4).ex (ex_new ht)))⟩
end
def bowQ (c d e : Int) : Int × Int := if e % 8 = 0 then (1, 0) else if e % 8 = 1 then (0, 1) else (c % 19 - 9, 1 + d % 9)
theorem bowQ_ok (c d e : Int) : (bowQ c d e).1.natAbs < 2 ^ 4 ∧ (bowQ c d e).2.natAbs < 2 ^ 4 ∧ 0 < (bowQ c d e).2 * (bowQ c d e).2 + (bowQ c d e).1 * (bowQ c d e).1 := by
  unfold bowQ
  split
  · decide
  · split
    · decide
    · refine ⟨by simp only; omega, by simp only; omega, ?_⟩
      have h1 : 0 < (1 + d % 9) * (1 + d % 9) := Int.mul_pos (by omega) (by omega)
      have h2 : 0 ≤ (c % 19 - 9) * (c % 19 - 9) := by
        rcases Int.le_total 0 (c % 19 - 9) with h | h
        · exact Int.mul_nonneg h h
        · exact Int.mul_nonneg_of_nonpos_of_nonpos h h
      simp only
      omega
def bowY (a b : Int) : Rat := if (decide ((gDrawn a 0).num = 0) && decide ((gDrawn b 1).num = 0)) = true then 2 else gDrawn b 1
def bowU (p q : Int) : Rat := Rat.divInt (q * q - p * p) (q * q + p * p)
def bowV (p q : Int) : Rat := Rat.divInt (2 * p * q) (q * q + p * p)
def bowR (u v x y : Rat) : Rat := u * (x * -1) + v * y
def bowT (u v x y : Rat) : Rat := v * (x * -1) + u * (y * -1)
theorem bowU_ht {p q : Int} (h1 : p.natAbs < 2 ^ 4) (h2 : q.natAbs < 2 ^ 4) (h3 : 0 < q * q + p * p) : ht (bowU p q) ≤ 9 :=
  ht_di (isub_lt_pow (m := 8) (imul_lt_pow (m := 4) (n := 4) h2 h2) (imul_lt_pow (m := 4) (n := 4) h1 h1)) (iadd_lt_pow (m := 8) (imul_lt_pow (m := 4) (n := 4) h2 h2) (imul_lt_pow (m := 4) (n := 4) h1 h1)) h3 (by decide)
theorem bowV_ht {p q : Int} (h1 : p.natAbs < 2 ^ 4) (h2 : q.natAbs < 2 ^ 4) (h3 : 0 < q * q + p * p) : ht (bowV p q) ≤ 9 :=
  ht_di (imul_lt_pow (m := 5) (n := 4) (by omega) h2) (iadd_lt_pow (m := 8) (imul_lt_pow (m := 4) (n := 4) h2 h2) (imul_lt_pow (m := 4) (n := 4) h1 h1)) h3 (by decide)
theorem di_mul {a b : Int} (h : b ≠ 0) : Rat.divInt a b * (b : Rat) = (a : Rat) := by
  rw [Rat.divInt_eq_div]
  have : (b : Rat) ≠ 0 := fun z => h (by exact_mod_cast z)
  rw [Rat.div_mul_cancel this]
theorem bow_unit {p q : Int} (h3 : 0 < q * q + p * p) : bowU p q * bowU p q + bowV p q * bowV p q = 1 := by
  have e1 := di_mul (a := q * q - p * p) (b := q * q + p * p) (by omega)
  have e2 := di_mul (a := 2 * p * q) (b := q * q + p * p) (by omega)
  have n : ((q * q + p * p : Int) : Rat) ≠ 0 := fun z => by
    have : q * q + p * p = 0 := by exact_mod_cast z
    omega
  unfold bowU bowV
  generalize hu : Rat.divInt (q * q - p * p) (q * q + p * p) = u at *
  generalize hv : Rat.divInt (2 * p * q) (q * q + p * p) = v at *
  push_cast at e1 e2 n
  grind
theorem bow_far {u v x y : Rat} (h : u * u + v * v = 1) : gFar (x, y) (0, 0) = gFar (x, y) (x + bowR u v x y, y + bowT u v x y) := by
  unfold gFar gAlong gOff bowR bowT
  simp only
  grind
theorem ht_two : ht 2 ≤ 2 := by decide
theorem bow_ht {u v x y : Rat} (h1 : ht u ≤ 9) (h2 : ht v ≤ 9) (h3 : ht x ≤ 5) (h4 : ht y ≤ 5) : ht (x + bowR u v x y) ≤ 40 ∧ ht (y + bowT u v x y) ≤ 40 := by
  unfold bowR bowT
  have m := mone
  have a1 := ht_mul x (-1)
  have a2 := ht_mul y (-1)
  have a3 := ht_mul u (x * -1)
  have a4 := ht_mul v y
  have a5 := ht_mul v (x * -1)
  have a6 := ht_mul u (y * -1)
  have a7 := ht_add (u * (x * -1)) (v * y)
  have a8 := ht_add (v * (x * -1)) (u * (y * -1))
  have a9 := ht_add x (u * (x * -1) + v * y)
  have a10 := ht_add y (v * (x * -1) + u * (y * -1))
  omega
def gBow (a b c d e : Int) : Rat × Rat × Rat × Rat :=
  (gDrawn a 0, bowY a b, gDrawn a 0 + bowR (bowU (bowQ c d e).1 (bowQ c d e).2) (bowV (bowQ c d e).1 (bowQ c d e).2) (gDrawn a 0) (bowY a b), bowY a b + bowT (bowU (bowQ c d e).1 (bowQ c d e).2) (bowV (bowQ c d e).1 (bowQ c d e).2) (gDrawn a 0) (bowY a b))
theorem ht_bowY (a b : Int) : ht (bowY a b) ≤ 5 := by
  unfold bowY
  split
  · exact Nat.le_trans ht_two (by decide)
  · exact ht_drawn5 (by decide)
theorem num_zero {x : Rat} : x.num = 0 ↔ x = 0 := Rat.num_eq_zero
theorem bow_row (a b c d e : Int) : RowOk (.arc (gBow a b c d e).1 (gBow a b c d e).2.1 (gBow a b c d e).2.2.1 (gBow a b c d e).2.2.2) := by
  obtain ⟨h1, h2, h3⟩ := bowQ_ok c d e
  have hx : ht (gDrawn a 0) ≤ 5 := ht_drawn5 (by decide)
  have hy := ht_bowY a b
  obtain ⟨g1, g2⟩ := bow_ht (bowU_ht h1 h2 h3) (bowV_ht h1 h2 h3) hx hy
  refine ⟨⟨Nat.le_trans hx (by decide), Nat.le_trans hy (by decide), g1, g2⟩, bow_far (bow_unit h3), fun ez => ?_⟩
  have e1 : gDrawn a 0 = 0 := congrArg Prod.fst ez
  have e2 : bowY a b = 0 := congrArg Prod.snd ez
  unfold bowY at e2
  rw [e1] at e2
  by_cases hb : (gDrawn b 1).num = 0
  · rw [if_pos (by rw [decide_eq_true hb]; rfl)] at e2
    exact absurd e2 (by decide)
  · rw [if_neg (by rw [decide_eq_false hb, Bool.and_false]; exact Bool.false_ne_true)] at e2
    exact hb (num_zero.mpr e2)
def wordsA : List Str := ["go", "go", "side", "quarter", "half", "arc", "dot", "skip", "left", "right", "round", "mirror", "grow"]
def wordsB : List Str := ["side", "quarter", "arc"]
theorem word_at (n : Int) : ∃ w : Str, atI ((wordsA ++ wordsB).map PyData.str) (n % 16) = some (.str w) ∧ w ∈ wordsA := by
  have : n % 16 = 0 ∨ n % 16 = 1 ∨ n % 16 = 2 ∨ n % 16 = 3 ∨ n % 16 = 4 ∨ n % 16 = 5 ∨ n % 16 = 6 ∨ n % 16 = 7 ∨ n % 16 = 8 ∨ n % 16 = 9 ∨ n % 16 = 10 ∨ n % 16 = 11 ∨ n % 16 = 12 ∨ n % 16 = 13 ∨ n % 16 = 14 ∨ n % 16 = 15 := by omega
  rcases this with h | h | h | h | h | h | h | h | h | h | h | h | h | h | h | h <;> (rw [h]; exact ⟨_, rfl, by decide⟩)
section
variable {P : Program} {w : World} {K : PySem.W.Frag} {mg : Str → Option Value} {base : Heap}
def P_bow (K : PySem.W.Frag) (i : Int × Int × Int × Int × Int) : List V → Hp → Prop := fun vs H => ∃ v, vs = [v] ∧ LsR K [.int i.1, .int i.2.1, .int i.2.2.1, .int i.2.2.2.1, .int i.2.2.2.2] v H ∧ (0 ≤ i.1 ∧ i.1 < 1000000 ∧ 0 ≤ i.2.1 ∧ i.2.1 < 1000000)
def dB (g : Rat × Rat × Rat × Rat) : List PyData := [dQ g.1, dQ g.2.1, dQ g.2.2.1, dQ g.2.2.2]
theorem ok_law_bow (T : Tx P w K mg base) : C8.Cal P w K mg base 36 "_law_bow" (spI 1 (P_bow K) (fun i _ v H' => Rp K H' v (.tuple (dB (gBow i.1 i.2.1 i.2.2.1 i.2.2.2.1 i.2.2.2.2))))) [] := by
  refine cal_of T.d_law_bow sc_law_bow (fun vs H Q E h => h.1) fun f cdv A outer s H vs Q E hr h => ?_
  obtain ⟨_, ⟨a, b, c, d, e⟩, ⟨v_r, rfl, r_r, ha0, ha1, hb0, hb1⟩, q⟩ := h
  have r_r : LsR K [.int a, .int b, .int c, .int d, .int e] v_r H := r_r
  have ha0 : 0 ≤ a := ha0
  have ha1 : a < 1000000 := ha1
  have hb0 : 0 ≤ b := hb0
  have hb1 : b < 1000000 := hb1
  refine go_par 1 2 (ev_call (ok_law_drawn T) hr (ea_cons (ev_ixL (ev_n 0 rfl r_r mo_ls) ev_int (atI_nat (j := 0) rfl)) (ea_cons ev_int ea_nil)) ⟨a, 0, rfl, ⟨ha0, ha1⟩, rfl⟩) mo_rp (ev_call (ok_law_drawn T) hr (ea_cons (ev_ixL (ev_n 0 rfl r_r mo_ls) ev_int (atI_nat (j := 1) rfl)) (ea_cons ev_int ea_nil)) ⟨b, 1, rfl, ⟨hb0, hb1⟩, rfl⟩) rfl sc_law_bow.nd fun v_x v_y0 H1 e1 r_x r_y0 => ?_
  have r_r := mo_ls _ _ _ e1 r_r
  have hx : ht (gDrawn a 0) ≤ 5 := ht_drawn5 (by decide)
  have hy := ht_bowY a b
  refine go_join (fun σ' H' => ∃ v_y, σ' = [some v_r, some v_x, some v_y, none, none, none, none, none, none, none] ∧ Ex H1 H' ∧ Rp K H' v_y (dQ (bowY a b))) (et_w (ew_and (et_eqI (ev_ix (ev_d 1 r_x) ev_int) ev_int) fun _ => ew_and1 (et_eqI (ev_ix (ev_d 2 r_y0) ev_int) ev_int))) (fun hk H2 e2 => ?_) (fun hk H2 e2 => ?_) ?_
  · refine go_asg 2 (ev_tup (ea_cons ev_int (ea_cons ev_int ea_nil))) (fun v_y H3 e3 r_y => go_nil ⟨v_y, rfl, e2.trans e3, ?_⟩) sc_law_bow.nd
    unfold bowY
    rw [if_pos hk]
    exact r_y
  · refine ⟨v_y0, rfl, e2, ?_⟩
    unfold bowY
    rw [if_neg (by rw [hk]; exact Bool.false_ne_true)]
    exact r_y0.ex e2
  · rintro σ' H2 ⟨v_y, rfl, e2, r_y⟩
    have r_r := mo_ls _ _ _ e2 r_r
    have r_x := r_x.ex e2
    obtain ⟨h1, h2, h3⟩ := bowQ_ok c d e
    have hat : atI [PyData.tuple [.int 1, .int 0], .tuple [.int 0, .int 1], .tuple [.int (c % 19 - 9), .int (1 + d % 9)]] (if e % 8 < 2 then e % 8 else 2) = some (.tuple [.int (bowQ c d e).1, .int (bowQ c d e).2]) := by
      unfold bowQ
      rcases (show e % 8 = 0 ∨ e % 8 = 1 ∨ 2 ≤ e % 8 by omega) with h | h | h
      · rw [h]; rfl
      · rw [h]; rfl
      · rw [if_neg (by omega), if_neg (by omega), if_neg (by omega)]; rfl
    generalize hpq : bowQ c d e = pq at hat h1 h2 h3
    obtain ⟨p, qq⟩ := pq
    have h1 : p.natAbs < 2 ^ 4 := h1
    have h2 : qq.natAbs < 2 ^ 4 := h2
    have h3 : 0 < qq * qq + p * p := h3
    have hu := bowU_ht h1 h2 h3
    have hv := bowV_ht h1 h2 h3
    refine go_unp (ds := [.int p, .int qq]) [3, 4] (by
      refine ev_ixL (ds := [PyData.tuple [.int 1, .int 0], .tuple [.int 0, .int 1], .tuple [.int (c % 19 - 9), .int (1 + d % 9)]]) (Ev.imp (ev_lst ?_) fun _ _ _ h => h.ls) ?_ hat
      · refine ea_cons (ev_tup (ea_cons ev_int (ea_cons ev_int ea_nil))) ?_ se_tuple
        refine ea_cons (ev_tup (ea_cons ev_int (ea_cons ev_int ea_nil))) ?_ se_tuple
        refine ea_cons ?_ ea_nil
        refine ev_tup ?_
        refine ea_cons (ev_sub (ev_mod (ev_ixL (ev_n 0 rfl r_r mo_ls) ev_int (atI_nat (j := 2) rfl)) ev_int (by decide)) ev_int) ?_
        exact ea_cons (ev_add ev_int (ev_mod (ev_ixL (ev_n 0 rfl r_r mo_ls) ev_int (atI_nat (j := 3) rfl)) ev_int (by decide))) ea_nil
      · exact ev_min2 rfl T.m_min ev_int (ev_mod (ev_ixL (ev_n 0 rfl r_r mo_ls) ev_int (atI_nat (j := 4) rfl)) ev_int (by decide))) rfl sc_law_bow.nd (nm_cons 3 (nm_cons 4 NmAt.nil)) fun vs H3 e3 rs => ?_
    obtain ⟨v_p, v_q, rfl, r_p, r_q⟩ := inv2 rs
    have r_x := r_x.ex e3
    have r_y := r_y.ex e3
    refine go_asg 5 (ev_call (ok_law_ratio T) hr (ea_cons (ev_sub (ev_mulS (ev_d 4 r_q) (ev_d 4 r_q) (Or.inl (by omega))) (ev_mulS (ev_d 3 r_p) (ev_d 3 r_p) (Or.inl (by omega)))) (ea_cons (ev_add (ev_mulS (ev_d 4 r_q) (ev_d 4 r_q) (Or.inl (by omega))) (ev_mulS (ev_d 3 r_p) (ev_d 3 r_p) (Or.inl (by omega)))) ea_nil)) ⟨_, _, rfl, h3, rfl⟩) (fun v_u H4 e4 r_u => ?_) sc_law_bow.nd
    have r_x := r_x.ex e4
    have r_y := r_y.ex e4
    have r_p := r_p.ex e4
    have r_q := r_q.ex e4
    refine go_asg 6 (ev_call (ok_law_ratio T) hr (ea_cons (ev_mulS (ev_mulS ev_int (ev_d 3 r_p) (Or.inl (by decide))) (ev_d 4 r_q) (Or.inr (by omega))) (ea_cons (ev_add (ev_mulS (ev_d 4 r_q) (ev_d 4 r_q) (Or.inl (by omega))) (ev_mulS (ev_d 3 r_p) (ev_d 3 r_p) (Or.inl (by omega)))) ea_nil)) ⟨_, _, rfl, h3, rfl⟩) (fun v_v H5 e5 r_v => ?_) sc_law_bow.nd
    have r_x := r_x.ex e5
    have r_y := r_y.ex e5
    have r_u := r_u.ex e5
    refine go_asg 7 ((ev_tup (ea_cons (ev_neg ev_int) (ea_cons ev_int ea_nil))).cast (show _ = dQ (-1) from rfl)) (fun v_b H6 e6 r_b => ?_) sc_law_bow.nd
    have r_x := r_x.ex e6
    have r_y := r_y.ex e6
    have r_u := r_u.ex e6
    have r_v := r_v.ex e6
    have r_u : Rp K H6 v_u (dQ (bowU p qq)) := r_u
    have r_v : Rp K H6 v_v (dQ (bowV p qq)) := r_v
    generalize huu : bowU p qq = u at *
    generalize hvv : bowV p qq = vv at *
    generalize hy0 : bowY a b = y at *
    generalize hx0 : gDrawn a 0 = x at *
    have m := mone
    have a1 := ht_mul x (-1)
    have a2 := ht_mul y (-1)
    have a3 := ht_mul u (x * -1)
    have a4 := ht_mul vv y
    have a5 := ht_mul vv (x * -1)
    have a6 := ht_mul u (y * -1)
    have a7 := ht_add (u * (x * -1)) (vv * y)
    have a8 := ht_add (vv * (x * -1)) (u * (y * -1))
    refine go_asg 8 (ev_call (ok_law_plus T) hr (ea_cons (ev_call (ok_law_times T) hr (ea_cons (ev_d 5 r_u) (ea_cons (ev_call (ok_law_times T) hr (ea_cons (ev_d 1 r_x) (ea_cons (ev_d 7 r_b) ea_nil)) (tms (by omega))) ea_nil)) (tms (by omega))) (ea_cons (ev_call (ok_law_times T) hr (ea_cons (ev_d 6 r_v) (ea_cons (ev_d 2 r_y) ea_nil)) (tms (by omega))) ea_nil)) ⟨_, _, rfl, by omega, rfl⟩) (fun v_ri H7 e7 r_ri => ?_) sc_law_bow.nd
    have r_x := r_x.ex e7
    have r_y := r_y.ex e7
    have r_u := r_u.ex e7
    have r_v := r_v.ex e7
    have r_b := r_b.ex e7
    refine go_asg 9 (ev_call (ok_law_plus T) hr (ea_cons (ev_call (ok_law_times T) hr (ea_cons (ev_d 6 r_v) (ea_cons (ev_call (ok_law_times T) hr (ea_cons (ev_d 1 r_x) (ea_cons (ev_d 7 r_b) ea_nil)) (tms (by omega))) ea_nil)) (tms (by omega))) (ea_cons (ev_call (ok_law_times T) hr (ea_cons (ev_d 5 r_u) (ea_cons (ev_call (ok_law_times T) hr (ea_cons (ev_d 2 r_y) (ea_cons (ev_d 7 r_b) ea_nil)) (tms (by omega))) ea_nil)) (tms (by omega))) ea_nil)) ⟨_, _, rfl, by omega, rfl⟩) (fun v_up H8 e8 r_up => ?_) sc_law_bow.nd
    have r_x := r_x.ex e8
    have r_y := r_y.ex e8
    have r_ri := r_ri.ex e8
    refine go_ret (ev_tup (ea_cons (ev_d 1 r_x) (ea_cons (ev_d 2 r_y) (ea_cons (ev_call (ok_law_plus T) hr (ea_cons (ev_d 1 r_x) (ea_cons (ev_d 8 r_ri) ea_nil)) ⟨_, _, rfl, by omega, rfl⟩) (ea_cons (ev_call (ok_law_plus T) hr (ea_cons (ev_d 2 r_y) (ea_cons (ev_d 9 r_up) ea_nil)) ⟨_, _, rfl, by omega, rfl⟩) ea_nil))))) fun v_z H9 e9 rv => q v_z H9 ((((((((e1.trans e2).trans e3).trans e4).trans e5).trans e6).trans e7).trans e8).trans e9) ?_
    show Rp K H9 v_z (.tuple (dB (gBow a b c d e)))
    unfold gBow
    rw [hpq, hy0, hx0]
    rw [huu, hvv]
    exact rv
end
end Ar
set_option maxHeartbeats 4000000
/-! Walk of the law: plain rows. -/
namespace Ar
open PySem L2
section
variable {P : Program} {w : World} {K : PySem.W.Frag} {mg : Str → Option Value} {base : Heap}
def P_plain (K : PySem.W.Frag) (ns : List Int) : List V → Hp → Prop := fun vs H => ∃ v, vs = [v] ∧ LsR K (ns.map .int) v H ∧ ns.length = 12 ∧ Low ns
def R_plain (K : PySem.W.Frag) (_ : List Int) (_ : Hp) : V → Hp → Prop := fun v H' => ∃ row, isPlain row = true ∧ RowOk row ∧ Rp K H' v (dR row)
theorem any_mem {ws : List Str} {z : Str} : (ws.any fun w => w == z) = true ↔ z ∈ ws := by
  rw [List.any_eq_true]
  constructor
  · rintro ⟨w, h1, h2⟩
    rw [beq_iff_eq] at h2
    rw [← h2]; exact h1
  · exact fun h => ⟨z, h, beq_self_eq_true z⟩
theorem any_not {ws : List Str} {z : Str} (h : (ws.any fun w => w == z) = false) : z ∉ ws := fun hm => by
  rw [any_mem.mpr hm] at h
  cases h
theorem twelve {α : Type} : ∀ {l : List α}, l.length = 12 → ∃ a b c d e f g h i j k m, l = [a, b, c, d, e, f, g, h, i, j, k, m]
  | [a, b, c, d, e, f, g, h, i, j, k, m], _ => ⟨a, b, c, d, e, f, g, h, i, j, k, m, rfl⟩
theorem third_num : (1 / 3 : Rat).num = 1 := by decide +kernel
theorem third_den : (1 / 3 : Rat).den = 3 := by decide +kernel
theorem third_ht : ht (1 / 3) ≤ 2 := by decide +kernel
theorem third_ne : (1 / 3 : Rat) ≠ 0 := by decide +kernel
theorem third_dQ : PyData.tuple [.int 1, .int 3] = dQ (1 / 3) := by
  show _ = PyData.tuple [.int (1 / 3 : Rat).num, .int ((1 / 3 : Rat).den : Int)]
  rw [third_num, third_den]
  rfl
theorem di_pos {a b : Int} (ha : 0 < a) (hb : 0 < b) : 0 < Rat.divInt a b := by
  have e := di_mul (a := a) (b := b) (by omega)
  have ha' : (0 : Rat) < (a : Rat) := by exact_mod_cast ha
  have hb' : (0 : Rat) < (b : Rat) := by exact_mod_cast hb
  by_cases h : 0 < Rat.divInt a b
  · exact h
  · have h1 : 0 ≤ -Rat.divInt a b := by grind
    have h2 := Rat.mul_nonneg h1 (Rat.le_of_lt hb')
    grind
theorem ok_law_plain (T : Tx P w K mg base) : C8.Cal P w K mg base 37 "_law_plain" (spI 1 (P_plain K) (R_plain K)) [] := by
  refine cal_of T.d_law_plain sc_law_plain (fun vs H Q E h => h.1) fun f cdv A outer s H vs Q E hr h => ?_
  obtain ⟨_, ns, ⟨v_r, rfl, r_r, hlen, low⟩, q⟩ := h
  have q : ∀ v H', Ex H H' → (∃ row, isPlain row = true ∧ RowOk row ∧ Rp K H' v (dR row)) → Q v H' := q
  obtain ⟨n0, n1, n2, n3, n4, n5, n6, n7, n8, n9, n10, n11, rfl⟩ := twelve hlen
  have l1 := low n1 (by simp)
  have l3 := low n3 (by simp)
  have l4 := low n4 (by simp)
  obtain ⟨w0, hw, wm⟩ := word_at n0
  refine go_asg (R := NewR K H (wordsA.map .str)) 1 (by
      refine ev_lst (ds := wordsA.map .str) ?_
      refine ea_str ?_
      refine ea_str ?_
      refine ea_str ?_
      refine ea_str ?_
      refine ea_str ?_
      refine ea_str ?_
      refine ea_str ?_
      refine ea_str ?_
      refine ea_str ?_
      refine ea_str ?_
      refine ea_str ?_
      refine ea_str ?_
      refine ea_str ?_
      exact ea_nil) (fun v_ws H1 e1 r_ws => ?_) sc_law_plain.nd
  have r_r := mo_ls _ _ _ e1 r_r
  refine go_asg 2 (ev_ixL ((ev_cat (ds := wordsA.map .str) (es := wordsB.map .str) (ev_n 1 rfl r_ws mo_new) (ev_lst (ds := wordsB.map .str) (ea_cons ev_str (ea_cons ev_str (ea_cons ev_str ea_nil)))) mo_new new_lst new_lst (by decide)).imp fun _ _ _ h => h.ls) (ev_mod (ev_ixL (ev_n 0 rfl r_r mo_ls) ev_int (atI_nat (j := 0) rfl)) ev_int (by decide)) (by rw [← List.map_append]; exact hw)) (fun v_w H2 e2 r_w => ?_) sc_law_plain.nd
  have r_r := mo_ls _ _ _ e2 r_r
  refine go_asg 3 (ev_call (ok_law_drawn T) hr (ea_cons (ev_ixL (ev_n 0 rfl r_r mo_ls) ev_int (atI_nat (j := 1) rfl)) (ea_cons (ev_ixL (ev_n 0 rfl r_r mo_ls) ev_int (atI_nat (j := 2) rfl)) ea_nil)) ⟨n1, n2, rfl, l1, rfl⟩) (fun v_o H3 e3 r_o => ?_) sc_law_plain.nd
  have r_r := mo_ls _ _ _ e3 r_r
  have r_w := r_w.ex e3
  have hx : ht (gDrawn n1 n2) ≤ 20 := ht_drawn
  generalize gDrawn n1 n2 = x at *
  have x3 := (e1.trans e2).trans e3
  refine go_when (et_inL (ws := ["go", "skip"]) (ev_d 2 r_w) (ev_lst (ea_cons ev_str (ea_cons ev_str ea_nil))) (fun _ _ h => h.ls)) (fun hk H4 e4 => ?_) fun k1 H4 e4 => ?_
  · have hm := any_mem.mp hk
    refine go_ret (ev_tup (ea_cons (ev_d 2 (r_w.ex e4)) (ea_cons (ev_d 3 (r_o.ex e4)) ea_nil))) fun v H5 e5 rv => q v H5 ((x3.trans e4).trans e5) ?_
    simp only [List.mem_cons, List.not_mem_nil, or_false] at hm
    rcases hm with rfl | rfl
    · exact ⟨.go x, rfl, (by show ht x ≤ 40; omega), rv⟩
    · exact ⟨.skip x, rfl, (by show ht x ≤ 40; omega), rv⟩
  have r_w := r_w.ex e4
  have r_o := r_o.ex e4
  have r_r := mo_ls _ _ _ e4 r_r
  have x4 := x3.trans e4
  refine go_when (et_eqS (ev_d 2 r_w) ev_str) (fun hk H5 e5 => ?_) fun k2 H5 e5 => ?_
  · have hm := of_decide_eq_true hk
    subst hm
    have r_r := mo_ls _ _ _ e5 r_r
    have hy : ht (gDrawn n3 n4) ≤ 20 := ht_drawn
    refine go_ret (ev_tup (ea_cons (ev_d 2 (r_w.ex e5)) (ea_cons (ev_d 3 (r_o.ex e5)) (ea_cons (ev_call (ok_law_drawn T) hr (ea_cons (ev_ixL (ev_n 0 rfl r_r mo_ls) ev_int (atI_nat (j := 3) rfl)) (ea_cons (ev_ixL (ev_n 0 rfl r_r mo_ls) ev_int (atI_nat (j := 4) rfl)) ea_nil)) ⟨n3, n4, rfl, l3, rfl⟩) ea_nil)))) fun v H6 e6 rv => q v H6 ((x4.trans e5).trans e6) ⟨.side x (gDrawn n3 n4), rfl, (by show ht x ≤ 40 ∧ ht (gDrawn n3 n4) ≤ 40; omega), rv⟩
  have r_w := r_w.ex e5
  have r_o := r_o.ex e5
  have r_r := mo_ls _ _ _ e5 r_r
  have x5 := x4.trans e5
  refine go_when (et_eqS (ev_d 2 r_w) ev_str) (fun hk H6 e6 => ?_) fun k3 H6 e6 => ?_
  · have hm := of_decide_eq_true hk
    subst hm
    have r_r := mo_ls _ _ _ e6 r_r
    refine go_ret (ev_tup (ea_cons (ev_d 2 (r_w.ex e6)) (ea_cons (ev_call (ok_law_ratio T) hr (ea_cons (ev_add ev_int (ev_mod (ev_ixL (ev_n 0 rfl r_r mo_ls) ev_int (atI_nat (j := 1) rfl)) ev_int (by decide))) (ea_cons (ev_add ev_int (ev_mod (ev_ixL (ev_n 0 rfl r_r mo_ls) ev_int (atI_nat (j := 2) rfl)) ev_int (by decide))) ea_nil)) ⟨_, _, rfl, by omega, rfl⟩) ea_nil))) fun v H7 e7 rv => q v H7 ((x5.trans e6).trans e7) ⟨.grow (Rat.divInt (1 + n1 % 12) (1 + n2 % 12)), rfl, ⟨di_pos (by omega) (by omega), ht_di (by omega) (by omega) (by omega) (by decide)⟩, rv⟩
  have r_w := r_w.ex e6
  have r_o := r_o.ex e6
  have r_r := mo_ls _ _ _ e6 r_r
  have x6 := x5.trans e6
  refine go_when (et_inL (ws := ["quarter", "half"]) (ev_d 2 r_w) (ev_lst (ea_cons ev_str (ea_cons ev_str ea_nil))) (fun _ _ h => h.ls)) (fun hk H7 e7 => ?_) fun k4 H7 e7 => ?_
  · have hm := any_mem.mp hk
    have hat : atI [dQ x, dQ (1 / 3)] (if decide (x.num = 0) = true then 1 else 0) = some (dQ (if x = 0 then 1 / 3 else x)) := by
      by_cases h : x = 0
      · rw [if_pos h, if_pos (decide_eq_true (num_zero.mpr h))]; rfl
      · rw [if_neg h, if_neg (fun z => h (num_zero.mp (of_decide_eq_true z)))]; rfl
    have hy : (if x = 0 then 1 / 3 else x) ≠ 0 ∧ ht (if x = 0 then 1 / 3 else x) ≤ 40 := by
      split
      · exact ⟨third_ne, Nat.le_trans third_ht (by decide)⟩
      · rename_i h; exact ⟨h, by omega⟩
    have r_o := r_o.ex e7
    refine go_ret (ev_tup (ea_cons (ev_d 2 (r_w.ex e7)) (ea_cons (ev_ixL ((ev_lst (ea_cons (ev_d 3 r_o) (ea_cons ((ev_tup (ea_cons ev_int (ea_cons ev_int ea_nil))).cast third_dQ) ea_nil))).imp fun _ _ _ h => h.ls) (ev_intB T.m_int (ev_eqI (ev_ix (ev_d 3 r_o) ev_int) ev_int)) hat) ea_nil))) fun v H8 e8 rv => q v H8 ((x6.trans e7).trans e8) ?_
    simp only [List.mem_cons, List.not_mem_nil, or_false] at hm
    rcases hm with rfl | rfl
    · exact ⟨.quarter _, rfl, hy, rv⟩
    · exact ⟨.half _, rfl, hy, rv⟩
  have r_w := r_w.ex e7
  have r_r := mo_ls _ _ _ e7 r_r
  have x7 := x6.trans e7
  refine go_when (et_eqS (ev_d 2 r_w) ev_str) (fun hk H8 e8 => ?_) fun k5 H8 e8 => ?_
  · have hm := of_decide_eq_true hk
    subst hm
    have r_r := mo_ls _ _ _ e8 r_r
    have hb := bow_row n3 n4 n5 n6 n7
    refine go_ret (ev_catT (es := dB (gBow n3 n4 n5 n6 n7)) (ev_tup (ea_cons (ev_d 2 (r_w.ex e8)) ea_nil)) (ev_callI (n3, n4, n5, n6, n7) (ok_law_bow T) hr (EvA.imp (eb_cons (ev_slL (l := some 3) (u := some 8) (ev_n 0 rfl r_r mo_ls) (po_some pe_int) (po_some pe_int) (fun H1 Q q => ⟨3, rfl, q⟩) (fun H1 Q q => ⟨8, rfl, q⟩)) mo_new eb_nil) fun vs H9 x9 hv => ?_) fun H9 u H10 x9 x10 hu => hu) (List.cons_ne_nil _ _) (List.cons_ne_nil _ _) (by show 1 + 4 ≤ 1000; decide)) fun v H9 e9 rv => q v H9 ((x7.trans e8).trans e9) ⟨.arc _ _ _ _, rfl, hb, rv⟩
    obtain ⟨u, r, rfl, hu, hr0⟩ := hv
    have hr0 : r = [] := hr0
    subst hr0
    exact ⟨rfl, u, rfl, hu.ls, l3.1, l3.2, l4.1, l4.2⟩
  · have n1' := any_not k1
    have n2' := of_decide_eq_false k2
    have n3' := of_decide_eq_false k3
    have n4' := any_not k4
    have n5' := of_decide_eq_false k5
    refine go_ret (ev_tup (ea_cons (ev_d 2 (r_w.ex e8)) ea_nil)) fun v H9 e9 rv => q v H9 ((x7.trans e8).trans e9) ?_
    simp only [wordsA, List.mem_cons, List.not_mem_nil, or_false] at wm
    rcases wm with rfl | rfl | rfl | rfl | rfl | rfl | rfl | rfl | rfl | rfl | rfl | rfl | rfl
    · exact absurd (by decide) n1'
    · exact absurd (by decide) n1'
    · exact absurd rfl n2'
    · exact absurd (by decide) n4'
    · exact absurd (by decide) n4'
    · exact absurd rfl n5'
    · exact ⟨.dot, rfl, trivial, rv⟩
    · exact absurd (by decide) n1'
    · exact ⟨.turn 1, rfl, Or.inl rfl, rv⟩
    · exact ⟨.turn 3, rfl, Or.inr (Or.inr rfl), rv⟩
    · exact ⟨.turn 2, rfl, Or.inr (Or.inl rfl), rv⟩
    · exact ⟨.mirror, rfl, trivial, rv⟩
    · exact absurd rfl n3'
end
end Ar
set_option maxHeartbeats 4000000
/-! Walk of the law: how many rows are done, their size, whether they draw. -/
namespace Ar
open PySem L2
/-! ### plain -/
mutual
def gCnt1 : Row → Nat
  | .again _ rs => 1 + gCnt rs
  | .keep rs => 1 + gCnt rs
  | .ever rs => 1 + gCnt rs
  | .go _ => 1
  | .skip _ => 1
  | .side _ _ => 1
  | .dot => 1
  | .turn _ => 1
  | .mirror => 1
  | .grow _ => 1
  | .quarter _ => 1
  | .half _ => 1
  | .arc _ _ _ _ => 1
def gCnt : List Row → Nat
  | [] => 0
  | r :: rs => gCnt1 r + gCnt rs
end
theorem cnt_app : ∀ (rs ss : List Row), gCnt (rs ++ ss) = gCnt rs + gCnt ss
  | [], ss => (Nat.zero_add _).symm
  | r :: rs, ss => by
    show gCnt1 r + gCnt (rs ++ ss) = gCnt1 r + gCnt rs + gCnt ss
    rw [cnt_app rs ss, Nat.add_assoc]
theorem cnt_one (r : Row) : gCnt [r] = gCnt1 r := rfl
theorem cnt_take1 {rs : List Row} {i : Nat} {r : Row} (h : rs[i]? = some r) : gCnt (rs.take (i + 1)) = gCnt (rs.take i) + gCnt1 r := by
  rw [List.take_add_one, h, cnt_app]
  rfl
theorem cnt_mem : ∀ {rs : List Row} {r : Row}, r ∈ rs → gCnt1 r ≤ gCnt rs
  | s :: rs, r, h => by
    show gCnt1 r ≤ gCnt1 s + gCnt rs
    rcases List.mem_cons.mp h with rfl | h
    · omega
    · have := cnt_mem h
      omega
theorem cnt1_pos (r : Row) : 1 ≤ gCnt1 r := by
  cases r <;> simp [gCnt1]
theorem len_cnt : ∀ rs : List Row, rs.length ≤ gCnt rs
  | [] => Nat.le_refl _
  | r :: rs => by
    have h1 := len_cnt rs
    have h2 := cnt1_pos r
    show rs.length + 1 ≤ gCnt1 r + gCnt rs
    omega
/-- a fraction of so many bits -/
def Bn (k : Nat) (x : Rat) : Prop := x.num.natAbs ≤ 2 ^ k ∧ x.den ≤ 2 ^ k
theorem Bn.hle {k : Nat} {x : Rat} (h : Bn k x) : ht x ≤ k + 1 := ht_le (by rw [Nat.pow_succ]; have := h.1; have := Nat.two_pow_pos k; omega) (by rw [Nat.pow_succ]; have := h.2; have := Nat.two_pow_pos k; omega) (by omega)
theorem Bn.mono {k l : Nat} {x : Rat} (h : Bn k x) (hl : k ≤ l) : Bn l x := ⟨Nat.le_trans h.1 (Nat.pow_le_pow_right (by decide) hl), Nat.le_trans h.2 (Nat.pow_le_pow_right (by decide) hl)⟩
theorem Bn.one : Bn 0 1 := ⟨by decide, by decide⟩
theorem Bn.of {k : Nat} {x : Rat} (h : ht x ≤ k) : Bn k x := ⟨Nat.le_of_lt (Nat.lt_of_lt_of_le (ht_num x) (Nat.pow_le_pow_right (by decide) h)), Nat.le_of_lt (Nat.lt_of_lt_of_le (ht_den x) (Nat.pow_le_pow_right (by decide) h))⟩
theorem Bn.mul {k l : Nat} {x y : Rat} (h : Bn k x) (g : Bn l y) : Bn (k + l) (x * y) := by
  rw [Rat.mul_def']
  refine ⟨Nat.le_trans (num_mkRat_le _ _) ?_, Nat.le_trans (den_mkRat_le (Nat.mul_pos x.den_pos y.den_pos)) ?_⟩
  · rw [Int.natAbs_mul, Nat.pow_add]
    exact Nat.mul_le_mul h.1 g.1
  · rw [Nat.pow_add]
    exact Nat.mul_le_mul h.2 g.2
/-! size, whether they draw -/
def rpow (x : Rat) : Nat → Rat
  | 0 => 1
  | n + 1 => rpow x n * x
theorem rpow_bn {k : Nat} {x : Rat} (h : Bn k x) : ∀ n, Bn (n * k) (rpow x n)
  | 0 => by rw [Nat.zero_mul]; exact Bn.one
  | n + 1 => by rw [Nat.succ_mul]; exact (rpow_bn h n).mul h
theorem size_step {a c m n k : Nat} (hn : n ≤ 12) (hk : k ≤ n) (h : a + (1 + c) ≤ m) (d : Nat) : 4 * a * 13 ^ (d + 1) + k * (4 * c * 13 ^ d) ≤ 4 * (a + (1 + c)) * 13 ^ (d + 1) := by
  have h1 : k * (4 * c * 13 ^ d) ≤ 13 * (4 * c * 13 ^ d) := Nat.mul_le_mul_right _ (by omega)
  have h2 : 13 * (4 * c * 13 ^ d) = 4 * c * 13 ^ (d + 1) := by rw [Nat.pow_succ, Nat.mul_comm 13, Nat.mul_assoc]
  have h3 : 4 * (a + (1 + c)) * 13 ^ (d + 1) = 4 * a * 13 ^ (d + 1) + 4 * 13 ^ (d + 1) + 4 * c * 13 ^ (d + 1) := by rw [Nat.mul_add, Nat.mul_add, Nat.add_mul, Nat.add_mul]; omega
  omega
mutual
def gSz1 : Row → Rat
  | .again n rs => rpow (gSz rs) n
  | .grow k => k
  | .keep _ => 1
  | .ever _ => 1
  | .go _ => 1
  | .skip _ => 1
  | .side _ _ => 1
  | .dot => 1
  | .turn _ => 1
  | .mirror => 1
  | .quarter _ => 1
  | .half _ => 1
  | .arc _ _ _ _ => 1
def gSz : List Row → Rat
  | [] => 1
  | r :: rs => gSz1 r * gSz rs
end
mutual
def gDw1 : Row → Bool
  | .again n rs => decide (n ≠ 0) && gDw rs
  | .keep rs => gDw rs
  | .ever rs => gDw rs
  | .go _ => true
  | .side _ _ => true
  | .dot => true
  | .quarter _ => true
  | .half _ => true
  | .arc _ _ _ _ => true
  | .skip _ => false
  | .turn _ => false
  | .mirror => false
  | .grow _ => false
def gDw : List Row → Bool
  | [] => false
  | r :: rs => gDw1 r || gDw rs
end
theorem sz_app : ∀ (rs ss : List Row), gSz (rs ++ ss) = gSz rs * gSz ss
  | [], ss => (Rat.one_mul _).symm
  | r :: rs, ss => by
    show gSz1 r * gSz (rs ++ ss) = gSz1 r * gSz rs * gSz ss
    rw [sz_app rs ss, Rat.mul_assoc]
theorem sz_take1 {rs : List Row} {i : Nat} {r : Row} (h : rs[i]? = some r) : gSz (rs.take (i + 1)) = gSz (rs.take i) * gSz1 r := by
  rw [List.take_add_one, h, sz_app]
  show _ * (gSz1 r * 1) = _
  rw [Rat.mul_one]
theorem dw_app : ∀ (rs ss : List Row), gDw (rs ++ ss) = (gDw rs || gDw ss)
  | [], ss => rfl
  | r :: rs, ss => by
    show (gDw1 r || gDw (rs ++ ss)) = (gDw1 r || gDw rs || gDw ss)
    rw [dw_app rs ss, Bool.or_assoc]
theorem dw_take1 {rs : List Row} {i : Nat} {r : Row} (h : rs[i]? = some r) : gDw (rs.take (i + 1)) = (gDw (rs.take i) || gDw1 r) := by
  rw [List.take_add_one, h, dw_app]
  show (_ || (gDw1 r || false)) = _
  rw [Bool.or_false]
theorem dep_take (rs : List Row) (i : Nat) : gDep (rs.take i) ≤ gDep rs := by
  have h : ∀ (a b : List Row), gDep a ≤ gDep (a ++ b) := fun a => by
    induction a with
    | nil => exact fun b => Nat.zero_le _
    | cons r a ih =>
      intro b
      have := ih b
      show max (gDep1 r) (gDep a) ≤ max (gDep1 r) (gDep (a ++ b))
      omega
  have := h (rs.take i) (rs.drop i)
  rw [List.take_append_drop] at this
  exact this
mutual
theorem sz1_bn : ∀ (r : Row) (d : Nat), RowOk r → gDep1 r ≤ d → Bn (4 * gCnt1 r * 13 ^ d) (gSz1 r)
  | .again n rs, d, ok, h => by
    have h : gDep rs + 1 ≤ d := h
    obtain ⟨d', rfl⟩ : ∃ d', d = d' + 1 := ⟨d - 1, by omega⟩
    have b := rpow_bn (sz_bn rs d' ok.2 (by omega)) n
    refine b.mono ?_
    have := size_step (a := 0) (c := gCnt rs) (m := 1 + gCnt rs) ok.1 (Nat.le_refl n) (by omega) d'
    rw [Nat.mul_zero, Nat.zero_mul, Nat.zero_add, Nat.zero_add] at this
    exact this
  | .grow k, d, ok, h => (Bn.of ok.2).mono (by show 4 ≤ 4 * 1 * 13 ^ d; have := Nat.pow_pos (n := d) (show 0 < 13 by decide); omega)
  | .keep _, _, _, _ => Bn.one.mono (Nat.zero_le _)
  | .ever _, _, _, _ => Bn.one.mono (Nat.zero_le _)
  | .go _, _, _, _ => Bn.one.mono (Nat.zero_le _)
  | .skip _, _, _, _ => Bn.one.mono (Nat.zero_le _)
  | .side _ _, _, _, _ => Bn.one.mono (Nat.zero_le _)
  | .dot, _, _, _ => Bn.one.mono (Nat.zero_le _)
  | .turn _, _, _, _ => Bn.one.mono (Nat.zero_le _)
  | .mirror, _, _, _ => Bn.one.mono (Nat.zero_le _)
  | .quarter _, _, _, _ => Bn.one.mono (Nat.zero_le _)
  | .half _, _, _, _ => Bn.one.mono (Nat.zero_le _)
  | .arc _ _ _ _, _, _, _ => Bn.one.mono (Nat.zero_le _)
theorem sz_bn : ∀ (rs : List Row) (d : Nat), RowsOk rs → gDep rs ≤ d → Bn (4 * gCnt rs * 13 ^ d) (gSz rs)
  | [], _, _, _ => Bn.one.mono (Nat.zero_le _)
  | r :: rs, d, ok, h => by
    have h : max (gDep1 r) (gDep rs) ≤ d := h
    have b := (sz1_bn r d ok.1 (by omega)).mul (sz_bn rs d ok.2 (by omega))
    rw [← Nat.add_mul, ← Nat.mul_add] at b
    exact b
end
theorem row_grow (row : Row) (ok : RowOk row) : (∃ k, row = .grow k) ∨ (∃ n ss, row = .again n ss) ∨ ∃ (z : Str) (zs : List PyData), dR row = .tuple (.str z :: zs) ∧ z ≠ "grow" ∧ z ≠ "again" ∧ gSz1 row = 1 := by
  cases row with
  | grow k => exact Or.inl ⟨k, rfl⟩
  | again n ss => exact Or.inr (Or.inl ⟨n, ss, rfl⟩)
  | turn k =>
    have hk : k = 1 ∨ k = 2 ∨ k = 3 := ok
    rcases hk with rfl | rfl | rfl
    · exact Or.inr (Or.inr ⟨_, _, rfl, by decide, by decide, rfl⟩)
    · exact Or.inr (Or.inr ⟨_, _, rfl, by decide, by decide, rfl⟩)
    · exact Or.inr (Or.inr ⟨_, _, rfl, by decide, by decide, rfl⟩)
  | _ => exact Or.inr (Or.inr ⟨_, _, rfl, by decide, by decide, rfl⟩)
theorem dw_word (row : Row) (ok : RowOk row) {z : Str} {zs : List PyData} (e : dR row = .tuple (.str z :: zs)) (z1 : z ≠ "again") (z2 : z ≠ "keep") (z3 : z ≠ "ever") : (["go", "side", "dot", "quarter", "half", "arc"].any fun w => w == z) = gDw1 row := by
  cases row with
  | again n ss => cases e; exact absurd rfl z1
  | keep ss => cases e; exact absurd rfl z2
  | ever ss => cases e; exact absurd rfl z3
  | turn k =>
    have hk : k = 1 ∨ k = 2 ∨ k = 3 := ok
    rcases hk with rfl | rfl | rfl <;> (cases e; decide)
  | _ => cases e; first | (show _ = true; decide) | (show _ = false; decide)
theorem row_block (row : Row) (ok : RowOk row) : (∃ (z : Str) (zs : List PyData), dR row = .tuple (.str z :: zs) ∧ z ≠ "again" ∧ z ≠ "keep" ∧ z ≠ "ever") ∨ (∃ n ss, row = .again n ss) ∨ ∃ (z : Str) (ss : List Row), dR row = .tuple [.str z, .tuple (dRs ss)] ∧ (z = "keep" ∨ z = "ever") ∧ RowsOk ss ∧ gDep ss + 1 = gDep1 row ∧ gDw1 row = gDw ss := by
  cases row with
  | again n ss => exact Or.inr (Or.inl ⟨n, ss, rfl⟩)
  | keep ss => exact Or.inr (Or.inr ⟨"keep", ss, rfl, Or.inl rfl, ok, rfl, rfl⟩)
  | ever ss => exact Or.inr (Or.inr ⟨"ever", ss, rfl, Or.inr rfl, ok, rfl, rfl⟩)
  | turn k =>
    have hk : k = 1 ∨ k = 2 ∨ k = 3 := ok
    rcases hk with rfl | rfl | rfl
    · exact Or.inl ⟨_, _, rfl, by decide, by decide, by decide⟩
    · exact Or.inl ⟨_, _, rfl, by decide, by decide, by decide⟩
    · exact Or.inl ⟨_, _, rfl, by decide, by decide, by decide⟩
  | _ => exact Or.inl ⟨_, _, rfl, by decide, by decide, by decide⟩
/-! data of rows can be compared -/
mutual
theorem canLay_dR : ∀ r : Row, RowOk r → PyData.canLay0 (dR r) = true
  | .again n rs, ok => by
    show (PyData.canLay0 (.str "again") && (true && (PyData.canLayAll0 (dRs rs) && true))) = true
    rw [canLay_dRs rs ok.2, show PyData.canLay0 (.str "again") = true by decide +kernel]; rfl
  | .keep rs, ok => by
    show (PyData.canLay0 (.str "keep") && (PyData.canLayAll0 (dRs rs) && true)) = true
    rw [canLay_dRs rs ok, show PyData.canLay0 (.str "keep") = true by decide +kernel]; rfl
  | .ever rs, ok => by
    show (PyData.canLay0 (.str "ever") && (PyData.canLayAll0 (dRs rs) && true)) = true
    rw [canLay_dRs rs ok, show PyData.canLay0 (.str "ever") = true by decide +kernel]; rfl
  | .go _, _ => by show (PyData.canLay0 (.str "go") && _) = true; rw [show PyData.canLay0 (.str "go") = true by decide +kernel]; rfl
  | .skip _, _ => by show (PyData.canLay0 (.str "skip") && _) = true; rw [show PyData.canLay0 (.str "skip") = true by decide +kernel]; rfl
  | .side _ _, _ => by show (PyData.canLay0 (.str "side") && _) = true; rw [show PyData.canLay0 (.str "side") = true by decide +kernel]; rfl
  | .dot, _ => by show (PyData.canLay0 (.str "dot") && _) = true; rw [show PyData.canLay0 (.str "dot") = true by decide +kernel]; rfl
  | .mirror, _ => by show (PyData.canLay0 (.str "mirror") && _) = true; rw [show PyData.canLay0 (.str "mirror") = true by decide +kernel]; rfl
  | .grow _, _ => by show (PyData.canLay0 (.str "grow") && _) = true; rw [show PyData.canLay0 (.str "grow") = true by decide +kernel]; rfl
  | .quarter _, _ => by show (PyData.canLay0 (.str "quarter") && _) = true; rw [show PyData.canLay0 (.str "quarter") = true by decide +kernel]; rfl
  | .half _, _ => by show (PyData.canLay0 (.str "half") && _) = true; rw [show PyData.canLay0 (.str "half") = true by decide +kernel]; rfl
  | .arc _ _ _ _, _ => by show (PyData.canLay0 (.str "arc") && _) = true; rw [show PyData.canLay0 (.str "arc") = true by decide +kernel]; rfl
  | .turn k, ok => by
    have hk : k = 1 ∨ k = 2 ∨ k = 3 := ok
    rcases hk with rfl | rfl | rfl
    · show (PyData.canLay0 (.str "left") && _) = true; rw [show PyData.canLay0 (.str "left") = true by decide +kernel]; rfl
    · show (PyData.canLay0 (.str "round") && _) = true; rw [show PyData.canLay0 (.str "round") = true by decide +kernel]; rfl
    · show (PyData.canLay0 (.str "right") && _) = true; rw [show PyData.canLay0 (.str "right") = true by decide +kernel]; rfl
theorem canLay_dRs : ∀ rs : List Row, RowsOk rs → PyData.canLayAll0 (dRs rs) = true
  | [], _ => rfl
  | r :: rs, ok => by
    show (PyData.canLay0 (dR r) && PyData.canLayAll0 (dRs rs)) = true
    rw [canLay_dR r ok.1, canLay_dRs rs ok.2]
    rfl
end
mutual
theorem depth_dR : ∀ r : Row, PyData.depth (dR r) ≤ 2 + 2 * gDep1 r
  | .again n rs => by
    have h := depth_dRs rs
    show max 0 (max 0 (max (PyData.depthAll (dRs rs) + 1) 0)) + 1 ≤ 2 + 2 * (gDep rs + 1)
    omega
  | .keep rs => by
    have h := depth_dRs rs
    show max 0 (max (PyData.depthAll (dRs rs) + 1) 0) + 1 ≤ 2 + 2 * (gDep rs + 1)
    omega
  | .ever rs => by
    have h := depth_dRs rs
    show max 0 (max (PyData.depthAll (dRs rs) + 1) 0) + 1 ≤ 2 + 2 * (gDep rs + 1)
    omega
  | .go _ => by show 2 ≤ 2 + 2 * 0; omega
  | .skip _ => by show 2 ≤ 2 + 2 * 0; omega
  | .side _ _ => by show 2 ≤ 2 + 2 * 0; omega
  | .dot => by show 1 ≤ 2 + 2 * 0; omega
  | .mirror => by show 1 ≤ 2 + 2 * 0; omega
  | .grow _ => by show 2 ≤ 2 + 2 * 0; omega
  | .quarter _ => by show 2 ≤ 2 + 2 * 0; omega
  | .half _ => by show 2 ≤ 2 + 2 * 0; omega
  | .arc _ _ _ _ => by show 2 ≤ 2 + 2 * 0; omega
  | .turn k => by show 1 ≤ 2 + 2 * 0; omega
theorem depth_dRs : ∀ rs : List Row, PyData.depthAll (dRs rs) ≤ 2 + 2 * gDep rs
  | [] => Nat.zero_le _
  | r :: rs => by
    have h1 := depth_dR r
    have h2 := depth_dRs rs
    show max (PyData.depth (dR r)) (PyData.depthAll (dRs rs)) ≤ 2 + 2 * max (gDep1 r) (gDep rs)
    omega
end
theorem shaped_dRs {rs : List Row} (ok : RowsOk rs) (h : gDep rs ≤ 6) : SeqAt.shaped (.tuple (dRs rs)) = true := by
  have h1 := depth_dRs rs
  show (PyData.canLayAll0 (dRs rs) && decide (PyData.depthAll (dRs rs) + 1 ≤ 64)) = true
  rw [canLay_dRs rs ok, decide_eq_true (by omega)]
  rfl
section
variable {P : Program} {w : World} {K : PySem.W.Frag} {mg : Str → Option Value} {base : Heap}
def P_rows (K : PySem.W.Frag) (d : Nat) (rs : List Row) : List V → Hp → Prop := fun vs H => ∃ v, vs = [v] ∧ SqR K (dRs rs) v H ∧ RowsOk rs ∧ gDep rs ≤ d
theorem ev_rows {X : Cx} {σ : L2.St} {H : Hp} {e1 : Expr} {p pos : Pos} {j d k : Nat} {rs : List Row} {x : Str} {R0 : V → Hp → Prop} {R : List Row → Hp → V → Hp → Prop} (c : C8.Cal X.prog X.w X.K X.mg X.base k x (spI 1 (P_rows X.K d) R) []) (hr : Room j X.A) (ha : Ev X σ H e1 R0) (hR0 : ∀ v H1, R0 v H1 → SqR X.K (dRs rs) v H1) (ok : RowsOk rs) (hd : gDep rs ≤ d) (R' : V → Hp → Prop) (hR : ∀ H2 v H3, Ex H H2 → Ex H2 H3 → R rs H2 v H3 → R' v H3) (hk : k ≤ j) (hg : Gl X x := by rfl)
    (hdb : (x == ("__debug__" : Str)) = false := by decide) (he : starEach [e1] X.env = (false, eval e1 X.env) :: starEach [] X.env := by rfl) (hpl : (backTo pos (starEach [] X.env)).any (·.1) = false := by rfl) : Ev X σ H (.Call (.Name x p) [e1] [] pos) R' := fun H1 e1' Q q =>
  uE.of (C8.pe_c c hr hk hg (pa_cons pe_u pa_nil he) hdb he hpl) (ha H1 e1' _ fun v H2 e2 r => by
    show spI 1 (P_rows X.K d) R ([v] ++ []) H2 Q E0
    rw [List.append_nil]
    exact ⟨rfl, rs, ⟨v, rfl, hR0 v H2 r, ok, hd⟩, fun u H3 e3 r3 => q u H3 (e2.trans e3) (hR H2 u H3 (e1'.trans e2) e3 r3)⟩)
theorem sq_of_rp {K : PySem.W.Frag} {ds : List PyData} (v : V) (H1 : Hp) (h : Rp K H1 v (.tuple ds)) : SqR K ds v H1 := Or.inr h
theorem sq_id {K : PySem.W.Frag} {ds : List PyData} (v : V) (H1 : Hp) (h : SqR K ds v H1) : SqR K ds v H1 := h
theorem ev_sq {X : Cx} {σ : L2.St} {H : Hp} {x : Str} {pos : Pos} (i : Nat) {v : V} {ds : List PyData} (r : SqR X.K ds v H) (hs : σ[i]? = some (some v) := by rfl) (hN : X.N[i]? = some x := by rfl) (hv : Vis X.env.scope x := by first | exact Or.inl rfl | exact Or.inr (Or.inl rfl) | exact Or.inr (Or.inr rfl))
    (hd : (x == ("__debug__" : Str)) = false := by decide) (hcd : (x == ("__classdict__" : Str)) = false := by decide) : Ev X σ H (.Name x pos) (SqR X.K ds) := ev_n i hs r mo_sq hN hv hd hcd
/-! ### done -/
def R_done (rs : List Row) (_ : Hp) : V → Hp → Prop := fun v _ => v = .int (gDone rs)
theorem law_done_body (T : Tx P w K mg base) (d : Nat) (ih : ∀ d', d = d' + 1 → C8.Cal P w K mg base (d' + 1) "_law_done" (spI 1 (P_rows K d') R_done) []) : C8.Cal P w K mg base (d + 1) "_law_done" (spI 1 (P_rows K d) R_done) [] := by
  refine cal_of T.d_law_done sc_law_done (fun vs H Q E h => h.1) fun f cdv A outer s H vs Q E hr h => ?_
  obtain ⟨_, rows, ⟨v_rows, rfl, r_rows, ok, hdep⟩, q⟩ := h
  have r_rows : SqR K (dRs rows) v_rows H := r_rows
  have ok : RowsOk rows := ok
  have hdep : gDep rows ≤ d := hdep
  refine go_asg 1 ev_int (fun v_m H1 e1 r_m => ?_) sc_law_done.nd
  have ev := r_m.int_inv
  subst ev
  refine go_forS 2 PassesOwn.never rfl sc_law_done.nd (ev_s 0 (mo_sq _ _ _ e1 r_rows))
    (fun i σ' H' => ∃ v2, σ' = [some v_rows, some (.int (gDone (rows.take i))), v2] ∧ Ex H H') (fun H2 e2 => ⟨none, rfl, e1.trans e2⟩) ?_ ?_
  · rintro i dd v σ' H' hdd ⟨v2, rfl, ex⟩ rv
    obtain ⟨row, hrow, rfl⟩ := dR_get hdd
    have hm := List.mem_of_getElem? hrow
    have rok := rowsOk_iff.mp ok row hm
    have rdep := dep_mem hm
    have hstep := done_take1 hrow
    have inner : ∀ (ss : List Row), gDep ss + 1 ≤ gDep1 row → ∃ d', d = d' + 1 ∧ gDep ss ≤ d' := fun ss h => ⟨d - 1, by omega, by omega⟩
    rcases row_kinds row rok with hpl | ⟨z, ss, e, z1, z2, hd1, hdp, sok, -⟩ | ⟨n, ss, rfl⟩
    · obtain ⟨z, zs, e, z1, z2, z3⟩ := plain_word hpl rok
      rw [e] at rv
      have i0 : atI (PyData.str z :: zs) 0 = some (.str z) := atI_nat (j := 0) rfl
      refine go_if (EvT.cast (et_eqS (ev_ix (ev_d 2 rv) ev_int i0) ev_str) (decide_eq_false z1)) (fun hk => absurd hk Bool.false_ne_true) fun _ H2 e2 => ?_
      have rv := rv.ex e2
      refine go_if (EvT.cast (et_inL (ws := ["keep", "ever"]) (ev_ix (ev_d 2 rv) ev_int i0) (ev_lst (ea_cons ev_str (ea_cons ev_str ea_nil))) (fun _ _ h => h.ls)) (by simp [Ne.symm z2, Ne.symm z3])) (fun hk => absurd hk Bool.false_ne_true) fun _ H3 e3 => ?_
      refine go_asg 1 (ev_add (ev_d 1 (.int _)) ev_int) (fun u H4 e4 ru => go_nil (go_nil (go_nil ⟨⟨some v, ?_, ((ex.trans e2).trans e3).trans e4⟩, (e2.trans e3).trans e4⟩))) sc_law_done.nd
      rw [ru.int_inv, hstep, done1_plain hpl, Int.natCast_add]
      rfl
    · obtain ⟨d', rfl, hd'⟩ := inner ss hdp
      rw [e] at rv
      refine go_if (EvT.cast (et_eqS (ev_ix (ev_d 2 rv) ev_int) ev_str) (decide_eq_false z1)) (fun hk => absurd hk Bool.false_ne_true) fun _ H2 e2 => ?_
      have rv := rv.ex e2
      refine go_if (EvT.cast (et_inL (ws := ["keep", "ever"]) (ev_ix (ev_d 2 rv) ev_int) (ev_lst (ea_cons ev_str (ea_cons ev_str ea_nil))) (fun _ _ h => h.ls)) (k' := true) (by
        rw [Bool.or_eq_true, decide_eq_true_iff, decide_eq_true_iff] at z2
        exact any_of (by simpa using z2))) (fun _ H3 e3 => ?_) fun hk => absurd hk.symm Bool.false_ne_true
      have rv := rv.ex e3
      refine go_asg 1 (ev_add (ev_d 1 (.int _)) (ev_rows (ih d' rfl) hr (ev_ix (ev_d 2 rv) ev_int) sq_of_rp sok hd' (fun u H4 => Rp K H4 u (.int (gDone ss))) (fun H5 u H6 _ _ hu => by rw [show u = .int (gDone ss) from hu]; exact .int _) (Nat.le_refl _))) (fun u H4 e4 ru => go_nil (go_nil (go_nil ⟨⟨some v, ?_, ((ex.trans e2).trans e3).trans e4⟩, (e2.trans e3).trans e4⟩))) sc_law_done.nd
      rw [ru.int_inv, hstep, hd1, Int.natCast_add]
      rfl
    · obtain ⟨hn, sok⟩ : n ≤ 12 ∧ RowsOk ss := rok
      obtain ⟨d', rfl, hd'⟩ := inner ss (Nat.le_refl _)
      refine go_if (EvT.cast (et_eqS (ev_ix (ev_d 2 rv) ev_int) ev_str) (by decide)) (fun _ H2 e2 => ?_) fun hk => absurd hk.symm Bool.false_ne_true
      have rv := rv.ex e2
      refine go_asg 1 (ev_add (ev_d 1 (.int _)) (ev_mulS (ev_ix (ev_d 2 rv) ev_int) (ev_rows (ih d' rfl) hr (ev_ix (ev_d 2 rv) ev_int) sq_of_rp sok hd' (fun u H4 => Rp K H4 u (.int (gDone ss))) (fun H5 u H6 _ _ hu => by rw [show u = .int (gDone ss) from hu]; exact .int _) (Nat.le_refl _)) (Or.inl (by omega)))) (fun u H4 e4 ru => go_nil (go_nil ⟨⟨some v, ?_, (ex.trans e2).trans e4⟩, e2.trans e4⟩)) sc_law_done.nd
      rw [ru.int_inv, hstep]
      show _ = [some v_rows, some (V.int ((gDone (rows.take i) + n * gDone ss : Nat) : Int)), some v]
      rw [Int.natCast_add, Int.natCast_mul]
      rfl
  · rintro σ' H' ⟨v2, rfl, ex⟩
    rw [dRs_len, List.take_length]
    exact go_ret (ev_d 1 (.int _)) fun v H2 e2 rv => q v H2 (ex.trans e2) rv.int_inv
theorem ok_law_done (T : Tx P w K mg base) : ∀ d, C8.Cal P w K mg base (d + 1) "_law_done" (spI 1 (P_rows K d) R_done) []
  | 0 => law_done_body T 0 fun d' hd => absurd hd (by omega)
  | d + 1 => law_done_body T (d + 1) fun d' hd => by
    obtain rfl : d = d' := by omega
    exact ok_law_done T d
/-! ### size -/
def P_size (K : PySem.W.Frag) (d : Nat) (rs : List Row) : List V → Hp → Prop := fun vs H => P_rows K d rs vs H ∧ 4 * gCnt rs * 13 ^ d ≤ 20000000
def R_size (K : PySem.W.Frag) (rs : List Row) (_ : Hp) : V → Hp → Prop := fun v H' => Rp K H' v (dQ (gSz rs))
theorem law_size_body (T : Tx P w K mg base) (d : Nat) (ih : ∀ d', d = d' + 1 → C8.Cal P w K mg base (d' + 35) "_law_size" (spI 1 (P_size K d') (R_size K)) []) : C8.Cal P w K mg base (d + 35) "_law_size" (spI 1 (P_size K d) (R_size K)) [] := by
  refine cal_of T.d_law_size sc_law_size (fun vs H Q E h => h.1) fun f cdv A outer s H vs Q E hr h => ?_
  obtain ⟨_, rows, ⟨⟨v_rows, rfl, r_rows, ok, hdep⟩, hbig⟩, q⟩ := h
  have r_rows : SqR K (dRs rows) v_rows H := r_rows
  have ok : RowsOk rows := ok
  have hdep : gDep rows ≤ d := hdep
  have hbig : 4 * gCnt rows * 13 ^ d ≤ 20000000 := hbig
  have hr34 : Room 34 (bX P w K mg base n_law_size "_law_size" s_law_size f cdv A outer s H E).A := hr.mono (by omega)
  refine go_asg 1 ((ev_tup (ea_cons ev_int (ea_cons ev_int ea_nil))).cast (show _ = dQ 1 from rfl)) (fun v_m H1 e1 r_m => ?_) sc_law_size.nd
  refine go_forS 2 PassesOwn.never rfl sc_law_size.nd (ev_s 0 (mo_sq _ _ _ e1 r_rows))
    (fun i σ' H' => ∃ v1 v2 v3 v4, σ' = [some v_rows, some v1, v2, v3, v4] ∧ Ex H H' ∧ Rp K H' v1 (dQ (gSz (rows.take i)))) (fun H2 e2 => ⟨v_m, none, none, none, rfl, e1.trans e2, r_m.ex e2⟩) ?_ ?_
  · rintro i dd v σ' H' hdd ⟨v1, v2, v3, v4, rfl, ex, r1⟩ rv
    obtain ⟨row, hrow, rfl⟩ := dR_get hdd
    have hm := List.mem_of_getElem? hrow
    have rok := rowsOk_iff.mp ok row hm
    have rdep := dep_mem hm
    have hstep := cnt_take1 hrow
    have hsz := sz_take1 hrow
    have hle : gCnt (rows.take (i + 1)) ≤ gCnt rows := by
      have := cnt_app (rows.take (i + 1)) (rows.drop (i + 1))
      rw [List.take_append_drop] at this
      omega
    have hle2 : 4 * gCnt (rows.take (i + 1)) * 13 ^ d ≤ 20000000 := Nat.le_trans (Nat.mul_le_mul_right _ (Nat.mul_le_mul_left _ hle)) hbig
    have bx := sz_bn (rows.take i) d (rowsOk_take ok i) (Nat.le_trans (dep_take rows i) hdep)
    generalize hx : gSz (rows.take i) = x at *
    rcases row_grow row rok with ⟨k, rfl⟩ | ⟨n, ss, rfl⟩ | ⟨z, zs, e, z1, z2, z3⟩
    · obtain ⟨hk0, hk⟩ : 0 < k ∧ ht k ≤ 4 := rok
      have b1 := bx.hle
      have hx2 : gSz (rows.take (i + 1)) = x * k := hsz
      have hc : gCnt (rows.take i) ≤ gCnt (rows.take (i + 1)) := by omega
      have hle3 : 4 * gCnt (rows.take i) * 13 ^ d ≤ 20000000 := Nat.le_trans (Nat.mul_le_mul_right _ (Nat.mul_le_mul_left _ hc)) hle2
      refine go_yes (EvT.cast (et_eqS (ev_ix (ev_d 2 rv) ev_int) ev_str) (by decide)) fun H2 e2 => ?_
      refine go_asg 1 (ev_call (ok_law_times T) hr34 (ea_cons (ev_d 1 (r1.ex e2)) (ea_cons (ev_ix (ev_d 2 (rv.ex e2)) ev_int) ea_nil)) (tms (x := x) (y := k) (by omega))) (fun u H3 e3 ru => go_nil ?_) sc_law_size.nd
      refine go_no (EvT.cast (et_eqS (ev_ix (ev_d 2 ((rv.ex e2).ex e3)) ev_int) ev_str) (by decide)) fun H4 e4 => go_nil ⟨⟨u, _, _, _, rfl, ((ex.trans e2).trans e3).trans e4, ?_⟩, (e2.trans e3).trans e4⟩
      rw [hx2]
      exact ru.ex e4
    · obtain ⟨hn, sok⟩ : n ≤ 12 ∧ RowsOk ss := rok
      have hdd : gDep ss + 1 ≤ gDep rows := rdep
      obtain ⟨d', rfl⟩ : ∃ d', d = d' + 1 := ⟨d - 1, by omega⟩
      have hd' : gDep ss ≤ d' := by omega
      have hstep : gCnt (rows.take (i + 1)) = gCnt (rows.take i) + (1 + gCnt ss) := hstep
      have hS : ∀ k, k ≤ n → 4 * gCnt (rows.take i) * 13 ^ (d' + 1) + k * (4 * gCnt ss * 13 ^ d') ≤ 4 * gCnt (rows.take (i + 1)) * 13 ^ (d' + 1) := fun k hk => by
        rw [hstep]
        exact size_step hn hk (Nat.le_refl _) d'
      have hcm : 1 + gCnt ss ≤ gCnt rows := cnt_mem hm
      have hsm : 4 * gCnt ss * 13 ^ d' ≤ 20000000 := by
        have h1 : 4 * gCnt ss * 13 ^ d' ≤ 4 * gCnt rows * 13 ^ (d' + 1) := Nat.mul_le_mul (Nat.mul_le_mul_left _ (by omega)) (Nat.pow_le_pow_right (by decide) (by omega))
        omega
      have hx2 : gSz (rows.take (i + 1)) = x * rpow (gSz ss) n := hsz
      have by' := sz_bn ss d' sok hd'
      generalize hy : gSz ss = y at *
      refine go_no (EvT.cast (et_eqS (ev_ix (ev_d 2 rv) ev_int) ev_str) (by decide)) fun H2 e2 => ?_
      refine go_yes (EvT.cast (et_eqS (ev_ix (ev_d 2 (rv.ex e2)) ev_int) ev_str) (by decide)) fun H3 e3 => ?_
      have rv := (rv.ex e2).ex e3
      have r1 := (r1.ex e2).ex e3
      refine go_asg 3 (R := fun u H5 => Rp K H5 u (dQ y)) ?_ (fun u H4 e4 ry => ?_) sc_law_size.nd
      · refine ev_callI ss (ih d' rfl) hr (EvA.imp (ea_cons (ev_ix (ev_d 2 rv) ev_int) ea_nil) fun vs H5 x5 hv => ?_) (fun H5 u H6 x5 x6 hu => by rw [← hy]; exact hu) (by omega)
        obtain ⟨u, rfl, ru⟩ := one_inv hv
        exact ⟨rfl, ⟨u, rfl, Or.inr ru, sok, hd'⟩, hsm⟩
      · have rv := rv.ex e4
        have r1 := r1.ex e4
        have ry : Rp K H4 u (dQ y) := ry
        refine go_forR 4 PassesOwn.never rfl sc_law_size.nd T.m_range (ev_ix (ev_d 2 rv) ev_int) (by omega)
          (fun k σ2 H5 => ∃ v1 v4, σ2 = [some v_rows, some v1, some v, some u, v4] ∧ Ex H4 H5 ∧ Rp K H5 v1 (dQ (x * rpow y k))) (fun H5 e5 => ⟨v1, v4, rfl, e5, by show Rp K H5 v1 (dQ (x * 1)); rw [Rat.mul_one]; exact r1.ex e5⟩) ?_ ?_ (by omega)
        · rintro k σ2 H5 hk ⟨v1, v4, rfl, e5, r1⟩
          have hk : k < n := by omega
          have b1 := (bx.mul (rpow_bn by' k)).hle
          have b2 := by'.hle
          have hS1 := hS k (by omega)
          refine go_asg 1 (ev_call (ok_law_times T) hr34 (ea_cons (ev_d 1 r1) (ea_cons (ev_d 3 (ry.ex e5)) ea_nil)) (tms (x := x * rpow y k) (y := y) (by omega))) (fun u2 H6 e6 ru2 => go_nil ⟨u2, _, rfl, e5.trans e6, ?_⟩) sc_law_size.nd
          show Rp K H6 u2 (dQ (x * (rpow y k * y)))
          rw [← Rat.mul_assoc]
          exact ru2
        · rintro σ2 H5 ⟨v1, v4, rfl, e5, r1⟩
          refine go_nil (go_nil ⟨⟨v1, _, _, _, rfl, (((ex.trans e2).trans e3).trans e4).trans e5, ?_⟩, ((e2.trans e3).trans e4).trans e5⟩)
          rw [hx2]
          exact r1
    · rw [e] at rv
      have i0 : atI (PyData.str z :: zs) 0 = some (.str z) := atI_nat (j := 0) rfl
      refine go_no (EvT.cast (et_eqS (ev_ix (ev_d 2 rv) ev_int i0) ev_str) (decide_eq_false z1)) fun H2 e2 => ?_
      refine go_no (EvT.cast (et_eqS (ev_ix (ev_d 2 (rv.ex e2)) ev_int i0) ev_str) (decide_eq_false z2)) fun H3 e3 => go_nil ⟨⟨v1, _, _, _, rfl, (ex.trans e2).trans e3, ?_⟩, e2.trans e3⟩
      rw [hsz, z3, Rat.mul_one]
      exact (r1.ex e2).ex e3
  · rintro σ' H' ⟨v1, v2, v3, v4, rfl, ex, r1⟩
    rw [dRs_len, List.take_length] at r1
    exact go_ret (ev_d 1 r1) fun v H2 e2 rv => q v H2 (ex.trans e2) rv
theorem ok_law_size (T : Tx P w K mg base) : ∀ d, C8.Cal P w K mg base (d + 35) "_law_size" (spI 1 (P_size K d) (R_size K)) []
  | 0 => law_size_body T 0 fun d' hd => absurd hd (by omega)
  | d + 1 => law_size_body T (d + 1) fun d' hd => by
    obtain rfl : d = d' := by omega
    exact ok_law_size T d
/-! ### draws -/
def R_draws (rs : List Row) (_ : Hp) : V → Hp → Prop := fun v _ => v = .bl (gDw rs)
theorem law_draws_body (T : Tx P w K mg base) (d : Nat) (h6 : d ≤ 6) (ih : ∀ d', d = d' + 1 → C8.Cal P w K mg base (d' + 1) "_law_draws" (spI 1 (P_rows K d') R_draws) []) : C8.Cal P w K mg base (d + 1) "_law_draws" (spI 1 (P_rows K d) R_draws) [] := by
  refine cal_of T.d_law_draws sc_law_draws (fun vs H Q E h => h.1) fun f cdv A outer s H vs Q E hr h => ?_
  obtain ⟨_, rows, ⟨v_rows, rfl, r_rows, ok, hdep⟩, q⟩ := h
  have r_rows : SqR K (dRs rows) v_rows H := r_rows
  have ok : RowsOk rows := ok
  have hdep : gDep rows ≤ d := hdep
  refine go_asg 1 ev_int (fun v_m H1 e1 r_m => ?_) sc_law_draws.nd
  have ev := r_m.int_inv
  subst ev
  refine go_forS 2 PassesOwn.never rfl sc_law_draws.nd (ev_s 0 (mo_sq _ _ _ e1 r_rows))
    (fun i σ' H' => ∃ v2 m, σ' = [some v_rows, some (.int m), v2] ∧ Ex H H' ∧ 0 ≤ m ∧ decide (0 < m) = gDw (rows.take i)) (fun H2 e2 => ⟨none, 0, rfl, e1.trans e2, Int.le_refl 0, rfl⟩) ?_ ?_
  · rintro i dd v σ' H' hdd ⟨v2, m, rfl, ex, hm0, hmd⟩ rv
    obtain ⟨row, hrow, rfl⟩ := dR_get hdd
    have hm := List.mem_of_getElem? hrow
    have rok := rowsOk_iff.mp ok row hm
    have rdep := dep_mem hm
    have hstep := dw_take1 hrow
    rw [← hmd] at hstep
    have up : ∀ m2 : Int, (m2 = m ∧ gDw1 row = false) ∨ (m2 = m + 1 ∧ gDw1 row = true) → 0 ≤ m2 ∧ decide (0 < m2) = gDw (rows.take (i + 1)) := fun m2 h => by
      rcases h with ⟨rfl, h⟩ | ⟨rfl, h⟩
      · rw [hstep, h, Bool.or_false]; exact ⟨hm0, rfl⟩
      · rw [hstep, h, Bool.or_true]; exact ⟨by omega, decide_eq_true (by omega)⟩
    rcases row_block row rok with ⟨z, zs, e, z1, z2, z3⟩ | ⟨n, ss, rfl⟩ | ⟨z, ss, e, z1, sok, hdp, hg⟩
    · have rv0 := rv
      rw [e] at rv0
      have i0 : atI (PyData.str z :: zs) 0 = some (.str z) := atI_nat (j := 0) rfl
      have hz := dw_word row rok e z1 z2 z3
      refine go_meet (fun σ2 H2 => ∃ m2, σ2 = [some v_rows, some (.int m2), some v] ∧ Ex H' H2 ∧ ((m2 = m ∧ gDw1 row = false) ∨ (m2 = m + 1 ∧ gDw1 row = true))) (et_inL (ws := ["go", "side", "dot", "quarter", "half", "arc"]) (ev_ix (ev_d 2 rv0) ev_int i0) (ev_lst (ea_cons ev_str (ea_cons ev_str (ea_cons ev_str (ea_cons ev_str (ea_cons ev_str (ea_cons ev_str ea_nil))))))) (fun _ _ h => h.ls)) (fun hk H2 e2 => ?_) (fun hk H2 e2 => ⟨m, rfl, e2, Or.inl ⟨rfl, by rw [← hz]; exact hk⟩⟩) ?_
      · refine go_asg 1 (ev_add (ev_d 1 (.int _)) ev_int) (fun u H4 e4 ru => go_nil ⟨m + 1, by rw [ru.int_inv]; rfl, e2.trans e4, Or.inr ⟨rfl, by rw [← hz]; exact hk⟩⟩) sc_law_draws.nd
      · rintro σ2 H2 ⟨m2, rfl, e2, hm2⟩
        have rv0 := rv0.ex e2
        refine go_no (EvT.cast (et_w (ew_and (EvT.cast (et_inL (ws := ["again", "keep", "ever"]) (ev_ix (ev_d 2 rv0) ev_int i0) (ev_lst (ea_cons ev_str (ea_cons ev_str (ea_cons ev_str ea_nil)))) (fun _ _ h => h.ls)) (k' := false) (by simp [Ne.symm z1, Ne.symm z2, Ne.symm z3])) fun hk => absurd hk Bool.false_ne_true)) (Bool.false_and true)) fun H3 e3 => go_nil ⟨⟨_, m2, rfl, (ex.trans e2).trans e3, up m2 hm2⟩, e2.trans e3⟩
    · obtain ⟨hn, sok⟩ : n ≤ 12 ∧ RowsOk ss := rok
      have hdd : gDep ss + 1 ≤ gDep rows := rdep
      obtain ⟨d', rfl⟩ : ∃ d', d = d' + 1 := ⟨d - 1, by omega⟩
      have hd' : gDep ss ≤ d' := by omega
      have hg : gDw1 (.again n ss) = (decide (n ≠ 0) && gDw ss) := rfl
      refine go_no (EvT.cast (et_inL (ws := ["go", "side", "dot", "quarter", "half", "arc"]) (ev_ix (ev_d 2 rv) ev_int) (ev_lst (ea_cons ev_str (ea_cons ev_str (ea_cons ev_str (ea_cons ev_str (ea_cons ev_str (ea_cons ev_str ea_nil))))))) (fun _ _ h => h.ls)) (by decide)) fun H2 e2 => ?_
      have rv := rv.ex e2
      refine go_when (et_w (ew_and (EvT.cast (et_inL (ws := ["again", "keep", "ever"]) (ev_ix (ev_d 2 rv) ev_int) (ev_lst (ea_cons ev_str (ea_cons ev_str (ea_cons ev_str ea_nil)))) (fun _ _ h => h.ls)) (k' := true) (by decide)) fun _ => ew_and (et_neI (ev_ix (ev_d 2 rv) ev_int) ev_int) fun _ => ew_and1 (et_val (ev_rows (ih d' rfl) hr (ev_ix (ev_d 2 rv) (ev_neg ev_int)) sq_of_rp sok hd' (fun u H4 => Rp K H4 u (.bool (gDw ss))) (fun H5 u H6 _ _ hu => by rw [show u = .bl (gDw ss) from hu]; exact .bl _) (Nat.le_refl _))))) (fun hk H3 e3 => ?_) fun hk H3 e3 => ?_
      · refine go_asg 1 (ev_add (ev_d 1 (.int _)) ev_int) (fun u H4 e4 ru => go_nil (go_nil ⟨⟨some v, m + 1, by rw [ru.int_inv]; rfl, ((ex.trans e2).trans e3).trans e4, up _ (Or.inr ⟨rfl, ?_⟩)⟩, (e2.trans e3).trans e4⟩)) sc_law_draws.nd
        rw [hg]
        simpa using hk
      · refine go_nil ⟨⟨_, m, rfl, (ex.trans e2).trans e3, up _ (Or.inl ⟨rfl, ?_⟩)⟩, e2.trans e3⟩
        rw [hg]
        simpa using hk
    · have rv0 := rv
      rw [e] at rv0
      have hdd : gDep ss + 1 ≤ gDep rows := by omega
      obtain ⟨d', rfl⟩ : ∃ d', d = d' + 1 := ⟨d - 1, by omega⟩
      have hd' : gDep ss ≤ d' := by omega
      have hz1 : (["go", "side", "dot", "quarter", "half", "arc"].any fun w => w == z) = false := by rcases z1 with rfl | rfl <;> decide
      have hz2 : (["again", "keep", "ever"].any fun w => w == z) = true := by rcases z1 with rfl | rfl <;> decide
      refine go_no (EvT.cast (et_inL (ws := ["go", "side", "dot", "quarter", "half", "arc"]) (ev_ix (ev_d 2 rv0) ev_int) (ev_lst (ea_cons ev_str (ea_cons ev_str (ea_cons ev_str (ea_cons ev_str (ea_cons ev_str (ea_cons ev_str ea_nil))))))) (fun _ _ h => h.ls)) hz1) fun H2 e2 => ?_
      have rv0 := rv0.ex e2
      refine go_when (et_w (ew_and (EvT.cast (et_inL (ws := ["again", "keep", "ever"]) (ev_ix (ev_d 2 rv0) ev_int) (ev_lst (ea_cons ev_str (ea_cons ev_str (ea_cons ev_str ea_nil)))) (fun _ _ h => h.ls)) hz2) fun _ => ew_and (EvT.cast (et_ne hr.units (ev_ix (ev_d 2 rv0) ev_int) ev_int (shaped_dRs sok (by omega)) rfl) (k' := true) rfl) fun _ => ew_and1 (et_val (ev_rows (ih d' rfl) hr (ev_ix (ev_d 2 rv0) (ev_neg ev_int)) sq_of_rp sok hd' (fun u H4 => Rp K H4 u (.bool (gDw ss))) (fun H5 u H6 _ _ hu => by rw [show u = .bl (gDw ss) from hu]; exact .bl _) (Nat.le_refl _))))) (fun hk H3 e3 => ?_) fun hk H3 e3 => ?_
      · refine go_asg 1 (ev_add (ev_d 1 (.int _)) ev_int) (fun u H4 e4 ru => go_nil (go_nil ⟨⟨some v, m + 1, by rw [ru.int_inv]; rfl, ((ex.trans e2).trans e3).trans e4, up _ (Or.inr ⟨rfl, ?_⟩)⟩, (e2.trans e3).trans e4⟩)) sc_law_draws.nd
        rw [hg]
        simpa using hk
      · refine go_nil ⟨⟨_, m, rfl, (ex.trans e2).trans e3, up _ (Or.inl ⟨rfl, ?_⟩)⟩, e2.trans e3⟩
        rw [hg]
        simpa using hk
  · rintro σ' H' ⟨v2, m, rfl, ex, hm0, hmd⟩
    rw [dRs_len, List.take_length] at hmd
    refine go_ret (ev_gt (ev_d 1 (.int _)) ev_int) fun v H2 e2 rv => q v H2 (ex.trans e2) ?_
    rw [rv.bl_inv]
    exact congrArg V.bl hmd
theorem ok_law_draws (T : Tx P w K mg base) : ∀ d, d ≤ 6 → C8.Cal P w K mg base (d + 1) "_law_draws" (spI 1 (P_rows K d) R_draws) []
  | 0, h6 => law_draws_body T 0 h6 fun d' hd => absurd hd (by omega)
  | d + 1, h6 => law_draws_body T (d + 1) h6 fun d' hd => by
    obtain rfl : d = d' := by omega
    exact ok_law_draws T d (by omega)
/-! ### may it stand in an ever -/
def gMay (rs : List Row) : Bool := if 300 < gDone rs then false else (decide (gSz rs = 1) || decide (4 * (gSz rs).num ≤ 3 * ((gSz rs).den : Int))) && gDw rs
def R_may (rs : List Row) (_ : Hp) : V → Hp → Prop := fun v _ => v = .bl (gMay rs)
theorem ok_law_is_endless (T : Tx P w K mg base) (d : Nat) (h6 : d ≤ 6) : C8.Cal P w K mg base (d + 36) "_law_is_endless" (spI 1 (P_size K d) R_may) [] := by
  refine cal_of T.d_law_is_endless sc_law_is_endless (fun vs H Q E h => h.1) fun f cdv A outer s H vs Q E hr h => ?_
  obtain ⟨_, rows, ⟨⟨v_rows, rfl, r_rows, ok, hdep⟩, hbig⟩, q⟩ := h
  have r_rows : SqR K (dRs rows) v_rows H := r_rows
  have ok : RowsOk rows := ok
  have hdep : gDep rows ≤ d := hdep
  have hr1 : Room (d + 1) (bX P w K mg base n_law_is_endless "_law_is_endless" s_law_is_endless f cdv A outer s H E).A := hr.mono (by omega)
  refine go_when (et_gt (ev_rows (ok_law_done T d) hr1 (ev_sq 0 r_rows) sq_id ok hdep (fun u H4 => Rp K H4 u (.int (gDone rows))) (fun H5 u H6 _ _ hu => by rw [show u = .int (gDone rows) from hu]; exact .int _) (Nat.le_refl _)) ev_int) (fun hk H1 e1 => ?_) fun hk H1 e1 => ?_
  · have hk : (300 : Int) < (gDone rows : Int) := of_decide_eq_true hk
    refine go_ret ev_bl fun v H2 e2 rv => q v H2 (e1.trans e2) ?_
    rw [rv.bl_inv]
    show V.bl false = V.bl (gMay rows)
    unfold gMay
    rw [if_pos (by omega)]
  · have hk : ¬ (300 : Int) < (gDone rows : Int) := of_decide_eq_false hk
    have r_rows := mo_sq _ _ _ e1 r_rows
    refine go_asg 1 (R := fun u H5 => Rp K H5 u (dQ (gSz rows))) ?_ (fun u H2 e2 ru => ?_) sc_law_is_endless.nd
    · refine ev_callI rows (ok_law_size T d) hr (EvA.imp (eb_cons (ev_sq 0 r_rows) mo_sq eb_nil) fun vs H5 x5 hv => ?_) (fun H5 u H6 x5 x6 hu => hu) (by omega)
      obtain ⟨u, r, rfl, hu, hr0⟩ := hv
      have hr0 : r = [] := hr0
      subst hr0
      exact ⟨rfl, ⟨u, rfl, hu, ok, hdep⟩, hbig⟩
    · have r_rows := mo_sq _ _ _ e2 r_rows
      have ru : Rp K H2 u (dQ (gSz rows)) := ru
      refine go_ret (ev_and ((ev_or (ev_eq hr.units (ev_d 1 ru) ((ev_tup (ea_cons ev_int (ea_cons ev_int ea_nil))).cast (show _ = dQ 1 from rfl)) rfl rfl) fun _ => ev_one (ev_le (ev_mulS ev_int (ev_ix (ev_d 1 ru) ev_int) (Or.inl (by decide))) (ev_mulS ev_int (ev_ix (ev_d 1 ru) ev_int) (Or.inl (by decide))))).cast (by rw [eqv_dQ])) fun _ => ev_one (ev_rows (ok_law_draws T d h6) hr1 (ev_sq 0 r_rows) sq_id ok hdep (fun u H4 => Rp K H4 u (.bool (gDw rows))) (fun H5 u H6 _ _ hu => by rw [show u = .bl (gDw rows) from hu]; exact .bl _) (Nat.le_refl _))) fun v H3 e3 rv => q v H3 ((e1.trans e2).trans e3) ?_
      rw [rv.bl_inv]
      show _ = V.bl (gMay rows)
      unfold gMay
      rw [if_neg (by omega)]
end
end Ar
set_option maxHeartbeats 4000000
/-! Walk of the law: the stack of open blocks; a block is closed. -/
namespace Ar
open PySem L2
/-- an open block: its word, how often, its rows -/
abbrev Frm := Str × Nat × List Row
def F1 (K : PySem.W.Frag) (H : Hp) (x : V) (a : Addr) (f : Frm) : Prop := ∃ p zs, x = .ref p ∧ SqT K H p [.str f.1, .int f.2.1, .ref a] ∧ H a = some (.lst zs) ∧ RpL K H zs (dRs f.2.2)
def Fs (K : PySem.W.Frag) (H : Hp) : List V → List Addr → List Frm → Prop
  | [], [], [] => True
  | x :: xs, a :: as, f :: fs => F1 K H x a f ∧ Fs K H xs as fs
  | _, _, _ => False
section
variable {K : PySem.W.Frag} {H H' : Hp}
theorem F1.keep {x : V} {a : Addr} {f : Frm} (h : F1 K H x a f) (k : KT H H') (g : ∀ o, H a = some o → H' a = some o) : F1 K H' x a f := by
  obtain ⟨p, zs, h1, h2, h3, h4⟩ := h
  exact ⟨p, zs, h1, k.sqT h2, g _ h3, RpL.kt k _ _ h4⟩
theorem Fs.keep : ∀ {xs : List V} {as : List Addr} {fs : List Frm}, Fs K H xs as fs → KT H H' → (∀ a ∈ as, ∀ o, H a = some o → H' a = some o) → Fs K H' xs as fs
  | [], [], [], _, _, _ => trivial
  | x :: xs, a :: as, f :: fs, h, k, g => ⟨h.1.keep k (g a List.mem_cons_self), Fs.keep h.2 k fun b hb => g b (List.mem_cons_of_mem _ hb)⟩
  | [], [], _ :: _, h, _, _ => h.elim
  | [], _ :: _, _, h, _, _ => h.elim
  | _ :: _, [], _, h, _, _ => h.elim
  | _ :: _, _ :: _, [], h, _, _ => h.elim
theorem Fs.len : ∀ {xs : List V} {as : List Addr} {fs : List Frm}, Fs K H xs as fs → xs.length = fs.length ∧ as.length = fs.length
  | [], [], [], _ => ⟨rfl, rfl⟩
  | x :: xs, a :: as, f :: fs, h => by
    have := Fs.len h.2
    simp only [List.length_cons]
    omega
  | [], [], _ :: _, h => h.elim
  | [], _ :: _, _, h => h.elim
  | _ :: _, [], _, h => h.elim
  | _ :: _, _ :: _, [], h => h.elim
theorem Fs.snoc {x : V} {a : Addr} {f : Frm} : ∀ {xs : List V} {as : List Addr} {fs : List Frm}, Fs K H xs as fs → F1 K H x a f → Fs K H (xs ++ [x]) (as ++ [a]) (fs ++ [f])
  | [], [], [], _, h => ⟨h, trivial⟩
  | x :: xs, a :: as, f :: fs, h, g => ⟨h.1, Fs.snoc h.2 g⟩
  | [], [], _ :: _, h, _ => h.elim
  | [], _ :: _, _, h, _ => h.elim
  | _ :: _, [], _, h, _ => h.elim
  | _ :: _, _ :: _, [], h, _ => h.elim
theorem Fs.unsnoc {f : Frm} : ∀ {fs : List Frm} {xs : List V} {as : List Addr}, Fs K H xs as (fs ++ [f]) → ∃ xs' x as' a, xs = xs' ++ [x] ∧ as = as' ++ [a] ∧ Fs K H xs' as' fs ∧ F1 K H x a f
  | [], [x], [a], h => ⟨[], x, [], a, rfl, rfl, trivial, h.1⟩
  | g :: fs, x :: xs, a :: as, h => by
    obtain ⟨xs', y, as', b, rfl, rfl, h1, h2⟩ := Fs.unsnoc (fs := fs) h.2
    exact ⟨x :: xs', y, a :: as', b, rfl, rfl, ⟨h.1, h1⟩, h2⟩
  | [], [], [], h => h.elim
  | [], [], _ :: _, h => h.elim
  | [], _ :: _, [], h => h.elim
  | [], [_], _ :: _ :: _, h => h.2.elim
  | [], _ :: _ :: _, [_], h => h.2.elim
  | [], _ :: _ :: _, _ :: _ :: _, h => h.2.elim
  | _ :: _, [], [], h => (show False from h).elim
  | _ :: _, [], _ :: _, h => (show False from h).elim
  | _ :: _, _ :: _, [], h => (show False from h).elim
/-- the stack -/
def Stk (K : PySem.W.Frag) (H : Hp) (ls : Addr) (as : List Addr) (fs : List Frm) : Prop := ∃ xs, H ls = some (.lst xs) ∧ (ls :: as).Nodup ∧ Fs K H xs as fs
theorem Stk.ex {ls : Addr} {as : List Addr} {fs : List Frm} (h : Stk K H ls as fs) (e : Ex H H') : Stk K H' ls as fs := by
  obtain ⟨xs, h1, h2, h3⟩ := h
  exact ⟨xs, e _ _ h1, h2, h3.keep (Ex.kt e) fun a _ o ho => e a o ho⟩
end
theorem dRs_app (rs ss : List Row) : dRs (rs ++ ss) = dRs rs ++ dRs ss := by rw [dRs_eq, dRs_eq, dRs_eq, List.map_append]
theorem rowsOk_app {rs ss : List Row} (h : RowsOk rs) (g : RowsOk ss) : RowsOk (rs ++ ss) := rowsOk_iff.mpr fun r hr => by
  rcases List.mem_append.mp hr with hr | hr
  · exact rowsOk_iff.mp h r hr
  · exact rowsOk_iff.mp g r hr
theorem dep_app : ∀ (rs ss : List Row), gDep (rs ++ ss) = max (gDep rs) (gDep ss)
  | [], ss => (Nat.zero_max _).symm
  | r :: rs, ss => by
    show max (gDep1 r) (gDep (rs ++ ss)) = max (max (gDep1 r) (gDep rs)) (gDep ss)
    rw [dep_app rs ss, Nat.max_assoc]
theorem tw_num : (1 / 12 : Rat).num = 1 := by decide +kernel
theorem tw_den : (1 / 12 : Rat).den = 12 := by decide +kernel
theorem tw_ht : ht (1 / 12) ≤ 4 := by decide +kernel
theorem tw_dQ : PyData.tuple [.int 1, .int 12] = dQ (1 / 12) := by
  show _ = PyData.tuple [.int (1 / 12 : Rat).num, .int ((1 / 12 : Rat).den : Int)]
  rw [tw_num, tw_den]
  rfl
theorem tw_ok : RowOk (.grow (1 / 12)) := ⟨by decide +kernel, tw_ht⟩
def isWord (z : Str) : Prop := z = "again" ∨ z = "keep" ∨ z = "ever"
section
variable {P : Program} {w : World} {K : PySem.W.Frag} {mg : Str → Option Value} {base : Heap}
structure CloseI where
  ls : Addr
  as : List Addr
  ag : Addr
  af : Addr
  fs : List Frm
  g : Frm
  f : Frm
def P_close (K : PySem.W.Frag) (i : CloseI) : List V → Hp → Prop := fun vs H => vs = [.ref i.ls] ∧ Stk K H i.ls (i.as ++ [i.ag] ++ [i.af]) (i.fs ++ [i.g] ++ [i.f]) ∧ RowsOk i.f.2.2 ∧ i.f.2.1 ≤ 12 ∧ isWord i.f.1 ∧ gDep i.f.2.2 ≤ 3 ∧ gCnt i.f.2.2 ≤ 100 ∧ i.g.2.2.length ≤ 1000
def R_close (K : PySem.W.Frag) (i : CloseI) (H : Hp) : V → Hp → Prop := fun _ H' => ∃ b, RowOk b ∧ gDep1 b ≤ gDep i.f.2.2 + 1 ∧ gCnt1 b ≤ gCnt i.f.2.2 + 3 ∧ Stk K H' i.ls (i.as ++ [i.ag]) (i.fs ++ [(i.g.1, i.g.2.1, i.g.2.2 ++ [b])]) ∧ KT H H' ∧ ∀ a o, a ∉ i.ls :: (i.as ++ [i.ag] ++ [i.af]) → H a = some o → H' a = some o
theorem ev_may {X : Cx} {σ : L2.St} {H : Hp} {e1 : Expr} {p pos : Pos} {j : Nat} {rs : List Row} {R0 : V → Hp → Prop} (c : C8.Cal X.prog X.w X.K X.mg X.base 40 "_law_is_endless" (spI 1 (P_size X.K 4) R_may) []) (hr : Room j X.A) (ha : Ev X σ H e1 R0) (hR0 : ∀ v H1, R0 v H1 → SqR X.K (dRs rs) v H1) (ok : RowsOk rs) (hd : gDep rs ≤ 4) (hc : gCnt rs ≤ 170) (hk : 40 ≤ j) (hg : Gl X "_law_is_endless" := by rfl)
    (he : starEach [e1] X.env = (false, eval e1 X.env) :: starEach [] X.env := by rfl) (hpl : (backTo pos (starEach [] X.env)).any (·.1) = false := by rfl) : EvD X σ H (.Call (.Name "_law_is_endless" p) [e1] [] pos) (.bool (gMay rs)) := fun H1 e1' Q q =>
  uE.of (C8.pe_c c hr hk hg (pa_cons pe_u pa_nil he) (by decide) he hpl) (ha H1 e1' _ fun v H2 e2 r => by
    show spI 1 (P_size X.K 4) R_may ([v] ++ []) H2 Q E0
    rw [List.append_nil]
    refine ⟨rfl, rs, ⟨⟨v, rfl, hR0 v H2 r, ok, hd⟩, ?_⟩, fun u H3 e3 r3 => q u H3 (e2.trans e3) (by rw [show u = .bl (gMay rs) from r3]; exact .bl _)⟩
    have : 4 * gCnt rs * 13 ^ 4 ≤ 4 * 170 * 13 ^ 4 := Nat.mul_le_mul_right _ (Nat.mul_le_mul_left _ hc)
    exact Nat.le_trans this (by decide))
theorem ev_dw {X : Cx} {σ : L2.St} {H : Hp} {e1 : Expr} {p pos : Pos} {j : Nat} {rs : List Row} {R0 : V → Hp → Prop} (c : C8.Cal X.prog X.w X.K X.mg X.base 5 "_law_draws" (spI 1 (P_rows X.K 4) R_draws) []) (hr : Room j X.A) (ha : Ev X σ H e1 R0) (hR0 : ∀ v H1, R0 v H1 → SqR X.K (dRs rs) v H1) (ok : RowsOk rs) (hd : gDep rs ≤ 4) (hk : 5 ≤ j) (hg : Gl X "_law_draws" := by rfl)
    (he : starEach [e1] X.env = (false, eval e1 X.env) :: starEach [] X.env := by rfl) (hpl : (backTo pos (starEach [] X.env)).any (·.1) = false := by rfl) : EvD X σ H (.Call (.Name "_law_draws" p) [e1] [] pos) (.bool (gDw rs)) :=
  ev_rows c hr ha hR0 ok hd _ (fun H5 u H6 _ _ hu => by rw [show u = .bl (gDw rs) from hu]; exact .bl _) hk hg (by decide) he hpl
theorem ev_dn {X : Cx} {σ : L2.St} {H : Hp} {e1 : Expr} {p pos : Pos} {j : Nat} {rs : List Row} {R0 : V → Hp → Prop} (c : C8.Cal X.prog X.w X.K X.mg X.base 5 "_law_done" (spI 1 (P_rows X.K 4) R_done) []) (hr : Room j X.A) (ha : Ev X σ H e1 R0) (hR0 : ∀ v H1, R0 v H1 → SqR X.K (dRs rs) v H1) (ok : RowsOk rs) (hd : gDep rs ≤ 4) (hk : 5 ≤ j) (hg : Gl X "_law_done" := by rfl)
    (he : starEach [e1] X.env = (false, eval e1 X.env) :: starEach [] X.env := by rfl) (hpl : (backTo pos (starEach [] X.env)).any (·.1) = false := by rfl) : EvD X σ H (.Call (.Name "_law_done" p) [e1] [] pos) (.int (gDone rs)) :=
  ev_rows c hr ha hR0 ok hd _ (fun H5 u H6 _ _ hu => by rw [show u = .int (gDone rs) from hu]; exact .int _) hk hg (by decide) he hpl
theorem sq_tr {K : PySem.W.Frag} {l : Addr} {ds : List PyData} (v : V) (H1 : Hp) (h : TrR K l ds v H1) : SqR K ds v H1 := Or.inl h.ls
theorem new_tr {K : PySem.W.Frag} {H0 H : Hp} {ds : List PyData} {v : V} (h : NewR K H0 ds v H) : ∃ l, v = .ref l ∧ H0 l = none ∧ TrR K l ds (.ref l) H := by
  obtain ⟨p, xs, rfl, h1, h2, h3⟩ := h
  exact ⟨p, rfl, h1, rfl, xs, h2, h3⟩
theorem ok_law_close (T : Tx P w K mg base) : C8.Cal P w K mg base 41 "_law_close" (spM 1 (P_close K) (R_close K)) [] := by
  refine cal_of T.d_law_close sc_law_close (fun vs H Q E h => h.1) fun f cdv A outer s H vs Q E hr h => ?_
  obtain ⟨_, ⟨ls, as, ag, af, fs, g, fr⟩, ⟨rfl, ⟨xs, hls, nd, hfs⟩, ok, hn, hw, hdep, hcnt, hgl⟩, q⟩ := h
  have hls : H ls = some (.lst xs) := hls
  have nd : (ls :: (as ++ [ag] ++ [af])).Nodup := nd
  have hfs : Fs K H xs (as ++ [ag] ++ [af]) (fs ++ [g] ++ [fr]) := hfs
  have hgl : g.2.2.length ≤ 1000 := hgl
  obtain ⟨w0, n, rs⟩ := fr
  have ok : RowsOk rs := ok
  have hn : n ≤ 12 := hn
  have hw : isWord w0 := hw
  have hdep : gDep rs ≤ 3 := hdep
  have hcnt : gCnt rs ≤ 100 := hcnt
  obtain ⟨xs1, xf, as1, af', rfl, eas, hfs1, hF⟩ := hfs.unsnoc
  obtain ⟨rfl, ea⟩ := List.append_inj' eas rfl
  obtain rfl : af = af' := by simpa using ea
  obtain ⟨xs0, xg, as0, ag', rfl, eas, hfs0, hG⟩ := hfs1.unsnoc
  obtain ⟨rfl, ea⟩ := List.append_inj' eas rfl
  obtain rfl : ag = ag' := by simpa using ea
  obtain ⟨pf, zs, rfl, hTf, haf, hrf⟩ := hF
  have n1 : af ≠ ls := fun z => by rw [z] at nd; exact (List.nodup_cons.mp nd).1 (by simp)
  have n2 : ag ≠ ls := fun z => by rw [z] at nd; exact (List.nodup_cons.mp nd).1 (by simp)
  have n3 : ∀ a ∈ as, a ≠ ls := fun a ha z => by rw [z] at ha; exact (List.nodup_cons.mp nd).1 (by simp [ha])
  have nd2 : (ls :: (as ++ [ag])).Nodup := by
    rw [← List.cons_append] at nd
    exact (List.nodup_append.mp nd).1
  have n4 : ∀ a ∈ as, a ≠ ag := fun a ha z => by
    have h1 := (List.nodup_cons.mp nd2).2
    rw [z] at ha
    have := (List.nodup_append.mp h1).2.2 ag ha ag (by simp)
    exact this rfl
  have hr5 : Room 5 (bX P w K mg base n_law_close "_law_close" s_law_close f cdv A outer s H E).A := hr.mono (by decide)
  refine go_popU (xs := xs0 ++ [xg] ++ [V.ref pf]) [1, 2, 3] hls List.getLast?_concat hTf rfl (ev_v 0 rfl) rfl sc_law_close.nd (nm_cons 1 (nm_cons 2 (nm_cons 3 NmAt.nil))) fun H1 e1 => ?_
  rw [List.dropLast_concat]
  have kt1 : KT H (upd H1 ls (.lst (xs0 ++ [xg]))) := (Ex.kt e1).trans (KT.lst (e1 _ _ hls))
  generalize hH2 : upd H1 ls (.lst (xs0 ++ [xg])) = H2 at *
  have ls2 : H2 ls = some (.lst (xs0 ++ [xg])) := by rw [← hH2]; exact upd_same
  have oth : ∀ a o, a ≠ ls → H a = some o → H2 a = some o := fun a o na ha => by rw [← hH2, upd_ne na]; exact e1 _ _ ha
  have fs2 : Fs K H2 (xs0 ++ [xg]) (as ++ [ag]) (fs ++ [g]) := hfs1.keep kt1 fun a ha o ho => oth a o (by
    rcases List.mem_append.mp ha with ha | ha
    · exact n3 a ha
    · rw [List.mem_singleton.mp ha]; exact n2) ho
  have tr0 : TrR K af (dRs rs) (.ref af) H2 := ⟨rfl, zs, oth _ _ n1 haf, RpL.kt kt1 _ _ hrf⟩
  have hone : ∀ b : Bool, (if b = true then [PyData.tuple [.str "dot"]] else []) = dRs (if b = true then [Row.dot] else []) := fun b => by cases b <;> rfl
  have hone2 : ∀ b : Bool, (if b = true then [PyData.tuple [.str "grow", dQ (1 / 12)]] else []) = dRs (if b = true then [Row.grow (1 / 12)] else []) := fun b => by cases b <;> rfl
  refine go_meet (fun σ' H' => ∃ l rs' w', σ' = [some (.ref ls), some (.str w'), some (.int n), some (.ref l), none] ∧ Ex H2 H' ∧ TrR K l (dRs rs') (.ref l) H' ∧ RowsOk rs' ∧ gDep rs' ≤ gDep rs ∧ gCnt rs' ≤ gCnt rs + 2 ∧ isWord w') (et_eqS (ev_d 1 (.str w0)) ev_str) (fun _ H3 e3 => ?_) (fun _ H3 e3 => ⟨af, rs, w0, rfl, e3, mo_tr _ _ _ e3 tr0, ok, Nat.le_refl _, by omega, hw⟩) ?_
  · have tr0 := mo_tr _ _ _ e3 tr0
    have len0 : rs.length ≤ 100 := Nat.le_trans (len_cnt rs) hcnt
    refine go_asg 3 (ev_cat (ds := dRs rs) (es := if (!gDw rs) = true then [PyData.tuple [.str "dot"]] else []) (ev_tr 3 tr0) (ev_rep (ev_lst (ea_cons (ev_tup (ea_cons ev_str ea_nil)) ea_nil)) (ev_intB T.m_int (ev_not (ev_dw (ok_law_draws T 4 (by decide)) hr5 (ev_tr 3 tr0) sq_tr ok (by omega) (by decide)))) (by decide)) mo_tr tr_lst new_lst (by rw [dRs_len]; split <;> simp <;> omega)) (fun v_1 H4 e4 r_1 => ?_) sc_law_close.nd
    obtain ⟨l1, rfl, -, tr1⟩ := new_tr r_1
    rw [hone, ← dRs_app] at tr1
    obtain ⟨r1, hr1⟩ : ∃ r1, rs ++ (if (!gDw rs) = true then [Row.dot] else []) = r1 := ⟨_, rfl⟩
    have o1 : RowsOk r1 ∧ gDep r1 ≤ gDep rs ∧ gCnt r1 ≤ gCnt rs + 1 := by
      rw [← hr1, dep_app, cnt_app]
      split
      · exact ⟨rowsOk_app ok ⟨trivial, trivial⟩, by show max (gDep rs) 0 ≤ _; omega, Nat.le_refl _⟩
      · exact ⟨rowsOk_app ok trivial, by show max (gDep rs) 0 ≤ _; omega, by show gCnt rs + 0 ≤ _; omega⟩
    rw [hr1] at tr1
    obtain ⟨ok1, hd1, hc1⟩ := o1
    have len1 : r1.length ≤ 101 := by have := len_cnt r1; omega
    refine go_asg 3 (ev_cat (ds := dRs r1) (es := if (!gMay r1) = true then [PyData.tuple [.str "grow", dQ (1 / 12)]] else []) (ev_tr 3 tr1) (ev_rep (ev_lst (ea_cons (ev_tup (ea_cons ev_str (ea_cons ((ev_tup (ea_cons ev_int (ea_cons ev_int ea_nil))).cast tw_dQ) ea_nil))) ea_nil)) (ev_intB T.m_int (ev_not (ev_may (ok_law_is_endless T 4 (by decide)) hr (ev_tr 3 tr1) sq_tr ok1 (by omega) (by omega) (by decide)))) (by decide)) mo_tr tr_lst new_lst (by rw [dRs_len]; split <;> simp <;> omega)) (fun v_2 H5 e5 r_2 => ?_) sc_law_close.nd
    obtain ⟨l2, rfl, -, tr2⟩ := new_tr r_2
    rw [hone2, ← dRs_app] at tr2
    obtain ⟨r2, hr2⟩ : ∃ r2, r1 ++ (if (!gMay r1) = true then [Row.grow (1 / 12)] else []) = r2 := ⟨_, rfl⟩
    have o2 : RowsOk r2 ∧ gDep r2 ≤ gDep r1 ∧ gCnt r2 ≤ gCnt r1 + 1 := by
      rw [← hr2, dep_app, cnt_app]
      split
      · exact ⟨rowsOk_app ok1 ⟨tw_ok, trivial⟩, by show max (gDep r1) 0 ≤ _; omega, Nat.le_refl _⟩
      · exact ⟨rowsOk_app ok1 trivial, by show max (gDep r1) 0 ≤ _; omega, by show gCnt r1 + 0 ≤ _; omega⟩
    rw [hr2] at tr2
    obtain ⟨ok2, hd2, hc2⟩ := o2
    refine go_asg 1 (ev_ixL (d := .str (if gMay r2 = true then "ever" else "keep")) ((ev_lst (ea_cons ev_str (ea_cons ev_str ea_nil))).imp fun _ _ _ h => h.ls) (ev_intB T.m_int (ev_may (ok_law_is_endless T 4 (by decide)) hr (ev_tr 3 tr2) sq_tr ok2 (by omega) (by omega) (by decide))) (by cases gMay r2 <;> rfl)) (fun v_w H6 e6 r_w => go_nil ?_) sc_law_close.nd
    have ew := r_w.str_inv
    subst ew
    exact ⟨l2, r2, _, rfl, ((e3.trans e4).trans e5).trans e6, mo_tr _ _ _ e6 tr2, ok2, by omega, by omega, by cases gMay r2; exact Or.inr (Or.inl rfl); exact Or.inr (Or.inr rfl)⟩
  · rintro σ' H3 ⟨l, rs', w', rfl, e3, tr, ok', hd', hc', hw'⟩
    have len' : rs'.length ≤ 102 := by have := len_cnt rs'; omega
    refine go_asg 4 (ev_tup (ea_cons (ev_d 1 (.str w')) (ea_cons (ev_tupOf T.m_tuple ((ev_tr 3 tr).imp fun _ _ _ h => TrR.ls h)) ea_nil))) (fun v_b H4 e4 r_b => ?_) sc_law_close.nd
    have tr := mo_tr _ _ _ e4 tr
    refine go_meet (fun σ' H' => ∃ vb b, σ' = [some (.ref ls), some (.str w'), some (.int n), some (.ref l), some vb] ∧ Ex H4 H' ∧ Rp K H' vb (dR b) ∧ RowOk b ∧ gDep1 b = gDep rs' + 1 ∧ gCnt1 b = 1 + gCnt rs') (et_eqS (ev_d 1 (.str w')) ev_str) (fun hk H5 e5 => ?_) (fun hk H5 e5 => ?_) ?_
    · have hk : w' = "again" := of_decide_eq_true hk
      have tr := mo_tr _ _ _ e5 tr
      have hn' : ∀ b : Bool, (if b = true then 1 else n) ≤ 12 := fun b => by cases b <;> simp <;> omega
      refine go_asg 4 (ev_tup (ea_cons (ev_d 1 (.str w')) (ea_cons (ev_ixL (d := .int ((if decide ((90 : Int) < (n : Int) * (gDone rs' : Int)) = true then 1 else n : Nat) : Int)) ((ev_lst (ea_cons (ev_d 2 (.int n)) (ea_cons ev_int ea_nil))).imp fun _ _ _ h => h.ls) (ev_intB T.m_int (ev_gt (ev_mulS (ev_d 2 (.int n)) (ev_dn (ok_law_done T 4) hr5 (ev_tr 3 tr) sq_tr ok' (by omega) (by decide)) (Or.inl (by omega))) ev_int)) (by cases decide ((90 : Int) < (n : Int) * (gDone rs' : Int)) <;> rfl)) (ea_cons (ev_tupOf T.m_tuple ((ev_tr 3 tr).imp fun _ _ _ h => TrR.ls h)) ea_nil)))) (fun v_c H6 e6 r_c => go_nil ⟨v_c, .again (if decide ((90 : Int) < (n : Int) * (gDone rs' : Int)) = true then 1 else n) rs', rfl, e5.trans e6, ?_, ⟨hn' _, ok'⟩, rfl, rfl⟩) sc_law_close.nd
      subst hk
      exact r_c
    · have hk : w' ≠ "again" := of_decide_eq_false hk
      rcases hw' with z | rfl | rfl
      · exact absurd z hk
      · exact ⟨v_b, .keep rs', rfl, e5, r_b.ex e5, ok', rfl, rfl⟩
      · exact ⟨v_b, .ever rs', rfl, e5, r_b.ex e5, ok', rfl, rfl⟩
    · rintro σ' H5 ⟨vb, b, rfl, e5, r_blk, bok, bdep, bcnt⟩
      have e25 : Ex H2 H5 := (e3.trans e4).trans e5
      obtain ⟨pg, zg, rfl, hTg, hag, hrg⟩ := hG
      have hag2 := oth _ _ n2 hag
      have hTg2 := (kt1.trans (Ex.kt e25)).sqT hTg
      have hrg2 := RpL.kt (kt1.trans (Ex.kt e25)) _ _ hrg
      have hlast : atI (xs0 ++ [V.ref pg]) (-1) = some (.ref pg) := atI_last List.getLast?_concat
      refine go_app (R := fun v H' => Rp K H' v (dR b)) (e25 _ _ hag2) (ev_ixM (R := fun v _ => v = .ref ag) (((ev_ixV (e25 _ _ ls2) (ev_v 0 rfl) (ev_neg ev_int) hlast).at).imp fun u H6 x6 hu => ⟨pg, _, .ref ag, hu.1, (Ex.kt hu.2).sqT hTg2, atI_nat (j := 2) rfl, rfl⟩) mo_eq ev_int) (ev_d 4 r_blk) (by rw [hrg2.length, dRs_len]; omega) fun u H6 e6 ru => go_nil ?_
      have e26 := e25.trans e6
      have hag6 := e26 _ _ hag2
      have kt6 := KT.lst (o := .lst (zg ++ [u])) hag6
      refine q .non _ ⟨b, bok, ?_, ?_, ⟨xs0 ++ [.ref pg], ?_, nd2, ?_⟩, kt1.trans ((Ex.kt e26).trans kt6), fun a o ha ho => ?_⟩
      · show gDep1 b ≤ gDep rs + 1
        omega
      · show gCnt1 b ≤ gCnt rs + 3
        omega
      · show (upd H6 ag _) ls = _
        rw [upd_ne (Ne.symm n2)]
        exact e26 _ _ ls2
      · refine Fs.snoc (hfs0.keep (kt1.trans ((Ex.kt e26).trans kt6)) fun a ha o ho => ?_) ⟨pg, zg ++ [u], rfl, kt6.sqT ((Ex.kt e6).sqT hTg2), upd_same, ?_⟩
        · show (upd H6 ag _) a = _
          rw [upd_ne (n4 a ha)]
          exact e26 _ _ (oth _ _ (n3 a ha) ho)
        · show RpL K _ _ (dRs (g.2.2 ++ [b]))
          rw [dRs_app]
          exact (RpL.kt kt6 _ _ (hrg2.ex e6)).append (.one (Rp.kt kt6 _ _ ru))
      · have ha : a ∉ ls :: (as ++ [ag] ++ [af]) := ha
        have na1 : a ≠ ls := fun z => ha (by rw [z]; exact List.mem_cons_self)
        have na2 : a ≠ ag := fun z => ha (by rw [z]; simp)
        show (upd H6 ag _) a = _
        rw [upd_ne na2]
        exact e26 _ _ (oth _ _ na1 ho)
end
end Ar
set_option maxHeartbeats 4000000
/-! Walk of the law: programs. -/
namespace Ar
open PySem L2
/-- what the stack is -/
def StkOk (fs : List Frm) : Prop := ∀ (i : Nat) f, fs[i]? = some f → RowsOk f.2.2 ∧ f.2.1 ≤ 12 ∧ gDep f.2.2 + i ≤ 4 ∧ (i = 0 ∨ isWord f.1)
def cntF (fs : List Frm) : Nat := (fs.map fun f => gCnt f.2.2).sum
theorem cntF_app (fs gs : List Frm) : cntF (fs ++ gs) = cntF fs + cntF gs := by
  unfold cntF
  rw [List.map_append, List.sum_append]
theorem cntF_one (f : Frm) : cntF [f] = gCnt f.2.2 := by
  unfold cntF
  simp
theorem cntF_mem {fs : List Frm} {f : Frm} (h : f ∈ fs) : gCnt f.2.2 ≤ cntF fs := by
  obtain ⟨a, b, rfl⟩ := List.append_of_mem h
  have e : a ++ f :: b = a ++ ([f] ++ b) := rfl
  rw [e, cntF_app, cntF_app, cntF_one]
  omega
theorem stkOk_snoc {fs : List Frm} {f : Frm} (h : StkOk fs) (g : RowsOk f.2.2 ∧ f.2.1 ≤ 12 ∧ gDep f.2.2 + fs.length ≤ 4 ∧ (fs.length = 0 ∨ isWord f.1)) : StkOk (fs ++ [f]) := fun i f' hi => by
  by_cases hl : i < fs.length
  · rw [List.getElem?_append_left hl] at hi
    exact h i f' hi
  · have hi2 : i = fs.length := by
      have := (List.getElem?_eq_some_iff.mp hi).1
      rw [List.length_append, List.length_singleton] at this
      omega
    subst hi2
    rw [List.getElem?_append_right (Nat.le_refl _), Nat.sub_self] at hi
    obtain rfl := Option.some.inj hi
    exact g
theorem stkOk_init {fs : List Frm} {f : Frm} (h : StkOk (fs ++ [f])) : StkOk fs := fun i f' hi => h i f' (by
  rw [List.getElem?_append_left (List.getElem?_eq_some_iff.mp hi).1]
  exact hi)
theorem stkOk_last {fs : List Frm} {f : Frm} (h : StkOk (fs ++ [f])) : RowsOk f.2.2 ∧ f.2.1 ≤ 12 ∧ gDep f.2.2 + fs.length ≤ 4 ∧ (fs.length = 0 ∨ isWord f.1) := h fs.length f (by rw [List.getElem?_append_right (Nat.le_refl _), Nat.sub_self]; rfl)
section
variable {P : Program} {w : World} {K : PySem.W.Frag} {mg : Str → Option Value} {base : Heap}
theorem split2 {α : Type} {l : List α} (h : 2 ≤ l.length) : ∃ a x y, l = a ++ [x] ++ [y] := by
  have h1 : l ≠ [] := fun z => by rw [z] at h; simp at h
  have e1 := List.dropLast_concat_getLast h1
  have h2 : l.dropLast ≠ [] := fun z => by
    have := congrArg List.length z
    rw [List.length_dropLast, List.length_nil] at this
    omega
  have e2 := List.dropLast_concat_getLast h2
  exact ⟨_, _, _, by rw [e2, e1]⟩
/-- the last block is closed -/
theorem PrI.close {H H' : Hp} {ls : Addr} {c : Nat} (h0 : Ex H H') (h1 : H ls = none) (hc : c ≤ 100) {as : List Addr} {fs : List Frm} (h3 : ∀ a ∈ as, H a = none) (h4 : Stk K H' ls as fs) (h5 : StkOk fs) (h6 : cntF fs ≤ c) (h8 : fs.length ≤ 5) (h2 : 2 ≤ fs.length) :
    ∃ i : CloseI, ∀ H5, Ex H' H5 → P_close K i [.ref ls] H5 ∧ ∀ v H2, R_close K i H5 v H2 → Ex H H2 ∧ ∃ as' fs', (∀ a ∈ as', H a = none) ∧ Stk K H2 ls as' fs' ∧ StkOk fs' ∧ cntF fs' ≤ c + 3 ∧ fs'.length + 1 = fs.length := by
  obtain ⟨fs0, g, f, rfl⟩ := split2 h2
  obtain ⟨xs, hls, nd, hF⟩ := id h4
  have hal := hF.len.2
  obtain ⟨as0, ag, af, rfl⟩ := split2 (l := as) (by omega)
  obtain ⟨o1, o2, o3, o4⟩ := stkOk_last h5
  obtain ⟨p1, p2, p3, p4⟩ := stkOk_last (stkOk_init h5)
  have hl : (fs0 ++ [g]).length = fs0.length + 1 := by rw [List.length_append, List.length_singleton]
  rw [hl] at o3 o4
  have hcf : gCnt f.2.2 ≤ c := Nat.le_trans (cntF_mem (by simp)) h6
  have hcg : gCnt g.2.2 ≤ c := Nat.le_trans (cntF_mem (by simp)) h6
  have hgl := len_cnt g.2.2
  have ow : isWord f.1 := by
    rcases o4 with z | z
    · omega
    · exact z
  refine ⟨⟨ls, as0, ag, af, fs0, g, f⟩, fun H5 e5 => ⟨⟨rfl, h4.ex e5, o1, o2, ow, (by show gDep f.2.2 ≤ 3; omega), (by show gCnt f.2.2 ≤ 100; omega), (by show g.2.2.length ≤ 1000; omega)⟩, fun v H2 hR => ?_⟩⟩
  obtain ⟨b, b1, b2, b3, b4, b5, b6⟩ := hR
  have b2 : gDep1 b ≤ gDep f.2.2 + 1 := b2
  have b3 : gCnt1 b ≤ gCnt f.2.2 + 3 := b3
  have b4 : Stk K H2 ls (as0 ++ [ag]) (fs0 ++ [(g.1, g.2.1, g.2.2 ++ [b])]) := b4
  have b6 : ∀ a o, a ∉ ls :: (as0 ++ [ag] ++ [af]) → H5 a = some o → H2 a = some o := b6
  have n3 : ∀ a ∈ as0 ++ [ag], H a = none := fun a ha => h3 a (List.mem_append_left _ ha)
  have ok2 : StkOk (fs0 ++ [(g.1, g.2.1, g.2.2 ++ [b])]) := stkOk_snoc (stkOk_init (stkOk_init h5)) ⟨rowsOk_app p1 ⟨b1, trivial⟩, p2, by
    show gDep (g.2.2 ++ [b]) + fs0.length ≤ 4
    rw [dep_app]
    show max (gDep g.2.2) (max (gDep1 b) 0) + fs0.length ≤ 4
    omega, p4⟩
  have cn2 : cntF (fs0 ++ [(g.1, g.2.1, g.2.2 ++ [b])]) ≤ c + 3 := by
    rw [cntF_app, cntF_app, cntF_one, cntF_one] at h6
    rw [cntF_app, cntF_one]
    show cntF fs0 + gCnt (g.2.2 ++ [b]) ≤ c + 3
    rw [cnt_app, cnt_one]
    omega
  have ex2 : Ex H H2 := fun a o ho => b6 a o (fun ha => by
    rcases List.mem_cons.mp ha with z | z
    · rw [z, h1] at ho; cases ho
    · rw [h3 a z] at ho; cases ho) (e5 _ _ (h0 a o ho))
  have l2 : (fs0 ++ [(g.1, g.2.1, g.2.2 ++ [b])]).length = fs0.length + 1 := by rw [List.length_append, List.length_singleton]
  have l3 : (fs0 ++ [g] ++ [f]).length = fs0.length + 2 := by rw [List.length_append, List.length_append, List.length_singleton, List.length_singleton]
  exact ⟨ex2, _, _, n3, b4, ok2, cn2, by omega⟩
/-- the last block's rows grow -/
theorem Stk.push {H : Hp} {ls a : Addr} {as : List Addr} {fs : List Frm} {g : Frm} (h : Stk K H ls (as ++ [a]) (fs ++ [g])) : ∃ p zs xs0, H ls = some (.lst (xs0 ++ [.ref p])) ∧ SqT K H p [.str g.1, .int g.2.1, .ref a] ∧ H a = some (.lst zs) ∧ zs.length = g.2.2.length ∧
    ∀ H' u b, Ex H H' → Rp K H' u (dR b) → Stk K (upd H' a (.lst (zs ++ [u]))) ls (as ++ [a]) (fs ++ [(g.1, g.2.1, g.2.2 ++ [b])]) := by
  obtain ⟨xs, hls, nd, hfs⟩ := h
  obtain ⟨xs0, xg, as0, a', rfl, eas, hfs0, hG⟩ := hfs.unsnoc
  obtain ⟨rfl, ea⟩ := List.append_inj' eas rfl
  obtain rfl : a = a' := by simpa using ea
  obtain ⟨pg, zg, rfl, hTg, hag, hrg⟩ := hG
  have n2 : a ≠ ls := fun z => by rw [z] at nd; exact (List.nodup_cons.mp nd).1 (by simp)
  have n4 : ∀ b ∈ as, b ≠ a := fun b hb z => by
    have h1 := (List.nodup_cons.mp nd).2
    rw [z] at hb
    have := (List.nodup_append.mp h1).2.2 a hb a (by simp)
    exact this rfl
  refine ⟨pg, zg, xs0, hls, hTg, hag, by rw [hrg.length, dRs_len], fun H' u b e ru => ?_⟩
  have kt := KT.lst (o := .lst (zg ++ [u])) (e _ _ hag)
  refine ⟨xs0 ++ [.ref pg], by rw [upd_ne (Ne.symm n2)]; exact e _ _ hls, nd, Fs.snoc (hfs0.keep ((Ex.kt e).trans kt) fun c hc o ho => ?_) ⟨pg, zg ++ [u], rfl, kt.sqT ((Ex.kt e).sqT hTg), upd_same, ?_⟩⟩
  · rw [upd_ne (n4 c hc)]
    exact e _ _ ho
  · show RpL K _ _ (dRs (g.2.2 ++ [b]))
    rw [dRs_app]
    exact (RpL.kt kt _ _ (hrg.ex e)).append (.one (Rp.kt kt _ _ ru))
def P_prog (K : PySem.W.Frag) (cs : List Int) : List V → Hp → Prop := fun vs H => ∃ v, vs = [v] ∧ LsR K (cs.map .int) v H ∧ cs.length ≤ 18
def R_prog (K : PySem.W.Frag) (_ : List Int) (_ : Hp) : V → Hp → Prop := fun v H' => ∃ rs, RowsOk rs ∧ gDep rs ≤ 4 ∧ gDone rs ≤ 300 ∧ Rp K H' v (.tuple (dRs rs))
/-- [t], t a tuple of three -/
theorem ev_lst1 {X : Cx} {σ : L2.St} {H : Hp} {e : Expr} {pos : Pos} {R : V → Hp → Prop} (m : Mo R) (h : Ev X σ H e R) (s1 : starEach [e] X.env = (false, eval e X.env) :: starEach [] X.env := by rfl) : Ev X σ H (.List [e] pos) (fun v H' => ∃ p u, v = .ref p ∧ H p = none ∧ H' p = some (.lst [u]) ∧ R u H') := fun H1 e1 Q q =>
  uE.of (pe_lst (pa_cons pe_u pa_nil s1)) (h H1 e1 _ fun v H2 e2 r => ⟨(by show 1 ≤ sizeLine; decide), fun p hp => q _ _ (e2.trans (ex_new hp)) ⟨p, v, rfl, Evl.fresh_back (e1.trans e2) hp, upd_same, m _ _ _ (ex_new hp) r⟩⟩)
/-- a frame that is new -/
theorem frm_new {H0 H H' : Hp} {ls : Addr} {as : List Addr} {fs : List Frm} {u : V} {z : Str} {n : Nat} (h0 : H0 ls = none) (h3 : ∀ a ∈ as, H0 a = none) (x0 : Ex H0 H) (st : Stk K H ls as fs) (e : Ex H H') (hu : Tup3 K (fun v H => Rp K H v (.str z)) (fun v H => Rp K H v (.int n)) (NewR K H []) u H') :
    ∃ a, H0 a = none ∧ (∀ xs, H' ls = some (.lst xs) → Stk K (upd H' ls (.lst (xs ++ [u]))) ls (as ++ [a]) (fs ++ [(z, n, [])])) := by
  obtain ⟨p, v1, v2, v3, rfl, hT, r1, r2, a, zs, rfl, ha, ha', hr⟩ := hu
  cases hr
  rw [r1.str_inv, r2.int_inv] at hT
  refine ⟨a, Evl.fresh_back x0 ha, fun xs hxs => ?_⟩
  obtain ⟨xs', hls, nd, hF⟩ := st
  have e1 := e _ _ hls
  rw [hxs] at e1
  obtain rfl := HO.lst.inj (Option.some.inj e1)
  have na : a ≠ ls := by
    rintro rfl
    rw [ha] at hls
    cases hls
  have nas : a ∉ as := fun hm => by
    obtain ⟨i, hi⟩ := List.getElem?_of_mem hm
    have key : ∀ {xs : List V} {as : List Addr} {fs : List Frm}, Fs K H xs as fs → a ∈ as → H a ≠ none := fun {xs as fs} hF => by
      induction as generalizing xs fs with
      | nil => intro h; cases h
      | cons b as ih =>
        intro h
        cases xs with
        | nil => exact hF.elim
        | cons x xs =>
          cases fs with
          | nil => exact hF.elim
          | cons f fs =>
            rcases List.mem_cons.mp h with rfl | h
            · obtain ⟨⟨_, _, _, _, h2, _⟩, _⟩ := hF
              rw [h2]; exact fun z => nomatch z
            · exact ih hF.2 h
    exact key hF hm ha
  have kt := KT.lst (o := .lst (xs ++ [V.ref p])) hxs
  refine ⟨xs ++ [.ref p], upd_same, ?_, Fs.snoc ((hF.keep (Ex.kt e) fun b _ o ho => e b o ho).keep kt fun b hb o ho => ?_) ⟨p, [], rfl, kt.sqT hT, ?_, .nil⟩⟩
  · rw [← List.cons_append, List.nodup_append]
    refine ⟨nd, by simp, fun x hx y hy => ?_⟩
    rw [List.mem_singleton.mp hy]
    rintro rfl
    rcases List.mem_cons.mp hx with z | z
    · exact na z
    · exact nas z
  · rw [upd_ne]
    · exact ho
    · rintro rfl
      exact (List.nodup_cons.mp nd).1 hb
  · rw [upd_ne na]
    exact ha'
end
end Ar
set_option maxHeartbeats 4000000
/-! Walk of the law: a program by cells. -/
namespace Ar
open PySem L2
theorem Fs.get {K : PySem.W.Frag} {H : Hp} : ∀ {xs : List V} {as : List Addr} {fs : List Frm} {i : Nat} {x : V}, Fs K H xs as fs → xs[i]? = some x → ∃ a f, fs[i]? = some f ∧ F1 K H x a f
  | [], _, _, _, _, _, hx => by simp at hx
  | x :: xs, a :: as, f :: fs, 0, y, h, hx => by
    obtain rfl := Option.some.inj hx
    exact ⟨a, f, rfl, h.1⟩
  | x :: xs, a :: as, f :: fs, i + 1, y, h, hx => Fs.get (i := i) h.2 hx
  | _ :: _, [], _, _, _, h, _ => h.elim
  | _ :: _, _ :: _, [], _, _, h, _ => h.elim
theorem rpl_dropLast {K : PySem.W.Frag} {H : Hp} {vs : List V} {ds : List PyData} (h : RpL K H vs ds) : RpL K H vs.dropLast ds.dropLast := by
  rw [List.dropLast_eq_take, List.dropLast_eq_take, h.length]
  exact h.take _
theorem dRs_dropLast (rs : List Row) : (dRs rs).dropLast = dRs rs.dropLast := by rw [dRs_eq, dRs_eq, List.map_dropLast]
theorem rowsOk_init {rs : List Row} (h : RowsOk rs) : RowsOk rs.dropLast := by
  rw [List.dropLast_eq_take]
  exact rowsOk_take h _
theorem dep_init (rs : List Row) : gDep rs.dropLast ≤ gDep rs := by
  rw [List.dropLast_eq_take]
  exact dep_take _ _
def cellW (n : Int) : Str := if n = 0 then "again" else if n = 1 then "keep" else "ever"
theorem cellW_at {n : Int} (h0 : 0 ≤ n) (h3 : n < 3) : atI [PyData.str "again", .str "keep", .str "ever"] n = some (.str (cellW n)) ∧ isWord (cellW n) := by
  rcases (show n = 0 ∨ n = 1 ∨ n = 2 by omega) with rfl | rfl | rfl
  · exact ⟨rfl, Or.inl rfl⟩
  · exact ⟨rfl, Or.inr (Or.inl rfl)⟩
  · exact ⟨rfl, Or.inr (Or.inr rfl)⟩
section
variable {X : Cx} {σ : L2.St} {H : Hp} {e : Expr} {pos p : Pos}
theorem ev_lenV {l : Addr} {xs : List V} (hl : H l = some (.lst xs)) (hm : X.mg "len" = none) (ha : Ev X σ H e (fun v _ => v = .ref l)) (hg : Gl X "len" := by rfl)
    (he : starEach [e] X.env = (false, eval e X.env) :: starEach [] X.env := by rfl) (hpl : (backTo pos (starEach [] X.env)).any (·.1) = false := by rfl) : EvD X σ H (.Call (.Name "len" p) [e] [] pos) (.int (xs.length : Int)) :=
  ev_callB (id := "len") call_len_seq hm PySem.boot_len (eb_cons ha mo_eq eb_nil he) (fun vs H2 x2 rs Q q => by
    obtain ⟨v, r, rfl, hv, hr⟩ := rs
    have e0 : r = [] := hr
    subst e0
    have hv : v = .ref l := hv
    subst hv
    exact ⟨l, xs, rfl, Or.inl (Or.inl (Or.inl (x2 _ _ hl))), q _ H2 (ex_refl H2) (.int _)⟩) hg (by decide) (by decide) he hpl
end
section
variable {P : Program} {w : World} {K : PySem.W.Frag} {mg : Str → Option Value} {base : Heap}
theorem ok_law_program (T : Tx P w K mg base) : C8.Cal P w K mg base 42 "_law_program" (spI 1 (P_prog K) (R_prog K)) [] := by
  refine cal_of T.d_law_program sc_law_program (fun vs H Q E h => h.1) fun f cdv A outer s H vs Q E hr h => ?_
  obtain ⟨_, cs, ⟨v_c, rfl, hcs, hlen⟩, q⟩ := h
  obtain ⟨ca, cxs, rfl, hcL, hcr⟩ := hcs
  have hlen : cs.length ≤ 18 := hlen
  have hcl : cxs.length = cs.length := by rw [hcr.length, List.length_map]
  have hr5 : Room 5 (bX P w K mg base n_law_program "_law_program" s_law_program f cdv A outer s H E).A := hr.mono (by decide)
  refine go_asg 1 (ev_lst1 (R := Tup3 K (fun v H => Rp K H v (.str "")) (fun v H => Rp K H v (.int 0)) (NewR K H [])) (fun v H1 H2 e ⟨p, v1, v2, v3, h1, h2, h3, h4, h5⟩ => ⟨p, v1, v2, v3, h1, (Ex.kt e).sqT h2, h3.ex e, h4.ex e, mo_new _ _ _ e h5⟩) (ev_tup3 mo_rp mo_rp mo_new ev_str ev_int (ev_lst ea_nil))) (fun v_s H1 e1 r_s => ?_) sc_law_program.nd
  obtain ⟨ls, u, rfl, hls0, hls, p, v1, v2, v3, rfl, hT, r1, r2, a0, zs, rfl, ha0, ha0', hz⟩ := r_s
  cases hz
  rw [r1.str_inv, r2.int_inv] at hT
  have na : a0 ≠ ls := by
    rintro rfl
    rw [hls] at ha0'
    cases ha0'
  have st0 : Stk K H1 ls [a0] [("", 0, [])] := ⟨[.ref p], hls, by simp [Ne.symm na], ⟨p, [], rfl, hT, ha0', .nil⟩, trivial⟩
  refine go_forL (R := fun v _ => v = .ref ca) (xs := cxs) 2 PassesOwn.never rfl sc_law_program.nd ((ev_v 0 rfl).imp fun v H2 e2 h => ⟨ca, h, Evl.ex_l (e1.trans e2) hcL, h⟩)
    (fun i σ' H' => ∃ v2 v3 v4 v5 v6 v7, σ' = [some (.ref ca), some (.ref ls), v2, v3, v4, v5, v6, v7] ∧ Ex H H' ∧ ∃ as fs, (∀ a ∈ as, H a = none) ∧ Stk K H' ls as fs ∧ StkOk fs ∧ cntF fs ≤ 3 * i ∧ fs ≠ [] ∧ fs.length ≤ 5) (fun a H2 e2 _ ha => ?_) ?_ ?_
  · obtain rfl := V.ref.inj ha
    exact ⟨⟨none, none, none, none, none, none, rfl, e1.trans e2, [a0], _, fun a h => by rw [List.mem_singleton.mp h]; exact ha0, st0.ex e2, fun i f hi => by
      have : i = 0 := by
        have := (List.getElem?_eq_some_iff.mp hi).1
        simp at this
        omega
      subst this
      obtain rfl := Option.some.inj hi
      exact ⟨trivial, Nat.zero_le _, Nat.zero_le _, Or.inl rfl⟩, Nat.le_refl 0, by simp, by simp⟩, fun i σ' H' _ hq => by
      obtain ⟨_, _, _, _, _, _, _, ex, _⟩ := hq
      exact Evl.ex_l ex hcL⟩
  · rintro i v σ' H' hi ⟨v2, v3, v4, v5, v6, v7, rfl, ex, as, fs, has, st, sok, scn, sne, sln⟩
    have hil : i < 18 := by
      have := (List.getElem?_eq_some_iff.mp hi).1
      omega
    obtain ⟨d, hd, rv⟩ := hcr.get' hi
    rw [List.getElem?_map] at hd
    obtain ⟨c, hc, rfl⟩ := Option.map_eq_some_iff.mp hd
    have rv := rv.ex ex
    refine go_asg 3 (ev_callN (ok_law_row T) hr5 (ea_cons (ev_d 2 rv) (ea_cons ev_int ea_nil)) ⟨c, gRow c, rfl, rfl, rfl⟩) (fun v_r H2 e2 r_r => ?_) sc_law_program.nd
    obtain ⟨gl, low⟩ := gRow_ok c
    obtain ⟨n0, n1, n2, n3, n4, n5, n6, n7, n8, n9, n10, n11, hg⟩ := twelve gl
    have l9 := low n9 (by rw [hg]; simp)
    have l10 := low n10 (by rw [hg]; simp)
    have l11 := low n11 (by rw [hg]; simp)
    have r_l : LsR K ((gRow c).map .int) v_r H2 := r_r.ls
    have gl2 := gl
    generalize hgr : gRow c = ns at *
    subst hg
    have st := st.ex e2
    refine go_asg 4 (ev_mod (ev_ixL (ev_n 3 rfl r_l mo_ls) ev_int (atI_nat (j := 11) rfl)) ev_int (by decide)) (fun v_w H3 e3 r_w => ?_) sc_law_program.nd
    have r_l := mo_ls _ _ _ e3 r_l
    have st := st.ex e3
    have ew := r_w.int_inv
    subst ew
    have ex3 := (ex.trans e2).trans e3
    obtain ⟨xs, hls3, nd3, hF3⟩ := id st
    have hxl := hF3.len.1
    have fin : ∀ {H4 : Hp} {w2 w3 w4 w5 w6 w7 : Option V} {as' : List Addr} {fs' : List Frm}, Ex H H4 → (∀ a ∈ as', H a = none) → Stk K H4 ls as' fs' → StkOk fs' → cntF fs' ≤ 3 * (i + 1) → fs' ≠ [] → fs'.length ≤ 5 → ∃ v2 v3 v4 v5 v6 v7, [some (V.ref ca), some (.ref ls), w2, w3, w4, w5, w6, w7] = [some (.ref ca), some (.ref ls), v2, v3, v4, v5, v6, v7] ∧ Ex H H4 ∧ ∃ as fs, (∀ a ∈ as, H a = none) ∧ Stk K H4 ls as fs ∧ StkOk fs ∧ cntF fs ≤ 3 * (i + 1) ∧ fs ≠ [] ∧ fs.length ≤ 5 := fun g1 g2 g3 g4 g5 g6 g7 => ⟨_, _, _, _, _, _, rfl, g1, _, _, g2, g3, g4, g5, g6, g7⟩
    refine go_if (et_w (ew_and (et_lt (ev_d 4 (.int _)) ev_int) fun _ => ew_and1 (et_lt (ev_lenV hls3 T.m_len (ev_v 1 rfl)) ev_int))) (fun hk H4 e4 => ?_) fun hk H4 e4 => ?_
    · rw [Bool.and_eq_true, decide_eq_true_iff, decide_eq_true_iff] at hk
      obtain ⟨hk1, hk2⟩ := hk
      have hfl : fs.length < 5 := by omega
      obtain ⟨hat, hiw⟩ := cellW_at (n := n11 % 9) (by omega) hk1
      have st := st.ex e4
      have r_l := mo_ls _ _ _ e4 r_l
      refine go_asg 5 (ev_ixL (d := .str (cellW (n11 % 9))) ((ev_lst (ea_cons ev_str (ea_cons ev_str (ea_cons ev_str ea_nil)))).imp fun _ _ _ h => h.ls) (ev_d 4 (.int _)) hat) (fun v_wd H5 e5 r_wd => ?_) sc_law_program.nd
      have ewd := r_wd.str_inv
      subst ewd
      have st := st.ex e5
      have r_l := mo_ls _ _ _ e5 r_l
      obtain ⟨xs5, hls5, nd5, hF5⟩ := id st
      generalize hcw : cellW (n11 % 9) = w0 at *
      refine go_meet (fun σ' H' => ∃ w', σ' = [some (.ref ca), some (.ref ls), some v, some v_r, some (.int (n11 % 9)), some (.str w'), v6, v7] ∧ Ex H5 H' ∧ isWord w')
        (et_w (ew_and (et_eqS (ev_d 5 (.str w0)) ev_str) fun _ => ew_and1 (et_inL (ws := fs.map (·.1)) ev_str (ev_lcG 7 (xs := xs5) (rs := (fs.map (·.1)).map .str) rfl sc_law_program.nd hls5 (ev_v 1 rfl)
          (blkOk_by (N := n_law_program) (sc := C8.fnScope s_law_program) (by decide +kernel)) (fun _ _ _ _ _ => pg_name sc_law_program.nd rfl (by first | exact .inl rfl | exact .inr rfl) (by first | exact .inl rfl | exact .inr rfl)) (by rw [List.length_map, List.length_map]; exact hF5.len.1.symm) (by rw [List.length_map, List.length_map]; omega) fun j H6 x x6 hx => ?_) (fun _ _ h => h.ls)))) (fun _ H6 e6 => ?_) (fun _ H6 e6 => ⟨w0, rfl, e6, hiw⟩) ?_
      · obtain ⟨a, fr, hfr, pp, zz, rfl, hTT, -⟩ := hF5.get hx
        refine ⟨.str fr.1, by rw [List.getElem?_map, List.getElem?_map, hfr]; rfl, fun _ _ _ _ _ => ?_⟩
        exact ev_ixM (R := fun v H => Rp K H v (.str fr.1)) ((ev_v 7 rfl).imp fun u H7 x7 hu => ⟨pp, _, .str fr.1, hu, (Ex.kt (x6.trans x7)).sqT hTT, atI_nat (j := 0) rfl, .str _⟩) mo_rp ev_int
      · refine go_asg 5 ev_str (fun u H7 e7 ru => go_nil ⟨"keep", ?_, e6.trans e7, Or.inr (Or.inl rfl)⟩) sc_law_program.nd
        rw [ru.str_inv]
        rfl
      · rintro σ' H6 ⟨w', rfl, e6, hw'⟩
        have r_l := mo_ls _ _ _ e6 r_l
        have hls6 := e6 _ _ hls5
        obtain ⟨k, hk, hk12⟩ : ∃ k : Nat, n10 % (if n9 % 3 = 2 then 13 else 3) = (k : Int) ∧ k ≤ 12 := by
          refine ⟨(n10 % (if n9 % 3 = 2 then 13 else 3)).toNat, ?_, ?_⟩
          · split <;> omega
          · split <;> omega
        have hat3 : atI [PyData.int 3, .int 3, .int 13] (n9 % 3) = some (.int (if n9 % 3 = 2 then 13 else 3)) := by
          rcases (show n9 % 3 = 0 ∨ n9 % 3 = 1 ∨ n9 % 3 = 2 by omega) with h | h | h <;> (rw [h]; rfl)
        refine go_app (R := Tup3 K (fun v H => Rp K H v (.str w')) (fun v H => Rp K H v (.int k)) (NewR K H6 [])) hls6 (ev_v 1 rfl) (ev_tup3 mo_rp mo_rp mo_new (ev_d 5 (.str w')) ((ev_mod (ev_ixL (ev_n 3 rfl r_l mo_ls) ev_int (atI_nat (j := 10) rfl)) (ev_ixL ((ev_lst (ea_cons ev_int (ea_cons ev_int (ea_cons ev_int ea_nil)))).imp fun _ _ _ h => h.ls) (ev_mod (ev_ixL (ev_n 3 rfl r_l mo_ls) ev_int (atI_nat (j := 9) rfl)) ev_int (by decide)) hat3) (by split <;> decide)).cast (congrArg PyData.int hk)) (ev_lst ea_nil)) (by rw [hF5.len.1]; omega) fun u H7 e7 ru => go_nil (go_nil ?_)
        have ex6 := ((ex3.trans e4).trans e5).trans e6
        obtain ⟨a, ha, hst⟩ := frm_new hls0 has ex6 (st.ex e6) e7 ru
        refine fin ?_ (fun b hb => ?_) (hst xs5 (e7 _ _ hls6)) (stkOk_snoc sok ⟨trivial, hk12, by show 0 + fs.length ≤ 4; omega, Or.inr hw'⟩) ?_ (by simp) (by rw [List.length_append, List.length_singleton]; omega)
        · exact Evl.Ex.mut (ex6.trans e7) hls0
        · rcases List.mem_append.mp hb with hb | hb
          · exact has b hb
          · rw [List.mem_singleton.mp hb]; exact ha
        · rw [cntF_app, cntF_one]
          show cntF fs + 0 ≤ _
          omega
    · have st := st.ex e4
      have r_l := mo_ls _ _ _ e4 r_l
      have hls4 := e4 _ _ hls3
      refine go_if (et_w (ew_and (et_eqI (ev_d 4 (.int _)) ev_int) fun _ => ew_and1 (et_gt (ev_lenV hls4 T.m_len (ev_v 1 rfl)) ev_int))) (fun hk H5 e5 => ?_) fun hk H5 e5 => ?_
      · rw [Bool.and_eq_true, decide_eq_true_iff, decide_eq_true_iff] at hk
        have hk2 := hk.2
        obtain ⟨ci, hci⟩ := PrI.close (c := 3 * i) ((ex3.trans e4).trans e5) hls0 (by omega) has (st.ex e5) sok scn sln (by omega)
        refine go_callM ci (ok_law_close T) hr (EvA.imp (eb_cons (R := fun v _ => v = .ref ls) (ev_v 1 rfl) mo_eq eb_nil) fun vs H6 x6 hv => ?_) fun H6 u H7 x6 hR => go_nil (go_nil (go_nil ?_))
        · obtain ⟨u, r, rfl, hu, hr0⟩ := hv
          have hr0 : r = [] := hr0
          subst hr0
          rw [show u = .ref ls from hu]
          exact ⟨rfl, (hci H6 x6).1⟩
        · obtain ⟨exx, as', fs', g1, g2, g3, g4, g5⟩ := (hci H6 x6).2 u H7 hR
          exact fin exx g1 g2 g3 (by omega) (fun z => by rw [z] at g5; simp at g5; omega) (by omega)
      · have st := st.ex e5
        have r_l := mo_ls _ _ _ e5 r_l
        obtain ⟨fs0, fr, rfl⟩ : ∃ fs0 fr, fs = fs0 ++ [fr] := ⟨_, _, (List.dropLast_concat_getLast sne).symm⟩
        obtain ⟨as0, a, rfl⟩ : ∃ as0 a, as = as0 ++ [a] := by
          have hal := hF3.len.2
          have : as ≠ [] := fun z => by rw [z] at hal; simp at hal
          exact ⟨_, _, (List.dropLast_concat_getLast this).symm⟩
        obtain ⟨pg, zg, xs0, k1, k2, k3, k4, k5⟩ := st.push
        have hlast : atI (xs0 ++ [V.ref pg]) (-1) = some (.ref pg) := atI_last List.getLast?_concat
        obtain ⟨o1, o2, o3, o4⟩ := stkOk_last sok
        have hcf : gCnt fr.2.2 ≤ 3 * i := Nat.le_trans (cntF_mem (by simp)) scn
        have hfl := len_cnt fr.2.2
        refine go_app (R := fun v H' => ∃ row, isPlain row = true ∧ RowOk row ∧ Rp K H' v (dR row)) k3 (ev_ixM (R := fun v _ => v = .ref a) (((ev_ixV k1 (ev_v 1 rfl) (ev_neg ev_int) hlast).at).imp fun u H6 x6 hu => ⟨pg, _, .ref a, hu.1, (Ex.kt hu.2).sqT k2, atI_nat (j := 2) rfl, rfl⟩) mo_eq ev_int)
          (ev_callI [n0, n1, n2, n3, n4, n5, n6, n7, n8, n9, n10, n11] (ok_law_plain T) hr (EvA.imp (eb_cons (ev_n 3 rfl r_l mo_ls) mo_ls eb_nil) fun vs H6 x6 hv => ?_) fun H6 u H7 x6 x7 hu => hu) (by omega) fun u H6 e6 ru => go_nil (go_nil (go_nil ?_))
        · obtain ⟨u, r, rfl, hu, hr0⟩ := hv
          have hr0 : r = [] := hr0
          subst hr0
          exact ⟨rfl, u, rfl, hu, gl2, low⟩
        · obtain ⟨row, hpl, rok, rr⟩ := ru
          have ex6 := ((ex3.trans e4).trans e5).trans e6
          refine fin ?_ has (k5 H6 u row e6 rr) (stkOk_snoc (stkOk_init sok) ⟨rowsOk_app o1 ⟨rok, trivial⟩, o2, ?_, o4⟩) ?_ (by simp) (by rw [List.length_append, List.length_singleton]; rw [List.length_append, List.length_singleton] at sln; exact sln)
          · exact Evl.Ex.mut ex6 (has a (by simp))
          · show gDep (fr.2.2 ++ [row]) + fs0.length ≤ 4
            rw [dep_app]
            have : gDep1 row = 0 := by cases row <;> first | rfl | cases hpl
            show max (gDep fr.2.2) (max (gDep1 row) 0) + fs0.length ≤ 4
            omega
          · rw [cntF_app, cntF_one] at scn
            rw [cntF_app, cntF_one]
            show cntF fs0 + gCnt (fr.2.2 ++ [row]) ≤ _
            rw [cnt_app, cnt_one]
            have : gCnt1 row = 1 := by cases row <;> first | rfl | cases hpl
            omega
  · rintro σ' H' ⟨v2, v3, v4, v5, v6, v7, rfl, ex, as, fs, has, st, sok, scn, sne, sln⟩
    refine go_while PassesOwn.never (fun m σ2 H2 => σ2 = [some (.ref ca), some (.ref ls), v2, v3, v4, v5, v6, v7] ∧ Ex H H2 ∧ ∃ as fs, (∀ a ∈ as, H a = none) ∧ Stk K H2 ls as fs ∧ StkOk fs ∧ cntF fs + 3 * m ≤ 69 ∧ fs ≠ [] ∧ fs.length ≤ 5 ∧ fs.length = m) fs.length ⟨rfl, ex, as, fs, has, st, sok, by omega, sne, sln, rfl⟩ ?_
    rintro m σ2 H2 ⟨rfl, ex, as, fs, has, st, sok, scn, sne, sln, rfl⟩
    obtain ⟨xs, hls2, nd2, hF2⟩ := id st
    have hxl := hF2.len.1
    refine ⟨_, et_gt (ev_lenV hls2 T.m_len (ev_v 1 rfl)) ev_int, fun hk H3 e3 => ?_, fun hk H3 e3 => ?_⟩
    · have hk := of_decide_eq_true hk
      obtain ⟨ci, hci⟩ := PrI.close (c := cntF fs) (ex.trans e3) hls0 (by omega) has (st.ex e3) sok (Nat.le_refl _) sln (by omega)
      refine go_callM ci (ok_law_close T) hr (EvA.imp (eb_cons (R := fun v _ => v = .ref ls) (ev_v 1 rfl) mo_eq eb_nil) fun vs H6 x6 hv => ?_) fun H6 u H7 x6 hR => go_nil ?_
      · obtain ⟨u, r, rfl, hu, hr0⟩ := hv
        have hr0 : r = [] := hr0
        subst hr0
        rw [show u = .ref ls from hu]
        exact ⟨rfl, (hci H6 x6).1⟩
      · obtain ⟨exx, as', fs', g1, g2, g3, g4, g5⟩ := (hci H6 x6).2 u H7 hR
        exact ⟨fs'.length, by omega, rfl, exx, as', fs', g1, g2, g3, by omega, fun z => by rw [z] at g5; simp at g5; omega, by omega, rfl⟩
    · have hk := of_decide_eq_false hk
      have hf1 : fs.length = 1 := by
        have := List.length_pos_iff.mpr sne
        omega
      obtain ⟨fr, rfl⟩ := List.length_eq_one_iff.mp hf1
      obtain ⟨o1, o2, o3, o4⟩ := sok 0 fr rfl
      have st := st.ex e3
      obtain ⟨xs3, hls3, nd3, hF3⟩ := id st
      obtain ⟨l1, l2⟩ := hF3.len
      obtain ⟨x3, rfl⟩ := List.length_eq_one_iff.mp (show xs3.length = 1 from l1)
      obtain ⟨a, rfl⟩ := List.length_eq_one_iff.mp (show as.length = 1 from l2)
      obtain ⟨⟨pf, zs, rfl, hTf, haz, hzr⟩, -⟩ := hF3
      have han : H a = none := has a (by simp)
      refine go_asg 6 (R := fun v _ => v = .ref a) (ev_ixM (((ev_ixV hls3 (ev_v 1 rfl) ev_int (atI_nat (j := 0) rfl)).at).imp fun u H6 x6 hu => ⟨pf, _, .ref a, hu.1, (Ex.kt hu.2).sqT hTf, atI_nat (j := 2) rfl, rfl⟩) mo_eq ev_int) (fun v_rows H4 e4 r_rows => ?_) sc_law_program.nd
      have er : v_rows = .ref a := r_rows
      subst er
      refine go_while PassesOwn.never (fun m σ2 H5 => σ2 = [some (.ref ca), some (.ref ls), v2, v3, v4, v5, some (.ref a), v7] ∧ Ex H H5 ∧ ∃ rs zs, rs.length = m ∧ H5 a = some (.lst zs) ∧ RpL K H5 zs (dRs rs) ∧ RowsOk rs ∧ gDep rs ≤ 4) fr.2.2.length ⟨rfl, (ex.trans e3).trans e4, fr.2.2, zs, rfl, e4 _ _ haz, hzr.ex e4, o1, by omega⟩ ?_
      rintro m σ2 H5 ⟨rfl, ex5, rs, zs, rfl, hza, hzr, rok, rdep⟩
      have tr : TrR K a (dRs rs) (.ref a) H5 := ⟨rfl, zs, hza, hzr⟩
      refine ⟨_, et_gt (ev_dn (ok_law_done T 4) hr5 (ev_tr 6 tr) sq_tr rok rdep (by decide)) ev_int, fun hk H6 e6 => ?_, fun hk H6 e6 => ?_⟩
      · have hk : (300 : Int) < (gDone rs : Int) := of_decide_eq_true hk
        have rne : rs ≠ [] := fun z => by rw [z] at hk; exact absurd hk (by decide)
        have zl : zs.length = rs.length := by rw [hzr.length, dRs_len]
        have zne : zs ≠ [] := fun z => rne (by rw [z] at zl; exact List.eq_nil_of_length_eq_zero zl.symm)
        refine go_popS (e6 _ _ hza) zne (ev_v 6 rfl) fun H7 e7 => go_nil ?_
        have kt := KT.lst (o := .lst zs.dropLast) (e7 _ _ (e6 _ _ hza))
        refine ⟨rs.dropLast.length, by rw [List.length_dropLast]; have := List.length_pos_iff.mpr rne; omega, rfl, Evl.Ex.mut ((ex5.trans e6).trans e7) han, rs.dropLast, zs.dropLast, rfl, upd_same, ?_, rowsOk_init rok, Nat.le_trans (dep_init rs) rdep⟩
        rw [← dRs_dropLast]
        exact RpL.kt kt _ _ (rpl_dropLast ((hzr.ex e6).ex e7))
      · have hk : ¬ (300 : Int) < (gDone rs : Int) := of_decide_eq_false hk
        have tr := mo_tr _ _ _ e6 tr
        exact go_ret (ev_tupOf T.m_tuple ((ev_tr 6 tr).imp fun _ _ _ h => TrR.ls h)) fun v H7 e7 rv => q v H7 ((ex5.trans e6).trans e7) ⟨rs, rok, rdep, by omega, rv⟩
/-! ### some rows of it -/
def P_some (K : PySem.W.Frag) (cs : List Int) : List V → Hp → Prop := fun vs H => ∃ v, vs = [v, .int 14] ∧ LsR K (cs.map .int) v H ∧ cs.length ≤ 18
def R_some (K : PySem.W.Frag) (_ : List Int) (_ : Hp) : V → Hp → Prop := fun v H' => ∃ rs, RowsOk rs ∧ gDep rs ≤ 4 ∧ gDone rs ≤ 14 ∧ Rp K H' v (.tuple (dRs rs))
theorem ok_law_some (T : Tx P w K mg base) : C8.Cal P w K mg base 43 "_law_some" (spI 2 (P_some K) (R_some K)) [] := by
  refine cal_of T.d_law_some sc_law_some (fun vs H Q E h => h.1) fun f cdv A outer s H vs Q E hr h => ?_
  obtain ⟨_, cs, ⟨v_c, rfl, hcs, hlen⟩, q⟩ := h
  have hcs : LsR K (cs.map .int) v_c H := hcs
  have hr5 : Room 5 (bX P w K mg base n_law_some "_law_some" s_law_some f cdv A outer s H E).A := hr.mono (by decide)
  refine go_asg 2 (R := fun v H' => ∃ rs, RowsOk rs ∧ gDep rs ≤ 4 ∧ gDone rs ≤ 300 ∧ Rp K H' v (.tuple (dRs rs))) (ev_callI cs (ok_law_program T) hr (EvA.imp (eb_cons (ev_n 0 rfl hcs mo_ls) mo_ls eb_nil) fun vs H6 x6 hv => ?_) fun H6 u H7 x6 x7 hu => hu) (fun v_r H1 e1 r_r => ?_) sc_law_some.nd
  · obtain ⟨u, r, rfl, hu, hr0⟩ := hv
    have hr0 : r = [] := hr0
    subst hr0
    exact ⟨rfl, u, rfl, hu, hlen⟩
  · obtain ⟨rs, rok, rdep, -, rr⟩ := r_r
    refine go_while PassesOwn.never (fun m σ2 H5 => ∃ v rs, σ2 = [some v_c, some (.int 14), some v] ∧ Ex H H5 ∧ rs.length = m ∧ Rp K H5 v (.tuple (dRs rs)) ∧ RowsOk rs ∧ gDep rs ≤ 4) rs.length ⟨v_r, rs, rfl, e1, rfl, rr, rok, rdep⟩ ?_
    rintro m σ2 H5 ⟨v, rs, rfl, ex5, rfl, rr, rok, rdep⟩
    refine ⟨_, et_gt (ev_dn (ok_law_done T 4) hr5 (ev_d 2 rr) sq_of_rp rok rdep (by decide)) (ev_d 1 (.int 14)), fun hk H6 e6 => ?_, fun hk H6 e6 => ?_⟩
    · have hk : (14 : Int) < (gDone rs : Int) := of_decide_eq_true hk
      have rne : rs ≠ [] := fun z => by rw [z] at hk; exact absurd hk (by decide)
      have dne : dRs rs ≠ [] := fun z => by have := dRs_len rs; rw [z] at this; exact rne (List.eq_nil_of_length_eq_zero this.symm)
      refine go_asg 2 (ev_initT (ev_d 2 (rr.ex e6)) dne) (fun v2 H7 e7 r2 => go_nil ⟨rs.dropLast.length, by rw [List.length_dropLast]; have := List.length_pos_iff.mpr rne; omega, v2, rs.dropLast, rfl, (ex5.trans e6).trans e7, rfl, ?_, rowsOk_init rok, Nat.le_trans (dep_init rs) rdep⟩) sc_law_some.nd
      rw [dRs_dropLast] at r2
      exact r2
    · have hk : ¬ (14 : Int) < (gDone rs : Int) := of_decide_eq_false hk
      exact go_ret (ev_d 2 (rr.ex e6)) fun u H7 e7 ru => q u H7 ((ex5.trans e6).trans e7) ⟨rs, rok, rdep, by omega, ru⟩
end
end Ar
set_option maxHeartbeats 4000000
/-! Walk of the law: points to be asked. -/
namespace Ar
open PySem L2
theorem hp_amid (p q : Pt) : hp (gAmid p q) ≤ hp p + hp q + 6 := by
  have h := half_ht
  have h1 := ht_add p.1 q.1
  have h2 := ht_add p.2 q.2
  have h3 := ht_mul (p.1 + q.1) (1 / 2)
  have h4 := ht_mul (p.2 + q.2) (1 / 2)
  show ht ((p.1 + q.1) * (1 / 2)) + ht ((p.2 + q.2) * (1 / 2)) ≤ ht p.1 + ht p.2 + (ht q.1 + ht q.2) + 6
  omega
theorem legG_hp {l : Leg} (h : LegG l) : hp (gBegin l) ≤ 3000 ∧ hp (gEnd l) ≤ 3000 := by
  cases l with
  | str a b => exact ⟨h.2.1, h.2.2⟩
  | bend c a b way => exact ⟨h.2.2.1, h.2.2.2⟩
section
variable {P : Program} {w : World} {K : PySem.W.Frag} {mg : Str → Option Value} {base : Heap}
def PtsB (n : Nat) (ps : List Pt) : Prop := ps.length ≤ n ∧ ∀ p ∈ ps, hp p ≤ 20000
theorem PtsB.app {n m : Nat} {ps qs : List Pt} (h : PtsB n ps) (g : PtsB m qs) : PtsB (n + m) (ps ++ qs) := ⟨by rw [List.length_append]; have := h.1; have := g.1; omega, fun p hp => by
  rcases List.mem_append.mp hp with hp | hp
  · exact h.2 p hp
  · exact g.2 p hp⟩
def P_pts (K : PySem.W.Frag) (i : List Int × List (List Leg)) : List V → Hp → Prop := fun vs H => ∃ v u, vs = [v, u] ∧ LsR K (i.1.map .int) v H ∧ i.1.length = 12 ∧ Low i.1 ∧ LL K (i.2.map dLs) u H ∧ (∀ l ∈ i.2.flatten, LegG l) ∧ i.2.flatten.length ≤ 1000
def R_pts (K : PySem.W.Frag) (_ : List Int × List (List Leg)) (H : Hp) : V → Hp → Prop := fun v H' => ∃ ps, PtsB 30 ps ∧ NewR K H (ps.map dP) v H'
/-- a list that grows by being made anew -/
def Gr (K : PySem.W.Frag) (H : Hp) (l : Addr) (ds : List PyData) (H' : Hp) : Prop := H l = none ∧ TrR K l ds (.ref l) H'
theorem Gr.ex {H H' H2 : Hp} {l : Addr} {ds : List PyData} (h : Gr K H l ds H') (e : Ex H' H2) : Gr K H l ds H2 := ⟨h.1, mo_tr _ _ _ e h.2⟩
theorem gr_new {H0 H H' : Hp} {ds : List PyData} {v : V} (x : Ex H0 H) (h : NewR K H ds v H') : ∃ l, v = .ref l ∧ Gr K H0 l ds H' := by
  obtain ⟨p, xs, rfl, h1, h2, h3⟩ := h
  exact ⟨p, rfl, Evl.fresh_back x h1, rfl, xs, h2, h3⟩
theorem Gr.new {H H' : Hp} {l : Addr} {ds : List PyData} (h : Gr K H l ds H') : NewR K H ds (.ref l) H' := by
  obtain ⟨h0, _, xs, h2, h3⟩ := h
  exact ⟨l, xs, rfl, h0, h2, h3⟩
theorem row_at {ns : List Int} (h : ns.length = 12) (low : Low ns) {k : Nat} (hk : k < 4) : ∃ n, atI (ns.map PyData.int) (6 + (k : Int)) = some (.int n) ∧ 0 ≤ n ∧ n < 1000000 := by
  have hl : 6 + k < ns.length := by omega
  have e : ns[6 + k]? = some ns[6 + k] := List.getElem?_eq_getElem hl
  have m := low _ (List.mem_of_getElem? e)
  refine ⟨ns[6 + k], ?_, m.1, m.2⟩
  have := atI_nat (xs := ns.map PyData.int) (j := 6 + k) (v := .int ns[6 + k]) (by rw [List.getElem?_map, e]; rfl)
  rw [Int.natCast_add] at this
  exact this
theorem at_mod {α : Type} {l : List α} (n : Int) (h : 0 < l.length) : ∃ x, x ∈ l ∧ atI l (n % (l.length : Int)) = some x := by
  have h1 := Int.emod_nonneg n (show (l.length : Int) ≠ 0 by omega)
  have h2 := Int.emod_lt_of_pos n (show (0 : Int) < (l.length : Int) by omega)
  obtain ⟨k, hk⟩ := Int.eq_ofNat_of_zero_le h1
  have hk2 : k < l.length := by omega
  have e : l[k]? = some l[k] := List.getElem?_eq_getElem hk2
  refine ⟨l[k], List.mem_of_getElem? e, ?_⟩
  rw [hk]
  exact atI_nat e
theorem ok_law_points (T : Tx P w K mg base) : C8.Cal P w K mg base 36 "_law_points" (spI 2 (P_pts K) (R_pts K)) [] := by
  refine cal_of T.d_law_points sc_law_points (fun vs H Q E h => h.1) fun f cdv A outer s H vs Q E hr h => ?_
  obtain ⟨_, ⟨ns, lls⟩, ⟨v_r, v_s, rfl, r_r, hlen, low, r_s, hleg, htot⟩, q⟩ := h
  have r_r : LsR K (ns.map .int) v_r H := r_r
  have r_0 := r_r
  have hlen : ns.length = 12 := hlen
  have low : Low ns := low
  have hleg : ∀ l ∈ lls.flatten, LegG l := hleg
  have htot : lls.flatten.length ≤ 1000 := htot
  have q : ∀ v H', Ex H H' → (∃ ps, PtsB 30 ps ∧ NewR K H (ps.map dP) v H') → Q v H' := q
  obtain ⟨n0, n1, n2, n3, n4, n5, n6, n7, n8, n9, n10, n11, hns⟩ := twelve hlen
  have l0 := low n0 (by rw [hns]; simp)
  have l2 := low n2 (by rw [hns]; simp)
  have g0 : atI (ns.map PyData.int) 0 = some (.int n0) := by rw [hns]; exact atI_nat (j := 0) rfl
  have g1 : atI (ns.map PyData.int) 1 = some (.int n1) := by rw [hns]; exact atI_nat (j := 1) rfl
  have g2 : atI (ns.map PyData.int) 2 = some (.int n2) := by rw [hns]; exact atI_nat (j := 2) rfl
  have g3 : atI (ns.map PyData.int) 3 = some (.int n3) := by rw [hns]; exact atI_nat (j := 3) rfl
  have g4 : atI (ns.map PyData.int) 4 = some (.int n4) := by rw [hns]; exact atI_nat (j := 4) rfl
  have g5 : atI (ns.map PyData.int) 5 = some (.int n5) := by rw [hns]; exact atI_nat (j := 5) rfl
  refine go_asg 2 (R := NewR K H [dP (gDrawn n0 n1, gDrawn n2 n3)]) (ev_lst (ds := [dP (gDrawn n0 n1, gDrawn n2 n3)]) (ea_cons (ev_tup (ea_cons (ev_call (ok_law_drawn T) hr (ea_cons (ev_ixL (ev_n 0 rfl r_r mo_ls) ev_int g0) (ea_cons (ev_ixL (ev_n 0 rfl r_r mo_ls) ev_int g1) ea_nil)) ⟨n0, n1, rfl, l0, rfl⟩) (ea_cons (ev_call (ok_law_drawn T) hr (ea_cons (ev_ixL (ev_n 0 rfl r_r mo_ls) ev_int g2) (ea_cons (ev_ixL (ev_n 0 rfl r_r mo_ls) ev_int g3) ea_nil)) ⟨n2, n3, rfl, l2, rfl⟩) ea_nil))) ea_nil)) (fun v_f H1 e1 r_f => ?_) sc_law_points.nd
  obtain ⟨lf, rfl, gf⟩ := Grow.of (ex_refl H) r_f e1
  have r_r := mo_ls _ _ _ e1 r_r
  have hi4 : (ht ((n4 % 9 - 4 : Int) : Rat)) ≤ 4 := ht_int (by omega) (by decide)
  have hi5 : (ht ((n5 % 9 - 4 : Int) : Rat)) ≤ 4 := ht_int (by omega) (by decide)
  refine go_appG (d := dP (((n4 % 9 - 4 : Int) : Rat), ((n5 % 9 - 4 : Int) : Rat))) gf (ev_v 2 rfl) (ev_tup (ea_cons ((ev_tup (ea_cons (ev_sub (ev_mod (ev_ixL (ev_n 0 rfl r_r mo_ls) ev_int g4) ev_int (by decide)) ev_int) (ea_cons ev_int ea_nil))).cast (show _ = dQ ((n4 % 9 - 4 : Int) : Rat) from rfl)) (ea_cons ((ev_tup (ea_cons (ev_sub (ev_mod (ev_ixL (ev_n 0 rfl r_r mo_ls) ev_int g5) ev_int (by decide)) ev_int) (ea_cons ev_int ea_nil))).cast (show _ = dQ ((n5 % 9 - 4 : Int) : Rat) from rfl)) ea_nil))) (by show 1 ≤ 90000; omega) fun H2 k2 gf2 => ?_
  have ex2 : Ex H H2 := gf2.2.1
  have b2 : PtsB 2 [(gDrawn n0 n1, gDrawn n2 n3), (((n4 % 9 - 4 : Int) : Rat), ((n5 % 9 - 4 : Int) : Rat))] := ⟨Nat.le_refl _, fun p hp => by
    have d1 := ht_drawn (a := n0) (b := n1)
    have d2 := ht_drawn (a := n2) (b := n3)
    simp only [List.mem_cons, List.not_mem_nil, or_false] at hp
    rcases hp with rfl | rfl
    · rw [hp_mk]; omega
    · rw [hp_mk]; omega⟩
  have gf2 : Gr K H lf ([(gDrawn n0 n1, gDrawn n2 n3), (((n4 % 9 - 4 : Int) : Rat), ((n5 % 9 - 4 : Int) : Rat))].map dP) H2 := ⟨gf2.1, gf2.tr⟩
  generalize [(gDrawn n0 n1, gDrawn n2 n3), (((n4 % 9 - 4 : Int) : Rat), ((n5 % 9 - 4 : Int) : Rat))] = ps0 at *
  refine go_asg 3 (ev_lst ea_nil) (fun v_l H3 e3 r_l => ?_) sc_law_points.nd
  obtain ⟨ll, rfl, gl⟩ := gr_new ex2 r_l
  have ex3 := ex2.trans e3
  obtain ⟨sa, sxs, rfl, s1, s2, s3⟩ := r_s
  refine go_forL (R := fun v _ => v = .ref sa) (xs := sxs) 4 PassesOwn.never rfl sc_law_points.nd ((ev_v 1 rfl).imp fun v H4 e4 h => ⟨sa, h, Evl.ex_l (ex3.trans e4) s1, h⟩)
    (fun i σ' H' => ∃ l v4, σ' = [some v_r, some (.ref sa), some (.ref lf), some (.ref l), v4, none, none, none, none, none, none] ∧ Ex H3 H' ∧ Gr K H l ((lls.take i).flatten.map dL) H') (fun a H4 e4 _ ha => ?_) ?_ ?_
  · obtain rfl := V.ref.inj ha
    exact ⟨⟨ll, none, rfl, e4, gl.ex e4⟩, fun i σ' H' _ hq => by
      obtain ⟨_, _, _, ex, _⟩ := hq
      exact Evl.ex_l (ex3.trans ex) s1⟩
  · rintro i v σ' H' hi ⟨l, v4, rfl, ex, gl⟩
    obtain ⟨ds, hds, hls⟩ := s3 i v hi
    rw [List.getElem?_map] at hds
    obtain ⟨st, hst, rfl⟩ := Option.map_eq_some_iff.mp hds
    have hls := mo_ls _ _ _ (ex3.trans ex) hls
    have e0 : (lls.take (i + 1)).flatten = (lls.take i).flatten ++ st := by rw [take_succ_some hst, List.flatten_append]; simp
    have tot : (lls.take (i + 1)).flatten.length ≤ 1000 := by
      have : (lls.take (i + 1)).flatten.length + (lls.drop (i + 1)).flatten.length = lls.flatten.length := by rw [← List.length_append, ← List.flatten_append, List.take_append_drop]
      omega
    rw [e0, List.length_append] at tot
    refine go_asg 3 (ev_cat (ds := (lls.take i).flatten.map dL) (es := st.map dL) (ev_tr 3 gl.2) (ev_lstOf T.m_list (ev_n 4 rfl hls mo_ls)) mo_tr tr_lst new_lst (by rw [List.length_map, List.length_map]; omega)) (fun u H4 e4 ru => go_nil ?_) sc_law_points.nd
    obtain ⟨l', rfl, gl'⟩ := gr_new (ex3.trans ex) ru
    refine ⟨l', _, rfl, ex.trans e4, ?_⟩
    rw [e0, List.map_append]
    exact gl'
  · rintro σ' H' ⟨l, v4, rfl, ex, gl⟩
    have hsl : sxs.length = lls.length := by rw [s2, List.length_map]
    rw [hsl, List.take_length] at gl
    have gf2 := (gf2.ex e3).ex ex
    have exH := ex3.trans ex
    have r_r := mo_ls _ _ _ exH r_0
    generalize hlg : lls.flatten = legs at *
    refine go_forR 5 (n := (if (legs.length : Int) < 4 then (legs.length : Int) else 4)) PassesOwn.never rfl sc_law_points.nd T.m_range (ev_min2 rfl T.m_min ev_int ((ev_lenL T.m_len ((ev_tr 3 gl.2).imp fun _ _ _ h => TrR.ls h)).cast (by rw [List.length_map]))) (by split <;> omega)
      (fun k σ2 H5 => ∃ lf v5 v6 v7 v8 v9 v10 ps, σ2 = [some v_r, some (.ref sa), some (.ref lf), some (.ref l), v4, v5, v6, v7, v8, v9, v10] ∧ Ex H' H5 ∧ PtsB (2 + 5 * k) ps ∧ Gr K H lf (ps.map dP) H5) (fun H5 e5 => ⟨lf, none, none, none, none, none, none, ps0, rfl, e5, b2, gf2.ex e5⟩) ?_ ?_ (by split <;> omega)
    · rintro k σ2 H5 hk ⟨lf, v5, v6, v7, v8, v9, v10, ps, rfl, e5, bp, gf⟩
      have hk4 : k < 4 := by split at hk <;> omega
      have hpos : 0 < (legs.map dL).length := by rw [List.length_map]; split at hk <;> omega
      obtain ⟨n, hn, hn0, hn1⟩ := row_at hlen low hk4
      have r_r := mo_ls _ _ _ e5 r_r
      have gl := gl.ex e5
      obtain ⟨dl, hdl, hat⟩ := at_mod (l := legs.map dL) n hpos
      obtain ⟨leg, hlm, rfl⟩ := List.mem_map.mp hdl
      have lg := hleg leg hlm
      obtain ⟨hb, he⟩ := legG_hp lg
      refine go_asg 6 (ev_ixL ((ev_tr 3 gl.2).imp fun _ _ _ h => TrR.ls h) (ev_mod (ev_ixL (ev_n 0 rfl r_r mo_ls) (ev_add ev_int (ev_d 5 (.int _))) hn) (ev_lenL T.m_len ((ev_tr 3 gl.2).imp fun _ _ _ h => TrR.ls h)) (by omega)) hat) (fun v_g H6 e6 r_g => ?_) sc_law_points.nd
      refine go_unp [7, 8] (ev_call (ok_law_ends T) hr (ea_cons (ev_d 6 r_g) ea_nil) ⟨leg, rfl, rfl⟩) rfl sc_law_points.nd (nm_cons 7 (nm_cons 8 NmAt.nil)) fun vs H7 e7 rs => ?_
      obtain ⟨v_a, v_b, rfl, r_a, r_b⟩ := inv2 rs
      have r_r := mo_ls _ _ _ (e6.trans e7) r_r
      have r_g := r_g.ex e7
      refine go_par 9 10 (ev_call (ok_law_ratio T) hr (ea_cons (ev_sub (ev_mod (ev_div (ev_ixL (ev_n 0 rfl r_r mo_ls) (ev_add ev_int (ev_d 5 (.int _))) hn) ev_int ⟨by decide, by decide⟩) ev_int (by decide)) ev_int) (ea_cons ev_int ea_nil)) ⟨_, _, rfl, by decide, rfl⟩) mo_rp (ev_call (ok_law_ratio T) hr (ea_cons (ev_sub (ev_mod (ev_div (ev_ixL (ev_n 0 rfl r_r mo_ls) (ev_add ev_int (ev_d 5 (.int _))) hn) ev_int ⟨by decide, by decide⟩) ev_int (by decide)) ev_int) (ea_cons ev_int ea_nil)) ⟨_, _, rfl, by decide, rfl⟩) rfl sc_law_points.nd fun v_x v_y H8 e8 r_x r_y => ?_
      have hx : ht (Rat.divInt (n / 1000 % 9 - 4) 7) ≤ 4 := ht_di (by omega) (by decide) (by decide) (by decide)
      have hy : ht (Rat.divInt (n / 9000 % 9 - 4) 11) ≤ 4 := ht_di (by omega) (by decide) (by decide) (by decide)
      generalize Rat.divInt (n / 1000 % 9 - 4) 7 = x at *
      generalize Rat.divInt (n / 9000 % 9 - 4) 11 = y at *
      have r_a := r_a.ex e8
      have r_b := r_b.ex e8
      have r_g := r_g.ex e8
      have gf := ((gf.ex e6).ex e7).ex e8
      have ma := hp_amid (gBegin leg) (gEnd leg)
      have a1 := ht_1 (gBegin leg)
      have a2 := ht_2 (gBegin leg)
      have s1' := ht_add (gBegin leg).1 x
      have s2' := ht_add (gBegin leg).2 y
      have ex8 := ((exH.trans e5).trans (e6.trans e7)).trans e8
      refine go_asg 2 (R := NewR K H8 (ps.map dP ++ [dP (gBegin leg), dP (gAmid (gBegin leg) (gEnd leg)), dP ((gBegin leg).1 + x, (gBegin leg).2 + y)])) (ev_cat (ev_tr 2 gf.2) (ev_lst (ds := [dP (gBegin leg), dP (gAmid (gBegin leg) (gEnd leg)), dP ((gBegin leg).1 + x, (gBegin leg).2 + y)]) (by
          refine ea_cons (ev_d 7 r_a) ?_
          refine ea_cons (ev_call (ok_law_amid T) hr (ea_cons (ev_d 7 r_a) (ea_cons (ev_d 8 r_b) ea_nil)) ⟨_, _, rfl, by omega, rfl⟩) ?_
          exact ea_cons (ev_tup (ea_cons (ev_call (ok_law_plus T) hr (ea_cons (ev_ix (ev_d 7 r_a) ev_int) (ea_cons (ev_d 9 r_x) ea_nil)) ⟨(gBegin leg).1, x, rfl, by omega, rfl⟩) (ea_cons (ev_call (ok_law_plus T) hr (ea_cons (ev_ix (ev_d 7 r_a) ev_int) (ea_cons (ev_d 10 r_y) ea_nil)) ⟨(gBegin leg).2, y, rfl, by omega, rfl⟩) ea_nil))) ea_nil)) mo_tr tr_lst new_lst (by rw [List.length_map]; have := bp.1; show ps.length + 3 ≤ 100000; omega)) (fun v_n H9 e9 r_n => ?_) sc_law_points.nd
      obtain ⟨l9, rfl, g9⟩ := gr_new ex8 r_n
      have bp3 : PtsB (2 + 5 * k + 3) (ps ++ [gBegin leg, gAmid (gBegin leg) (gEnd leg), ((gBegin leg).1 + x, (gBegin leg).2 + y)]) := bp.app ⟨Nat.le_refl _, fun p hp => by
        simp only [List.mem_cons, List.not_mem_nil, or_false] at hp
        rcases hp with rfl | rfl | rfl
        · omega
        · omega
        · rw [hp_mk]; omega⟩
      have g3 : Gr K H l9 ((ps ++ [gBegin leg, gAmid (gBegin leg) (gEnd leg), ((gBegin leg).1 + x, (gBegin leg).2 + y)]).map dP) H9 := by rw [List.map_append]; exact g9
      clear g9 r_n
      generalize ps ++ [gBegin leg, gAmid (gBegin leg) (gEnd leg), ((gBegin leg).1 + x, (gBegin leg).2 + y)] = ps3 at *
      have r_g := r_g.ex e9
      have r_a := r_a.ex e9
      have e59 : Ex H' H9 := ((e5.trans (e6.trans e7)).trans e8).trans e9
      cases leg with
      | str a b =>
        refine go_no (EvT.cast (et_eqS (ev_ix (ev_d 6 r_g) ev_int) ev_str) (by decide)) fun H10 e10 => go_nil ⟨l9, _, _, _, _, _, _, ps3, rfl, e59.trans e10, ⟨by have := bp3.1; omega, bp3.2⟩, g3.ex e10⟩
      | bend c a b way =>
        have hc : hp c ≤ 3000 := lg.2.1
        have hb : hp a ≤ 3000 := hb
        have mc := hp_amid c a
        refine go_yes (EvT.cast (et_eqS (ev_ix (ev_d 6 r_g) ev_int) ev_str) (by decide)) fun H10 e10 => ?_
        have r_g := r_g.ex e10
        have r_a : Rp K H10 v_a (dP a) := r_a.ex e10
        have g9 := g3.ex e10
        refine go_asg 2 (R := NewR K H10 (ps3.map dP ++ [dP c, dP (gAmid c a)])) (ev_cat (ev_tr 2 g9.2) (ev_lst (ds := [dP c, dP (gAmid c a)]) (by
          refine ea_cons (ev_ix (ev_d 6 r_g) ev_int) ?_
          exact ea_cons (ev_call (ok_law_amid T) hr (ea_cons (ev_ix (ev_d 6 r_g) ev_int) (ea_cons (ev_d 7 r_a) ea_nil)) ⟨c, a, rfl, by omega, rfl⟩) ea_nil)) mo_tr tr_lst new_lst (by rw [List.length_map]; have := bp3.1; show ps3.length + 2 ≤ 100000; omega)) (fun v_m H11 e11 r_m => go_nil (go_nil ?_)) sc_law_points.nd
        obtain ⟨l11, rfl, g11⟩ := gr_new ((ex8.trans e9).trans e10) r_m
        refine ⟨l11, _, _, _, _, _, _, ps3 ++ [c, gAmid c a], rfl, (e59.trans e10).trans e11, bp3.app (m := 2) ⟨Nat.le_refl _, fun p hp => ?_⟩, by rw [List.map_append]; exact g11⟩
        simp only [List.mem_cons, List.not_mem_nil, or_false] at hp
        rcases hp with rfl | rfl
        · omega
        · omega
    · rintro σ2 H5 ⟨lf, v5, v6, v7, v8, v9, v10, ps, rfl, e5, bp, gf⟩
      refine go_ret (ev_tr 2 gf.2) fun v H6 e6 rv => q v H6 ((exH.trans e5).trans e6) ⟨ps, ⟨?_, bp.2⟩, ?_⟩
      · have := bp.1
        split at this <;> omega
      · obtain ⟨rfl, -⟩ := id rv
        exact (gf.ex e6).new
end
end Ar
set_option maxHeartbeats 4000000
/-! Plain: a triangle and a point. A vertex is given by the way from it to the point. -/
namespace Ar
def cr (xa ya xb yb : Rat) : Rat := xa * yb - ya * xb
def pp (ya yb s : Rat) : Int := if yb < 0 ∧ 0 ≤ ya ∧ 0 < s then 1 else if ya < 0 ∧ 0 ≤ yb ∧ s < 0 then -1 else 0
def RR (xa ya xb yb s : Rat) : Prop := s < 0 ∨ (s = 0 ∧ (yb < ya ∨ (yb = ya ∧ xa < xb)))
theorem jac_y (xa ya xm ym xb yb : Rat) : ya * cr xm ym xb yb - ym * cr xa ya xb yb + yb * cr xa ya xm ym = 0 := by unfold cr; grind
theorem jac_x (xa ya xm ym xb yb : Rat) : xa * cr xm ym xb yb - xm * cr xa ya xb yb + xb * cr xa ya xm ym = 0 := by unfold cr; grind
theorem mpp {a b : Rat} (h1 : 0 < a) (h2 : 0 < b) : 0 < a * b := Rat.mul_pos h1 h2
theorem mnn {a b : Rat} (h1 : 0 ≤ a) (h2 : 0 ≤ b) : 0 ≤ a * b := Rat.mul_nonneg h1 h2
theorem mpn {a b : Rat} (h1 : 0 ≤ a) (h2 : b ≤ 0) : a * b ≤ 0 := by
  have := mnn h1 (show 0 ≤ -b by grind)
  grind
theorem mNN {a b : Rat} (h1 : a ≤ 0) (h2 : b ≤ 0) : 0 ≤ a * b := by
  have := mnn (show 0 ≤ -a by grind) (show 0 ≤ -b by grind)
  grind
theorem mnp {a b : Rat} (h1 : a ≤ 0) (h2 : 0 ≤ b) : a * b ≤ 0 := by
  have := mnn (show 0 ≤ -a by grind) h2
  grind
theorem mNP {a b : Rat} (h1 : a < 0) (h2 : 0 < b) : a * b < 0 := by
  have := mpp (show 0 < -a by grind) h2
  grind
theorem mPN {a b : Rat} (h1 : 0 < a) (h2 : b < 0) : a * b < 0 := by
  have := mpp h1 (show 0 < -b by grind)
  grind
theorem mSS {a b : Rat} (h1 : a < 0) (h2 : b < 0) : 0 < a * b := by
  have := mpp (show 0 < -a by grind) (show 0 < -b by grind)
  grind
/-- none of the three lies above: not inside -/
theorem tri_up {xa ya xm ym xb yb : Rat} (hD : 0 < cr xa ya xm ym + cr xm ym xb yb - cr xa ya xb yb) (pa : ¬ (xa = 0 ∧ ya = 0)) (pm : ¬ (xm = 0 ∧ ym = 0)) (pb : ¬ (xb = 0 ∧ yb = 0)) (ha : 0 ≤ ya) (hm : 0 ≤ ym) (hb : 0 ≤ yb)
    (h1 : ¬ RR xa ya xm ym (cr xa ya xm ym)) (h2 : ¬ RR xm ym xb yb (cr xm ym xb yb)) (h3 : RR xa ya xb yb (cr xa ya xb yb)) : False := by
  have j := jac_y xa ya xm ym xb yb
  unfold RR at h1 h2 h3
  generalize e1 : cr xa ya xm ym = s1 at *
  generalize e2 : cr xm ym xb yb = s2 at *
  generalize e3 : cr xa ya xb yb = s3 at *
  unfold cr at e1 e2 e3
  have k1 : 0 ≤ s1 := by grind
  have k2 : 0 ≤ s2 := by grind
  have k3 : s3 ≤ 0 := by grind
  have m1 := mnn ha k2
  have m2 := mpn hm k3
  have m3 := mnn hb k1
  have z1 : ya * s2 = 0 := by grind
  have z2 : ym * s3 = 0 := by grind
  have z3 : yb * s1 = 0 := by grind
  rcases Rat.mul_eq_zero.mp z1 with c1 | c1 <;> rcases Rat.mul_eq_zero.mp z2 with c2 | c2 <;> rcases Rat.mul_eq_zero.mp z3 with c3 | c3
  · grind
  · subst c1 c2
    have := mnp (show xm - xa ≤ 0 by grind) hb
    grind
  · subst c1 c3
    have := mnp (show xa - xb ≤ 0 by grind) hm
    grind
  · subst c1
    rcases Rat.mul_eq_zero.mp (show xa * ym = 0 by grind) with q | q
    · exact pa ⟨q, rfl⟩
    · rcases Rat.mul_eq_zero.mp (show xa * yb = 0 by grind) with q' | q'
      · exact pa ⟨q', rfl⟩
      · grind
  · subst c2 c3
    have := mnp (show xb - xm ≤ 0 by grind) ha
    grind
  · subst c2
    rcases Rat.mul_eq_zero.mp (show ya * xm = 0 by grind) with q | q
    · rcases Rat.mul_eq_zero.mp (show xm * yb = 0 by grind) with q' | q'
      · exact pm ⟨q', rfl⟩
      · grind
    · exact pm ⟨q, rfl⟩
  · subst c3
    rcases Rat.mul_eq_zero.mp (show ym * xb = 0 by grind) with q | q
    · rcases Rat.mul_eq_zero.mp (show ya * xb = 0 by grind) with q' | q'
      · grind
      · exact pb ⟨q', rfl⟩
    · exact pb ⟨q, rfl⟩
  · grind
instance (xa ya xb yb s : Rat) : Decidable (RR xa ya xb yb s) := by unfold RR; infer_instance
theorem RR_of_up {xa ya xb yb s : Rat} (h1 : 0 ≤ ya) (h2 : yb < 0) : RR xa ya xb yb s ↔ s ≤ 0 := by unfold RR; grind
theorem RR_of_dn {xa ya xb yb s : Rat} (h1 : ya < 0) (h2 : 0 ≤ yb) : RR xa ya xb yb s ↔ s < 0 := by unfold RR; grind
theorem RR_le {xa ya xb yb s : Rat} (h : RR xa ya xb yb s) : s ≤ 0 := by unfold RR at h; grind
theorem RR_not {xa ya xb yb s : Rat} (h : ¬ RR xa ya xb yb s) : 0 ≤ s := by unfold RR at h; grind
theorem RR_lt {xa ya xb yb s : Rat} (h : s < 0) : RR xa ya xb yb s := Or.inl h
theorem RR_gt {xa ya xb yb s : Rat} (h : 0 < s) : ¬ RR xa ya xb yb s := fun r => by have := RR_le r; grind
theorem pp_up {ya yb s : Rat} (h1 : 0 ≤ ya) (h2 : yb < 0) : pp ya yb s = if 0 < s then 1 else 0 := by unfold pp; grind
theorem pp_dn {ya yb s : Rat} (h1 : ya < 0) (h2 : 0 ≤ yb) : pp ya yb s = if s < 0 then -1 else 0 := by unfold pp; grind
theorem pp_pp {ya yb s : Rat} (h1 : 0 ≤ ya) (h2 : 0 ≤ yb) : pp ya yb s = 0 := by unfold pp; grind
theorem pp_nn {ya yb s : Rat} (h1 : ya < 0) (h2 : yb < 0) : pp ya yb s = 0 := by unfold pp; grind
theorem jac (xa ya xm ym xb yb : Rat) : ya * cr xm ym xb yb + ym * cr xb yb xa ya + yb * cr xa ya xm ym = 0 := by unfold cr; grind
theorem cr_swap (xa ya xb yb : Rat) : cr xb yb xa ya = -cr xa ya xb yb := by unfold cr; grind
/-- the rays that cross a triangle's sides, all the way round -/
def Tri (xa ya xm ym xb yb : Rat) : Prop :=
  pp ya ym (cr xa ya xm ym) + pp ym yb (cr xm ym xb yb) + pp yb ya (cr xb yb xa ya) = if ¬ RR xa ya xm ym (cr xa ya xm ym) ∧ ¬ RR xm ym xb yb (cr xm ym xb yb) ∧ ¬ RR xb yb xa ya (cr xb yb xa ya) then 1 else 0
theorem Tri.rot {xa ya xm ym xb yb : Rat} (h : Tri xm ym xb yb xa ya) : Tri xa ya xm ym xb yb := by
  unfold Tri at h ⊢
  rw [show pp ya ym (cr xa ya xm ym) + pp ym yb (cr xm ym xb yb) + pp yb ya (cr xb yb xa ya) = pp ym yb (cr xm ym xb yb) + pp yb ya (cr xb yb xa ya) + pp ya ym (cr xa ya xm ym) by omega, h]
  by_cases h1 : RR xa ya xm ym (cr xa ya xm ym) <;> by_cases h2 : RR xm ym xb yb (cr xm ym xb yb) <;> by_cases h3 : RR xb yb xa ya (cr xb yb xa ya) <;> simp [h1, h2, h3]
theorem tri_A {xa ya xm ym xb yb : Rat} (hD : 0 < cr xa ya xm ym + cr xm ym xb yb + cr xb yb xa ya) (ha : 0 ≤ ya) (hm : 0 ≤ ym) (hb : yb < 0) : Tri xa ya xm ym xb yb := by
  have j := jac xa ya xm ym xb yb
  unfold Tri
  generalize e1 : cr xa ya xm ym = s1 at *
  generalize e2 : cr xm ym xb yb = s2 at *
  generalize e3 : cr xb yb xa ya = s3 at *
  rw [pp_pp ha hm, pp_up hm hb, pp_dn hb ha]
  have r2 := RR_of_up (xa := xm) (xb := xb) (s := s2) hm hb
  have r3 := RR_of_dn (xa := xb) (xb := xa) (s := s3) hb ha
  by_cases k2 : 0 < s2 <;> by_cases k3 : s3 < 0
  · rw [if_pos k2, if_pos k3, if_neg fun z => z.2.2 (r3.mpr k3)]; rfl
  · rw [if_pos k2, if_neg k3, if_pos]
    · rfl
    · refine ⟨fun r1 => ?_, fun z => by have := r2.mp z; grind, fun z => k3 (r3.mp z)⟩
      have l1 := RR_le r1
      have m1 := mnn ha (Rat.le_of_lt k2)
      have m2 := mnn hm (show 0 ≤ s3 by grind)
      have m3 := mNN (Rat.le_of_lt hb) l1
      have z1 : ya * s2 = 0 := by grind
      have z3 : yb * s1 = 0 := by grind
      have c1 : ya = 0 := by
        rcases Rat.mul_eq_zero.mp z1 with c | c
        · exact c
        · grind
      have c3 : s1 = 0 := by
        rcases Rat.mul_eq_zero.mp z3 with c | c
        · grind
        · exact c
      rw [c3] at r1
      unfold RR at r1
      have e : ym = 0 ∧ xa < xm := by grind
      obtain ⟨rfl, hx⟩ := e
      subst c1
      have k2' : 0 < xm * yb := by unfold cr at e2; grind
      have k3' : 0 ≤ -(xa * yb) := by unfold cr at e3; grind
      have := mNN (show xa - xm ≤ 0 by grind) (Rat.le_of_lt hb)
      by_cases hxm : xm < 0
      · have hxa : xa < 0 := by grind
        have := mSS hxa hb
        grind
      · have := mpn (show 0 ≤ xm by grind) (Rat.le_of_lt hb)
        grind
  · exfalso
    have l1 : 0 < s1 := by grind
    have m1 := mpn ha (show s2 ≤ 0 by grind)
    have m2 := mpn hm (Rat.le_of_lt k3)
    have m3 := mNP hb l1
    grind
  · rw [if_neg k2, if_neg k3, if_neg fun z => z.2.1 (r2.mpr (by grind))]; rfl
theorem tri_B {xa ya xm ym xb yb : Rat} (hD : 0 < cr xa ya xm ym + cr xm ym xb yb + cr xb yb xa ya) (ha : 0 ≤ ya) (hm : ym < 0) (hb : yb < 0) : Tri xa ya xm ym xb yb := by
  have j := jac xa ya xm ym xb yb
  unfold Tri
  generalize e1 : cr xa ya xm ym = s1 at *
  generalize e2 : cr xm ym xb yb = s2 at *
  generalize e3 : cr xb yb xa ya = s3 at *
  rw [pp_up ha hm, pp_nn hm hb, pp_dn hb ha]
  have r1 := RR_of_up (xa := xa) (xb := xm) (s := s1) ha hm
  have r3 := RR_of_dn (xa := xb) (xb := xa) (s := s3) hb ha
  by_cases k1 : 0 < s1 <;> by_cases k3 : s3 < 0
  · rw [if_pos k1, if_pos k3, if_neg fun z => z.2.2 (r3.mpr k3)]; rfl
  · rw [if_pos k1, if_neg k3, if_pos]
    · rfl
    · refine ⟨fun z => by have := r1.mp z; grind, fun r2 => ?_, fun z => k3 (r3.mp z)⟩
      have m1 := mpn ha (RR_le r2)
      have m2 := mnp (Rat.le_of_lt hm) (show 0 ≤ s3 by grind)
      have m3 := mNP hb k1
      grind
  · exfalso
    have l2 : 0 < s2 := by grind
    have m1 := mnn ha (Rat.le_of_lt l2)
    have m2 := mSS hm k3
    have m3 := mNN (Rat.le_of_lt hb) (show s1 ≤ 0 by grind)
    grind
  · rw [if_neg k1, if_neg k3, if_neg fun z => z.1 (r1.mpr (by grind))]; rfl
theorem RR_swap {xa ya xb yb : Rat} (hne : ¬ (xa = xb ∧ ya = yb)) : RR xb yb xa ya (cr xb yb xa ya) ↔ ¬ RR xa ya xb yb (cr xa ya xb yb) := by
  rw [cr_swap]
  generalize cr xa ya xb yb = s
  unfold RR
  grind
theorem pp_swap (ya yb s : Rat) : pp yb ya (-s) = -pp ya yb s := by
  unfold pp
  grind
theorem tri_all {xa ya xm ym xb yb : Rat} (hD : 0 < cr xa ya xm ym + cr xm ym xb yb + cr xb yb xa ya) (pa : ¬ (xa = 0 ∧ ya = 0)) (pm : ¬ (xm = 0 ∧ ym = 0)) (pb : ¬ (xb = 0 ∧ yb = 0)) : Tri xa ya xm ym xb yb := by
  have hne : ¬ (xa = xb ∧ ya = yb) := by
    rintro ⟨rfl, rfl⟩
    unfold cr at hD
    grind
  by_cases ha : 0 ≤ ya <;> by_cases hm : 0 ≤ ym <;> by_cases hb : 0 ≤ yb
  · unfold Tri
    rw [pp_pp ha hm, pp_pp hm hb, pp_pp hb ha, if_neg fun z => ?_]
    · rfl
    · have r3 : RR xa ya xb yb (cr xa ya xb yb) := by
        have := z.2.2
        rw [RR_swap hne] at this
        exact Decidable.not_not.mp this
      exact tri_up (by rw [cr_swap xa ya xb yb] at hD; grind) pa pm pb ha hm hb z.1 z.2.1 r3
  · exact tri_A hD ha hm (by grind)
  · exact Tri.rot (Tri.rot (tri_A (by grind) hb ha (by grind)))
  · exact tri_B hD ha (by grind) (by grind)
  · exact Tri.rot (tri_A (by grind) hm hb (by grind))
  · exact Tri.rot (tri_B (by grind) hm (by grind) (by grind))
  · exact Tri.rot (Tri.rot (tri_B (by grind) hb (by grind) (by grind)))
  · have ha : ya < 0 := by grind
    have hm : ym < 0 := by grind
    have hb : yb < 0 := by grind
    have j := jac xa ya xm ym xb yb
    unfold Tri
    generalize e1 : cr xa ya xm ym = s1 at *
    generalize e2 : cr xm ym xb yb = s2 at *
    generalize e3 : cr xb yb xa ya = s3 at *
    rw [pp_nn ha hm, pp_nn hm hb, pp_nn hb ha, if_neg fun z => ?_]
    · rfl
    · have k1 := RR_not z.1
      have k2 := RR_not z.2.1
      have k3 := RR_not z.2.2
      have m1 := mnp (Rat.le_of_lt ha) k2
      have m2 := mnp (Rat.le_of_lt hm) k3
      have m3 := mnp (Rat.le_of_lt hb) k1
      have z1 : ya * s2 = 0 := by grind
      have z2 : ym * s3 = 0 := by grind
      have z3 : yb * s1 = 0 := by grind
      rcases Rat.mul_eq_zero.mp z1 with c1 | c1
      · grind
      · rcases Rat.mul_eq_zero.mp z2 with c2 | c2
        · grind
        · rcases Rat.mul_eq_zero.mp z3 with c3 | c3 <;> grind
end Ar
set_option maxHeartbeats 4000000
/-! Plain: three points of a circle and a point. -/
namespace Ar
section
variable {xa ya xm ym xb yb u v r : Rat}
theorem pow_a (h1 : (u - xa) * (u - xa) + (v - ya) * (v - ya) = r) (h2 : (u - xm) * (u - xm) + (v - ym) * (v - ym) = r) (h3 : (u - xb) * (u - xb) + (v - yb) * (v - yb) = r) :
    (cr xa ya xm ym + cr xm ym xb yb + cr xb yb xa ya) * (u * u + v * v - r) = (cr xa ya xm ym + cr xm ym xb yb + cr xb yb xa ya) * (xa * xa + ya * ya) - cr xb yb xa ya * ((xa - xm) * (xa - xm) + (ya - ym) * (ya - ym)) - cr xa ya xm ym * ((xa - xb) * (xa - xb) + (ya - yb) * (ya - yb)) := by
  unfold cr
  grind
theorem sq2 (a b : Rat) : 0 ≤ a * a + b * b := by
  have := sq_nn a
  have := sq_nn b
  grind
theorem sq2_zero {a b : Rat} (h : a * a + b * b = 0) : a = 0 ∧ b = 0 := by
  have h1 := sq_nn a
  have h2 := sq_nn b
  have z : ∀ t : Rat, t * t = 0 → t = 0 := fun t ht => by rcases Rat.mul_eq_zero.mp ht with h | h <;> exact h
  exact ⟨z a (by grind), z b (by grind)⟩
/-- within the circle, beyond a side or on it: beyond the third one -/
theorem in_a (h1 : (u - xa) * (u - xa) + (v - ya) * (v - ya) = r) (h2 : (u - xm) * (u - xm) + (v - ym) * (v - ym) = r) (h3 : (u - xb) * (u - xb) + (v - yb) * (v - yb) = r) (hD : 0 < cr xa ya xm ym + cr xm ym xb yb + cr xb yb xa ya) (hin : u * u + v * v < r) (hs : cr xa ya xm ym ≤ 0) : 0 < cr xb yb xa ya := by
  have e := pow_a h1 h2 h3
  generalize cr xa ya xm ym = s1 at *
  generalize cr xm ym xb yb = s2 at *
  generalize cr xb yb xa ya = s3 at *
  generalize hd : s1 + s2 + s3 = d at *
  have l0 := mPN hD (show u * u + v * v - r < 0 by grind)
  have l1 := mnn (Rat.le_of_lt hD) (sq2 xa ya)
  have l2 := mnp hs (sq2 (xa - xb) (ya - yb))
  have l3 := sq2 (xa - xm) (ya - ym)
  by_cases h : 0 < s3
  · exact h
  · have l4 := mnp (show s3 ≤ 0 by grind) l3
    grind
theorem in_b (h1 : (u - xa) * (u - xa) + (v - ya) * (v - ya) = r) (h2 : (u - xm) * (u - xm) + (v - ym) * (v - ym) = r) (h3 : (u - xb) * (u - xb) + (v - yb) * (v - yb) = r) (hD : 0 < cr xa ya xm ym + cr xm ym xb yb + cr xb yb xa ya) (hin : u * u + v * v < r) (hs : cr xm ym xb yb ≤ 0) : 0 < cr xb yb xa ya := by
  have e := pow_a h3 h1 h2
  generalize cr xa ya xm ym = s1 at *
  generalize cr xm ym xb yb = s2 at *
  generalize cr xb yb xa ya = s3 at *
  have l0 := mPN hD (show u * u + v * v - r < 0 by grind)
  have l1 := mnn (Rat.le_of_lt hD) (sq2 xb yb)
  have l2 := mnp hs (sq2 (xb - xa) (yb - ya))
  have l3 := sq2 (xb - xm) (yb - ym)
  have ed : s3 + s1 + s2 = s1 + s2 + s3 := by grind
  rw [ed] at e
  generalize hd : s1 + s2 + s3 = d at *
  by_cases h : 0 < s3
  · exact h
  · have l4 := mnp (show s3 ≤ 0 by grind) l3
    grind
end
section
variable {xa ya xm ym xb yb u v r : Rat}
variable (h1 : (u - xa) * (u - xa) + (v - ya) * (v - ya) = r) (h2 : (u - xm) * (u - xm) + (v - ym) * (v - ym) = r) (h3 : (u - xb) * (u - xb) + (v - yb) * (v - yb) = r) (hD : 0 < cr xa ya xm ym + cr xm ym xb yb + cr xb yb xa ya)
include h1 h2 h3 hD
/-- outside it, or on it: not in the triangle -/
theorem out_tri (pa : ¬ (xa = 0 ∧ ya = 0)) (pm : ¬ (xm = 0 ∧ ym = 0)) (pb : ¬ (xb = 0 ∧ yb = 0)) (hout : r ≤ u * u + v * v) (k1 : 0 ≤ cr xa ya xm ym) (k2 : 0 ≤ cr xm ym xb yb) (k3 : 0 ≤ cr xb yb xa ya) : False := by
  have eb : (cr xa ya xm ym + cr xm ym xb yb + cr xb yb xa ya) * ((cr xa ya xm ym + cr xm ym xb yb + cr xb yb xa ya) * (u * u + v * v - r)) = -(cr xa ya xm ym * cr xm ym xb yb * ((xa - xb) * (xa - xb) + (ya - yb) * (ya - yb))) - cr xm ym xb yb * cr xb yb xa ya * ((xa - xm) * (xa - xm) + (ya - ym) * (ya - ym)) - cr xb yb xa ya * cr xa ya xm ym * ((xm - xb) * (xm - xb) + (ym - yb) * (ym - yb)) := by
    unfold cr
    grind
  have ea := pow_a h1 h2 h3
  have em := pow_a h2 h3 h1
  have eb' := pow_a h3 h1 h2
  have nab : ¬ ((xa - xb) * (xa - xb) + (ya - yb) * (ya - yb) = 0) := fun z => by
    obtain ⟨z1, z2⟩ := sq2_zero z
    have e1 : xa = xb := by grind
    have e2 : ya = yb := by grind
    subst e1 e2
    unfold cr at hD
    grind
  have nam : ¬ ((xa - xm) * (xa - xm) + (ya - ym) * (ya - ym) = 0) := fun z => by
    obtain ⟨z1, z2⟩ := sq2_zero z
    have e1 : xa = xm := by grind
    have e2 : ya = ym := by grind
    subst e1 e2
    unfold cr at hD
    grind
  have nmb : ¬ ((xm - xb) * (xm - xb) + (ym - yb) * (ym - yb) = 0) := fun z => by
    obtain ⟨z1, z2⟩ := sq2_zero z
    have e1 : xm = xb := by grind
    have e2 : ym = yb := by grind
    subst e1 e2
    unfold cr at hD
    grind
  have qa : xa * xa + ya * ya ≠ 0 := fun z => pa (sq2_zero z)
  have qm : xm * xm + ym * ym ≠ 0 := fun z => pm (sq2_zero z)
  have qb : xb * xb + yb * yb ≠ 0 := fun z => pb (sq2_zero z)
  have pab := sq2 (xa - xb) (ya - yb)
  have pam := sq2 (xa - xm) (ya - ym)
  have pmb := sq2 (xm - xb) (ym - yb)
  have sab : (xb - xa) * (xb - xa) + (yb - ya) * (yb - ya) = (xa - xb) * (xa - xb) + (ya - yb) * (ya - yb) := by grind
  have sam : (xm - xa) * (xm - xa) + (ym - ya) * (ym - ya) = (xa - xm) * (xa - xm) + (ya - ym) * (ya - ym) := by grind
  have smb : (xb - xm) * (xb - xm) + (yb - ym) * (yb - ym) = (xm - xb) * (xm - xb) + (ym - yb) * (ym - yb) := by grind
  rw [sam] at em
  rw [sab, smb] at eb'
  generalize cr xa ya xm ym = s1 at *
  generalize cr xm ym xb yb = s2 at *
  generalize cr xb yb xa ya = s3 at *
  generalize (xa - xb) * (xa - xb) + (ya - yb) * (ya - yb) = lab at *
  generalize (xa - xm) * (xa - xm) + (ya - ym) * (ya - ym) = lam at *
  generalize (xm - xb) * (xm - xb) + (ym - yb) * (ym - yb) = lmb at *
  generalize xa * xa + ya * ya = la at *
  generalize xm * xm + ym * ym = lm at *
  generalize xb * xb + yb * yb = lb at *
  generalize hw : u * u + v * v - r = w at *
  have hw0 : 0 ≤ w := by grind
  clear hw hout h1 h2 h3
  have t0 := mnn (Rat.le_of_lt hD) (mnn (Rat.le_of_lt hD) hw0)
  have t1 := mnn (mnn k1 k2) pab
  have t2 := mnn (mnn k2 k3) pam
  have t3 := mnn (mnn k3 k1) pmb
  have z1 : s1 * s2 * lab = 0 := by grind
  have z2 : s2 * s3 * lam = 0 := by grind
  have z3 : s3 * s1 * lmb = 0 := by grind
  have z0 : (s1 + s2 + s3) * ((s1 + s2 + s3) * w) = 0 := by grind
  have w0 : w = 0 := by
    rcases Rat.mul_eq_zero.mp z0 with c | c
    · grind
    · rcases Rat.mul_eq_zero.mp c with c | c
      · grind
      · exact c
  have y1 : s1 = 0 ∨ s2 = 0 := by
    rcases Rat.mul_eq_zero.mp z1 with c | c
    · exact Rat.mul_eq_zero.mp c
    · exact absurd c nab
  have y2 : s2 = 0 ∨ s3 = 0 := by
    rcases Rat.mul_eq_zero.mp z2 with c | c
    · exact Rat.mul_eq_zero.mp c
    · exact absurd c nam
  have y3 : s3 = 0 ∨ s1 = 0 := by
    rcases Rat.mul_eq_zero.mp z3 with c | c
    · exact Rat.mul_eq_zero.mp c
    · exact absurd c nmb
  subst w0
  have fin : ∀ {d l : Rat}, 0 < d → d * l = 0 → l = 0 := fun {d l} h e => by
    rcases Rat.mul_eq_zero.mp e with c | c
    · grind
    · exact c
  rcases y1 with c1 | c1
  · subst c1
    rcases y2 with c2 | c2
    · subst c2
      exact qm (fin (d := s3) (by grind) (by grind))
    · subst c2
      exact qa (fin (d := s2) (by grind) (by grind))
  · subst c1
    rcases y3 with c3 | c3
    · subst c3
      exact qb (fin (d := s1) (by grind) (by grind))
    · subst c3
      exact qm (fin (d := s3) (by grind) (by grind))
end
/-! ### chords -/
theorem side_cr (a b p : Pt) : gAcross (gOff b a) (gOff p a) = cr (p.1 - a.1) (p.2 - a.2) (p.1 - b.1) (p.2 - b.2) := by
  unfold gAcross gOff cr
  simp only
  grind
theorem passed_pp (a b p : Pt) : gPassed a b p = pp (p.2 - a.2) (p.2 - b.2) (cr (p.1 - a.1) (p.2 - a.2) (p.1 - b.1) (p.2 - b.2)) := by
  unfold gPassed pp
  have e1 : decide (0 < gSide a b p) = decide (0 < cr (p.1 - a.1) (p.2 - a.2) (p.1 - b.1) (p.2 - b.2)) := decide_eq_decide.mpr (by rw [← side_cr]; exact sgn_pos)
  have e2 : decide (gSide a b p < 0) = decide (cr (p.1 - a.1) (p.2 - a.2) (p.1 - b.1) (p.2 - b.2) < 0) := decide_eq_decide.mpr (by rw [← side_cr]; exact sgn_neg)
  have f1 : decide (p.2 < b.2) = decide (p.2 - b.2 < 0) := decide_eq_decide.mpr (by grind)
  have f2 : decide (p.2 < a.2) = decide (p.2 - a.2 < 0) := decide_eq_decide.mpr (by grind)
  rw [e1, e2, f1, f2]
  generalize cr (p.1 - a.1) (p.2 - a.2) (p.1 - b.1) (p.2 - b.2) = s
  generalize p.2 - a.2 = x
  generalize p.2 - b.2 = y
  simp only [Bool.and_eq_true, Bool.not_eq_true', decide_eq_true_eq, decide_eq_false_iff_not]
  grind
theorem btw_RR (c a b p : Pt) : gBetween c a b p = true ↔ gFar c p < gFar c a ∧ RR (p.1 - a.1) (p.2 - a.2) (p.1 - b.1) (p.2 - b.2) (cr (p.1 - a.1) (p.2 - a.2) (p.1 - b.1) (p.2 - b.2)) := by
  unfold gBetween RR
  have e1 : gSide a b p = 0 ↔ cr (p.1 - a.1) (p.2 - a.2) (p.1 - b.1) (p.2 - b.2) = 0 := by rw [← side_cr]; exact sgn_zero
  have e2 : gSide a b p < 0 ↔ cr (p.1 - a.1) (p.2 - a.2) (p.1 - b.1) (p.2 - b.2) < 0 := by rw [← side_cr]; exact sgn_neg
  have e3 : gSgn (b.2 - a.2) = 0 ↔ b.2 - a.2 = 0 := sgn_zero
  have e4 : 0 < gSgn (b.2 - a.2) ↔ 0 < b.2 - a.2 := sgn_pos
  by_cases h : gFar c p < gFar c a
  · rw [if_pos (decide_eq_true h)]
    by_cases h0 : gSide a b p = 0
    · have z := e1.mp h0
      rw [if_pos h0, z]
      by_cases hu : gSgn (b.2 - a.2) = 0
      · have zu := e3.mp hu
        rw [if_pos hu, decide_eq_true_eq]
        grind
      · have zu : ¬ (b.2 - a.2 = 0) := fun z => hu (e3.mpr z)
        rw [if_neg hu, decide_eq_true_eq, e4]
        grind
    · have z : ¬ _ := fun z => h0 (e1.mpr z)
      rw [if_neg h0, decide_eq_true_eq, e2]
      grind
  · rw [if_neg (by rw [decide_eq_false h]; exact Bool.false_ne_true)]
    grind
/-- 1 where it holds -/
def iB (b : Bool) : Int := if b = true then 1 else 0
theorem chord_step {c a m b p : Pt} (hm : gFar c m = gFar c a) (hb : gFar c b = gFar c a) (hD : 0 < gAcross (gOff m a) (gOff b a)) (pa : p ≠ a) (pm : p ≠ m) (pb : p ≠ b) :
    gPassed a b p + iB (gBetween c a b p) = (gPassed a m p + iB (gBetween c a m p)) + (gPassed m b p + iB (gBetween c m b p)) := by
  have ne : ∀ {x : Pt}, p ≠ x → ¬ (p.1 - x.1 = 0 ∧ p.2 - x.2 = 0) := fun {x} h z => h (Prod.ext (by grind) (by grind))
  have na := ne pa
  have nm := ne pm
  have nb := ne pb
  have b1 := btw_RR c a b p
  have b2 := btw_RR c a m p
  have b3 := btw_RR c m b p
  rw [passed_pp, passed_pp, passed_pp]
  have ea : (p.1 - c.1 - (p.1 - a.1)) * (p.1 - c.1 - (p.1 - a.1)) + (p.2 - c.2 - (p.2 - a.2)) * (p.2 - c.2 - (p.2 - a.2)) = gFar c a := by unfold gFar gAlong gOff; simp only; grind
  have em : (p.1 - c.1 - (p.1 - m.1)) * (p.1 - c.1 - (p.1 - m.1)) + (p.2 - c.2 - (p.2 - m.2)) * (p.2 - c.2 - (p.2 - m.2)) = gFar c a := by rw [← hm]; unfold gFar gAlong gOff; simp only; grind
  have eb : (p.1 - c.1 - (p.1 - b.1)) * (p.1 - c.1 - (p.1 - b.1)) + (p.2 - c.2 - (p.2 - b.2)) * (p.2 - c.2 - (p.2 - b.2)) = gFar c a := by rw [← hb]; unfold gFar gAlong gOff; simp only; grind
  have ep : gFar c p = (p.1 - c.1) * (p.1 - c.1) + (p.2 - c.2) * (p.2 - c.2) := by unfold gFar gAlong gOff; simp only; grind
  have eD : gAcross (gOff m a) (gOff b a) = cr (p.1 - a.1) (p.2 - a.2) (p.1 - m.1) (p.2 - m.2) + cr (p.1 - m.1) (p.2 - m.2) (p.1 - b.1) (p.2 - b.2) + cr (p.1 - b.1) (p.2 - b.2) (p.1 - a.1) (p.2 - a.2) := by unfold gAcross gOff cr; simp only; grind
  rw [eD] at hD
  rw [ep] at b1 b2 b3
  rw [hm] at b3
  generalize p.1 - a.1 = xa at *
  generalize p.2 - a.2 = ya at *
  generalize p.1 - m.1 = xm at *
  generalize p.2 - m.2 = ym at *
  generalize p.1 - b.1 = xb at *
  generalize p.2 - b.2 = yb at *
  generalize p.1 - c.1 = u at *
  generalize p.2 - c.2 = v at *
  generalize gFar c a = r at *
  have T := tri_all hD na nm nb
  unfold Tri at T
  have sw : pp yb ya (cr xb yb xa ya) = -pp ya yb (cr xa ya xb yb) := by rw [cr_swap xa ya xb yb]; exact pp_swap _ _ _
  rw [sw] at T
  have hne : ¬ (xa = xb ∧ ya = yb) := by
    rintro ⟨rfl, rfl⟩
    unfold cr at hD
    grind
  have r3 := RR_swap hne
  have iF : ∀ b : Bool, ¬ b = true → iB b = 0 := fun b h => if_neg h
  have iT : ∀ b : Bool, b = true → iB b = 1 := fun b h => if_pos h
  by_cases hin : u * u + v * v < r
  · have f1 := in_a ea em eb hD hin
    have f2 := in_b ea em eb hD hin
    have f3 := in_a em eb ea (by grind) hin
    by_cases k1 : RR xa ya xm ym (cr xa ya xm ym)
    · have l1 := RR_le k1
      have l3 := f1 l1
      have k2 : ¬ RR xm ym xb yb (cr xm ym xb yb) := fun z => by have := f3 (RR_le z); grind
      have k3 : RR xa ya xb yb (cr xa ya xb yb) := by
        by_cases z : RR xa ya xb yb (cr xa ya xb yb)
        · exact z
        · exact absurd (r3.mpr z) (RR_gt l3)
      rw [if_neg fun z => z.1 k1] at T
      rw [iT _ (b1.mpr ⟨hin, k3⟩), iT _ (b2.mpr ⟨hin, k1⟩), iF _ fun z => k2 (b3.mp z).2]
      omega
    · by_cases k2 : RR xm ym xb yb (cr xm ym xb yb)
      · have l3 := f2 (RR_le k2)
        have k3 : RR xa ya xb yb (cr xa ya xb yb) := by
          by_cases z : RR xa ya xb yb (cr xa ya xb yb)
          · exact z
          · exact absurd (r3.mpr z) (RR_gt l3)
        rw [if_neg fun z => z.2.1 k2] at T
        rw [iT _ (b1.mpr ⟨hin, k3⟩), iF _ fun z => k1 (b2.mp z).2, iT _ (b3.mpr ⟨hin, k2⟩)]
        omega
      · by_cases k3 : RR xa ya xb yb (cr xa ya xb yb)
        · rw [if_pos ⟨k1, k2, fun z => (r3.mp z) k3⟩] at T
          rw [iT _ (b1.mpr ⟨hin, k3⟩), iF _ fun z => k1 (b2.mp z).2, iF _ fun z => k2 (b3.mp z).2]
          omega
        · rw [if_neg fun z => z.2.2 (r3.mpr k3)] at T
          rw [iF _ fun z => k3 (b1.mp z).2, iF _ fun z => k1 (b2.mp z).2, iF _ fun z => k2 (b3.mp z).2]
          omega
  · have ho : r ≤ u * u + v * v := by grind
    rw [if_neg fun z => out_tri ea em eb hD na nm nb ho (RR_not z.1) (RR_not z.2.1) (RR_not z.2.2)] at T
    rw [iF _ fun z => hin (b1.mp z).1, iF _ fun z => hin (b2.mp z).1, iF _ fun z => hin (b3.mp z).1]
    omega
end Ar
set_option maxHeartbeats 4000000
/-! Plain: arcs by shares. -/
namespace Ar
theorem d_pos (t : Rat) : 0 < 1 + t * t := by
  have := sq_nn t
  grind
theorem u_mul (t : Rat) : gU t * (1 + t * t) = 1 - t * t := by
  unfold gU
  rw [Rat.div_mul_cancel (one_sq_ne t)]
theorem v_mul (t : Rat) : gV t * (1 + t * t) = t + t := by
  unfold gV
  rw [Rat.div_mul_cancel (one_sq_ne t)]
theorem cancel {a b d : Rat} (hd : d ≠ 0) (h : a * d = b * d) : a = b := by
  have : (a - b) * d = 0 := by grind
  rcases Rat.mul_eq_zero.mp this with h | h
  · grind
  · exact absurd h hd
theorem uv_one (t : Rat) : gU t * gU t + gV t * gV t = 1 := by
  have h1 := u_mul t
  have h2 := v_mul t
  have hd := one_sq_ne t
  generalize gU t = u at *
  generalize gV t = v at *
  generalize hdd : 1 + t * t = d at *
  have : (u * u + v * v) * d = 1 * d := cancel hd (by grind)
  exact cancel hd this
theorem at_far (c a : Pt) (t : Rat) : gFar c (gAt c a t) = gFar c a := by
  have h := uv_one t
  unfold gFar gAt gTog gAlong gOff
  simp only
  generalize gU t = u at *
  generalize gV t = v at *
  grind
theorem at_zero (c a : Pt) : gAt c a 0 = a := by
  have h1 := u_mul 0
  have h2 := v_mul 0
  have e1 : gU 0 = 1 := by grind
  have e2 : gV 0 = 0 := by grind
  unfold gAt gTog gOff
  rw [e1, e2]
  refine Prod.ext ?_ ?_ <;> simp only <;> grind
theorem at_share {c a b : Pt} (h : gFar c b = gFar c a) (hw : gWhole c a b ≠ 0) : gAt c a (gShare c a b) = b := by
  have ht : gShare c a b * gWhole c a b = gAcross (gOff a c) (gOff b c) := by
    unfold gShare
    rw [Rat.div_mul_cancel hw]
  have h1 := u_mul (gShare c a b)
  have h2 := v_mul (gShare c a b)
  unfold gWhole gAlong gAcross gOff at *
  unfold gFar gAlong gOff at h
  unfold gAt gTog gOff
  generalize gU (gShare c a b) = u at *
  generalize gV (gShare c a b) = v at *
  generalize gShare c a b = t at *
  simp only at *
  generalize ex : a.1 - c.1 = x at *
  generalize ey : a.2 - c.2 = y at *
  generalize ep : b.1 - c.1 = p at *
  generalize eq : b.2 - c.2 = q at *
  have hr : p * p + q * q = x * x + y * y := by grind
  generalize hR : x * x + y * y = R at *
  generalize hC : x * p + y * q = C at *
  generalize hS : x * q - y * p = S at *
  have hCS : C * C + S * S = R * R := by grind
  have hR0 : R ≠ 0 := fun z => by
    have := sq2_zero (a := x) (b := y) (by grind)
    obtain ⟨rfl, rfl⟩ := this
    exact hw (by grind)
  have e1 : (1 + t * t) * ((R + C) * (R + C)) = 2 * R * (R + C) := by grind
  have e2 : u * (2 * R) = 2 * C := by
    refine cancel (d := (1 + t * t) * (R + C)) ?_ ?_
    · intro z
      rcases Rat.mul_eq_zero.mp z with z | z
      · exact one_sq_ne t z
      · exact hw z
    · grind
  have e3 : v * (2 * R) = 2 * S := by
    refine cancel (d := (1 + t * t) * (R + C)) ?_ ?_
    · intro z
      rcases Rat.mul_eq_zero.mp z with z | z
      · exact one_sq_ne t z
      · exact hw z
    · grind
  refine Prod.ext ?_ ?_
  · show c.1 + (u * x - v * y) = b.1
    have : (u * x - v * y) = p := cancel (d := 2 * R) (by grind) (by grind)
    grind
  · show c.2 + (v * x + u * y) = b.2
    have : (v * x + u * y) = q := cancel (d := 2 * R) (by grind) (by grind)
    grind
theorem at_turn (c a : Pt) (s t : Rat) : gAcross (gOff (gAt c a s) a) (gOff (gAt c a t) a) * ((1 + s * s) * (1 + t * t)) = 4 * gFar c a * (s * t * (t - s)) := by
  have h1 := u_mul s
  have h2 := v_mul s
  have h3 := u_mul t
  have h4 := v_mul t
  have e : gAcross (gOff (gAt c a s) a) (gOff (gAt c a t) a) = ((gU s - 1) * gV t - gV s * (gU t - 1)) * gFar c a := by
    unfold gAcross gOff gAt gTog gFar gAlong gOff
    simp only
    grind
  rw [e]
  generalize gFar c a = R
  generalize gU s = us at *
  generalize gU t = ut at *
  generalize gV s = vs at *
  generalize gV t = vt at *
  have k : ((us - 1) * vt - vs * (ut - 1)) * ((1 + s * s) * (1 + t * t)) = 4 * (s * t * (t - s)) := by grind
  grind
theorem at_pos {c a : Pt} {s t : Rat} (hR : 0 < gFar c a) (hs : 0 < s) (ht : s < t) : 0 < gAcross (gOff (gAt c a s) a) (gOff (gAt c a t) a) := by
  have e := at_turn c a s t
  have d := mpp (d_pos s) (d_pos t)
  have r : 0 < 4 * gFar c a * (s * t * (t - s)) := mpp (mpp (by decide) hR) (mpp (mpp hs (by grind)) (by grind))
  by_cases h : 0 < gAcross (gOff (gAt c a s) a) (gOff (gAt c a t) a)
  · exact h
  · have := mnp (show gAcross (gOff (gAt c a s) a) (gOff (gAt c a t) a) ≤ 0 by grind) (Rat.le_of_lt d)
    grind
/-- a chain round an arc -/
theorem chain {c p : Pt} {e : Nat → Pt} (f : Pt → Pt → Int) (hf : ∀ x y, f x y = gPassed x y p + iB (gBetween c x y p)) (h0 : ∀ k, gFar c (e k) = gFar c (e 0)) (hp : ∀ k, p ≠ e k) (hD : ∀ j k, 0 < j → j < k → 0 < gAcross (gOff (e j) (e 0)) (gOff (e k) (e 0))) :
    ∀ k, ((List.range (k + 1)).map fun i => f (e i) (e (i + 1))).sum = f (e 0) (e (k + 1))
  | 0 => by simp
  | k + 1 => by
    rw [List.range_succ, List.map_append, List.sum_append, chain f hf h0 hp hD k]
    simp only [List.map_cons, List.map_nil, List.sum_cons, List.sum_nil, Int.add_zero]
    rw [hf, hf, hf]
    exact (chord_step (h0 _) (h0 _) (hD (k + 1) (k + 2) (by omega) (by omega)) (hp _) (hp _) (hp _)).symm
end Ar
set_option maxHeartbeats 4000000
/-! Plain: the cut of an arc winds as the arc does. -/
namespace Ar
theorem dn_mul {a : Int} {n : Nat} (h : 1 ≤ n) : Rat.divInt a (n : Int) * ((n : Int) : Rat) = (a : Rat) := by
  rw [Rat.divInt_eq_div]
  have : (((n : Int)) : Rat) ≠ 0 := fun z => by
    have : (n : Int) = 0 := by exact_mod_cast z
    omega
  rw [Rat.div_mul_cancel this]
theorem dn_pos {n : Nat} (h : 1 ≤ n) : (0 : Rat) < ((n : Int) : Rat) := by
  have : (0 : Int) < (n : Int) := by omega
  exact_mod_cast this
theorem dn_lt {j k : Nat} {n : Nat} (h : 1 ≤ n) (hjk : j < k) : Rat.divInt (j : Int) (n : Int) < Rat.divInt (k : Int) (n : Int) := by
  have e1 := dn_mul (a := (j : Int)) h
  have e2 := dn_mul (a := (k : Int)) h
  have p := dn_pos h
  have l : ((j : Int) : Rat) < ((k : Int) : Rat) := by
    have : (j : Int) < (k : Int) := by omega
    exact_mod_cast this
  by_cases g : Rat.divInt (j : Int) (n : Int) < Rat.divInt (k : Int) (n : Int)
  · exact g
  · have := mnn (show 0 ≤ Rat.divInt (j : Int) (n : Int) - Rat.divInt (k : Int) (n : Int) by grind) (Rat.le_of_lt p)
    grind
theorem dn_zero {n : Nat} (h : 1 ≤ n) : Rat.divInt ((0 : Nat) : Int) (n : Int) = 0 := by
  have e := dn_mul (a := ((0 : Nat) : Int)) h
  have p := dn_pos h
  rcases Rat.mul_eq_zero.mp (show Rat.divInt ((0 : Nat) : Int) (n : Int) * ((n : Int) : Rat) = 0 by rw [e]; rfl) with z | z
  · exact z
  · grind
theorem dn_one {n : Nat} (h : 1 ≤ n) : Rat.divInt (n : Int) (n : Int) = 1 := by
  have e := dn_mul (a := (n : Int)) h
  have p := dn_pos h
  exact cancel (d := ((n : Int) : Rat)) (by grind) (by grind)
/-- the points of a cut -/
def eP (c a b : Pt) (n : Nat) (k : Nat) : Pt := gAt c a (gShare c a b * Rat.divInt (k : Int) (n : Int))
theorem eP_zero {c a b : Pt} {n : Nat} (h : 1 ≤ n) : eP c a b n 0 = a := by
  unfold eP
  rw [dn_zero h, Rat.mul_zero, at_zero]
theorem eP_last {c a b : Pt} {n : Nat} (h : 1 ≤ n) (hf : gFar c b = gFar c a) (hw : gWhole c a b ≠ 0) : eP c a b n n = b := by
  unfold eP
  rw [dn_one h, Rat.mul_one, at_share hf hw]
theorem cut1_eq {c a b : Pt} {n : Nat} (h : 1 ≤ n) (hf : gFar c b = gFar c a) (hw : gWhole c a b ≠ 0) : a :: gCut1 c a b n = (List.range (n + 1)).map (eP c a b n) := by
  obtain ⟨m, rfl⟩ : ∃ m, n = m + 1 := ⟨n - 1, by omega⟩
  rw [List.range_succ_eq_map, List.map_cons, eP_zero h, List.map_map]
  congr 1
  unfold gCut1
  rw [List.range_succ, List.map_append, Nat.add_sub_cancel]
  congr 1
  show [b] = [eP c a b (m + 1) (m + 1)]
  rw [eP_last h hf hw]
theorem prs_range {α : Type} : ∀ (n : Nat) (e : Nat → α), prs ((List.range (n + 1)).map e) = (List.range n).map fun i => (e i, e (i + 1))
  | 0, e => rfl
  | n + 1, e => by
    have ih := prs_range n fun i => e (i + 1)
    have h1 : (List.range (n + 2)).map e = e 0 :: (List.range (n + 1)).map fun i => e (i + 1) := by
      rw [List.range_succ_eq_map, List.map_cons, List.map_map]
      rfl
    have h2 : (List.range (n + 1)).map (fun i => e (i + 1)) = e 1 :: (List.range n).map fun i => e (i + 2) := by
      rw [List.range_succ_eq_map, List.map_cons, List.map_map]
      rfl
    rw [h1, h2]
    show (e 0, e 1) :: prs (e 1 :: _) = _
    rw [← h2, ih, List.range_succ_eq_map, List.map_cons, List.map_map]
    rfl
/-- what a chord brings -/
def fC (c p : Pt) (z : Pt × Pt) : Int := gPassed z.1 z.2 p + iB (gBetween c z.1 z.2 p)
theorem chainN {c p : Pt} {e : Nat → Pt} {N : Nat} (h0 : ∀ k, gFar c (e k) = gFar c (e 0)) (hp : ∀ k, k ≤ N → p ≠ e k) (hD : ∀ j k, 0 < j → j < k → 0 < gAcross (gOff (e j) (e 0)) (gOff (e k) (e 0))) :
    ∀ k, k + 1 ≤ N → ((List.range (k + 1)).map fun i => fC c p (e i, e (i + 1))).sum = fC c p (e 0, e (k + 1))
  | 0, _ => by simp
  | k + 1, hk => by
    rw [List.range_succ, List.map_append, List.sum_append, chainN h0 hp hD k (by omega)]
    simp only [List.map_cons, List.map_nil, List.sum_cons, List.sum_nil, Int.add_zero]
    exact (chord_step (h0 _) (h0 _) (hD (k + 1) (k + 2) (by omega) (by omega)) (hp _ (by omega)) (hp _ (by omega)) (hp _ (by omega))).symm
theorem cut_sum {c a b p : Pt} {n : Nat} (h : 1 ≤ n) (hf : gFar c b = gFar c a) (hR : 0 < gFar c a) (hw : gWhole c a b ≠ 0) (hs : 0 < gShare c a b) (hp : ∀ x ∈ a :: gCut1 c a b n, p ≠ x) :
    ((prs (a :: gCut1 c a b n)).map (fC c p)).sum = fC c p (a, b) := by
  rw [cut1_eq h hf hw] at hp ⊢
  rw [prs_range, List.map_map]
  obtain ⟨m, rfl⟩ : ∃ m, n = m + 1 := ⟨n - 1, by omega⟩
  have := chainN (c := c) (p := p) (e := eP c a b (m + 1)) (N := m + 1) (fun k => by rw [eP_zero h]; exact at_far _ _ _) (fun k hk => hp _ (List.mem_map.mpr ⟨k, List.mem_range.mpr (by omega), rfl⟩)) (fun j k hj hjk => by
    rw [eP_zero h]
    have l1 := dn_lt (n := m + 1) h hj
    have l2 := dn_lt (n := m + 1) h hjk
    rw [dn_zero h] at l1
    have m1 := mpp hs l1
    have m2 := mpp hs (show 0 < Rat.divInt (k : Int) ((m + 1 : Nat) : Int) - Rat.divInt (j : Int) ((m + 1 : Nat) : Int) by grind)
    exact at_pos hR m1 (by grind)) m (Nat.le_refl _)
  rw [eP_zero h, eP_last h hf hw] at this
  exact this
theorem prs_glue {α : Type} (y : α) (R : List α) : ∀ (x : α) (L : List α), prs (x :: (L ++ [y] ++ R)) = prs (x :: (L ++ [y])) ++ prs (y :: R)
  | x, [] => rfl
  | x, l :: L => by
    show (x, l) :: prs (l :: (L ++ [y] ++ R)) = (x, l) :: (prs (l :: (L ++ [y])) ++ prs (y :: R))
    rw [prs_glue y R l L]
theorem prs_flat {α : Type} (cut : α × α → List α) : ∀ (xs : List α) (x0 : α), (∀ z ∈ prs (x0 :: xs), ∃ L, cut z = L ++ [z.2]) → prs (x0 :: (prs (x0 :: xs)).flatMap cut) = (prs (x0 :: xs)).flatMap fun z => prs (z.1 :: cut z)
  | [], x0, _ => rfl
  | y :: r, x0, h => by
    have ih := prs_flat cut r y fun z hz => h z (List.mem_cons_of_mem _ hz)
    obtain ⟨L, hL⟩ := h (x0, y) List.mem_cons_self
    have e : prs (x0 :: y :: r) = (x0, y) :: prs (y :: r) := rfl
    rw [e, List.flatMap_cons, List.flatMap_cons, ← ih, hL]
    exact prs_glue y _ x0 L
theorem sum_flat {α β : Type} (f : β → Int) (g : α → List β) : ∀ l : List α, ((l.flatMap g).map f).sum = (l.map fun z => ((g z).map f).sum).sum
  | [] => rfl
  | a :: l => by
    rw [List.flatMap_cons, List.map_append, List.sum_append, sum_flat f g l]
    rfl
/-- what two neighbouring marks must be -/
def QOk (c : Pt) (z : Pt × Pt) : Prop := gFar c z.2 = gFar c z.1 ∧ 0 < gFar c z.1 ∧ 0 < gAcross (gOff z.1 c) (gOff z.2 c) ∧ 0 ≤ gAlong (gOff z.1 c) (gOff z.2 c)
theorem far_along (c a : Pt) : gAlong (gOff a c) (gOff a c) = gFar c a := by
  unfold gFar gAlong gOff
  simp only
  grind
theorem QOk.whole {c : Pt} {z : Pt × Pt} (h : QOk c z) : 0 < gWhole c z.1 z.2 := by
  unfold gWhole
  rw [far_along]
  have h1 := h.2.1
  have h2 := h.2.2.2
  grind
theorem QOk.share {c : Pt} {z : Pt × Pt} (h : QOk c z) : 0 < gShare c z.1 z.2 := by
  have e : gShare c z.1 z.2 * gWhole c z.1 z.2 = gAcross (gOff z.1 c) (gOff z.2 c) := by
    unfold gShare
    rw [Rat.div_mul_cancel (by have := h.whole; grind)]
  have w := h.whole
  have a := h.2.2.1
  by_cases g : 0 < gShare c z.1 z.2
  · exact g
  · have := mnp (show gShare c z.1 z.2 ≤ 0 by grind) (Rat.le_of_lt w)
    grind
theorem marks_sum {c p m0 : Pt} {mr : List Pt} {n : Nat} (h : 1 ≤ n) (hq : ∀ z ∈ prs (m0 :: mr), QOk c z) (hp : ∀ x ∈ m0 :: (prs (m0 :: mr)).flatMap fun z => gCut1 c z.1 z.2 n, p ≠ x) (hpm : ∀ x ∈ m0 :: mr, p ≠ x) :
    ((prs (m0 :: (prs (m0 :: mr)).flatMap fun z => gCut1 c z.1 z.2 n)).map (fC c p)).sum = ((prs (m0 :: mr)).map (fC c p)).sum := by
  rw [prs_flat (fun z => gCut1 c z.1 z.2 n) mr m0 fun z hz => ⟨_, rfl⟩, sum_flat]
  congr 1
  apply List.map_congr_left
  intro z hz
  have q := hq z hz
  refine cut_sum h q.1 q.2.1 (by have := q.whole; grind) q.share fun x hx => ?_
  rcases List.mem_cons.mp hx with rfl | hx
  · exact hpm _ (prs_mem (a := z.1) (b := z.2) hz).1
  · exact hp x (List.mem_cons_of_mem _ (List.mem_flatMap.mpr ⟨z, hz, hx⟩))
end Ar
set_option maxHeartbeats 4000000
/-! Plain: the quarters of an arc. -/
namespace Ar
theorem sgn_nn {x : Rat} : 0 ≤ gSgn x ↔ 0 ≤ x := by
  have := @sgn_neg x
  constructor
  · intro h
    by_cases g : 0 ≤ x
    · exact g
    · have := this.mpr (by grind); omega
  · intro h
    by_cases g : 0 ≤ gSgn x
    · exact g
    · have := this.mp (by omega); grind
theorem quart0 {o w : Pt} (h : 0 < gAlong o w ∧ 0 ≤ gAcross o w) : gQuart o w = 0 := by
  unfold gQuart
  rw [if_pos (by rw [decide_eq_true (sgn_pos.mpr h.1), decide_eq_true (sgn_nn.mpr h.2)]; rfl)]
theorem quartN {o w : Pt} (h : ¬ (0 < gAlong o w ∧ 0 ≤ gAcross o w)) : gQuart o w = if 0 < gAcross o w then 1 else if gAlong o w < 0 then 2 else 3 := by
  unfold gQuart
  have e : ¬ (decide (0 < gSgn (gAlong o w)) && decide (0 ≤ gSgn (gAcross o w))) = true := fun z => by
    rw [Bool.and_eq_true, decide_eq_true_iff, decide_eq_true_iff, sgn_pos, sgn_nn] at z
    exact h z
  rw [if_neg e]
  by_cases h1 : 0 < gAcross o w
  · rw [if_pos h1, if_pos (sgn_pos.mpr h1)]
  · rw [if_neg h1, if_neg fun z => h1 (sgn_pos.mp z)]
    by_cases h2 : gAlong o w < 0
    · rw [if_pos h2, if_pos (sgn_neg.mpr h2)]
    · rw [if_neg h2, if_neg fun z => h2 (sgn_neg.mp z)]
theorem cand_off (c a : Pt) (k : Nat) : gOff (gCand c a k) c = gTurn (gOff a c) k := by
  unfold gCand gTog gOff
  refine Prod.ext ?_ ?_ <;> simp only <;> grind
theorem turn1 (o : Pt) : gTurn o 1 = (-o.2, o.1) := rfl
theorem turn2 (o : Pt) : gTurn o 2 = (-o.1, -o.2) := rfl
theorem turn3 (o : Pt) : gTurn o 3 = (o.2, -o.1) := by
  show (- -o.2, -o.1) = _
  rw [Rat.neg_neg]
theorem num_pos' {x : Rat} : 0 < x.num ↔ 0 < x := by
  have h := Rat.lt_iff 0 x
  simp at h
  exact h.symm
def qo (o w : Pt) : Prop := gAlong w w = gAlong o o ∧ 0 < gAlong o o ∧ 0 < gAcross o w ∧ 0 ≤ gAlong o w
theorem qok_of {c x y : Pt} (h : qo (gOff x c) (gOff y c)) : QOk c (x, y) := by
  unfold QOk
  unfold qo at h
  rw [far_along, far_along] at h
  exact h
section
variable {o w : Pt} (hr : 0 < gAlong o o) (hw : gAlong w w = gAlong o o)
include hr
theorem qo1 : qo o (gTurn o 1) := by
  rw [turn1]; unfold qo gAlong gAcross at *; simp only; refine ⟨?_, hr, ?_, ?_⟩ <;> grind
theorem qo2 : qo (gTurn o 1) (gTurn o 2) := by
  rw [turn1, turn2]; unfold qo gAlong gAcross at *; simp only; refine ⟨?_, ?_, ?_, ?_⟩ <;> grind
theorem qo3 : qo (gTurn o 2) (gTurn o 3) := by
  rw [turn2, turn3]; unfold qo gAlong gAcross at *; simp only; refine ⟨?_, ?_, ?_, ?_⟩ <;> grind
theorem qo4 : qo (gTurn o 3) o := by
  rw [turn3]; unfold qo gAlong gAcross at *; simp only; refine ⟨?_, ?_, ?_, ?_⟩ <;> grind
theorem qt1 : gQuart o (gTurn o 1) = 1 := by
  have h := qo1 hr
  have e : gAlong o (gTurn o 1) = 0 := by rw [turn1]; unfold gAlong; simp only; grind
  rw [quartN fun z => by rw [e] at z; exact absurd z.1 (by decide), if_pos h.2.2.1]
theorem qt2 : gQuart o (gTurn o 2) = 2 := by
  have e : gAlong o (gTurn o 2) = -gAlong o o := by rw [turn2]; unfold gAlong; simp only; grind
  have e2 : gAcross o (gTurn o 2) = 0 := by rw [turn2]; unfold gAcross; simp only; grind
  rw [quartN fun z => by rw [e] at z; grind, if_neg (by rw [e2]; decide), if_pos (by rw [e]; grind)]
theorem qt3 : gQuart o (gTurn o 3) = 3 := by
  have e : gAlong o (gTurn o 3) = 0 := by rw [turn3]; unfold gAlong; simp only; grind
  have e2 : gAcross o (gTurn o 3) = -gAlong o o := by rw [turn3]; unfold gAcross gAlong; simp only; grind
  rw [quartN fun z => by rw [e] at z; exact absurd z.1 (by decide), if_neg (by rw [e2]; grind), if_neg (by rw [e]; decide)]
include hw
theorem along_sq : gAlong o w * gAlong o w + gAcross o w * gAcross o w = gAlong o o * gAlong o o := by
  have : gAlong o w * gAlong o w + gAcross o w * gAcross o w = gAlong o o * gAlong w w := by unfold gAlong gAcross; grind
  rw [this, hw]
theorem not_both : ¬ (gAlong o w = 0 ∧ gAcross o w = 0) := fun z => by
  have h := along_sq hr hw
  rw [z.1, z.2] at h
  have := mpp hr hr
  grind
end
theorem ahead_iff {c a b : Pt} (hr : 0 < gAlong (gOff a c) (gOff a c)) (hw : gAlong (gOff b c) (gOff b c) = gAlong (gOff a c) (gOff a c)) :
    (gAhead c a (gCand c a 1) b = true ↔ gAlong (gOff a c) (gOff b c) < 0 ∨ gAcross (gOff a c) (gOff b c) < 0) ∧ (gAhead c a (gCand c a 2) b = true ↔ gAcross (gOff a c) (gOff b c) < 0) ∧ (gAhead c a (gCand c a 3) b = true ↔ gAcross (gOff a c) (gOff b c) < 0 ∧ 0 < gAlong (gOff a c) (gOff b c)) := by
  have nb := not_both hr hw
  have h1 := qt1 hr
  have h2 := qt2 hr
  have h3 := qt3 hr
  have x1 : gAcross (gTurn (gOff a c) 1) (gOff b c) = -gAlong (gOff a c) (gOff b c) := by rw [turn1]; unfold gAcross gAlong; simp only; grind
  have x2 : gAcross (gTurn (gOff a c) 2) (gOff b c) = -gAcross (gOff a c) (gOff b c) := by rw [turn2]; unfold gAcross; simp only; grind
  have x3 : gAcross (gTurn (gOff a c) 3) (gOff b c) = gAlong (gOff a c) (gOff b c) := by rw [turn3]; unfold gAcross gAlong; simp only; grind
  have q0 := @quart0 (gOff a c) (gOff b c)
  have qN := @quartN (gOff a c) (gOff b c)
  unfold gAhead
  rw [cand_off, cand_off, cand_off, h1, h2, h3, x1, x2, x3]
  generalize gQuart (gOff a c) (gOff b c) = q at *
  generalize gAlong (gOff a c) (gOff b c) = A at *
  generalize gAcross (gOff a c) (gOff b c) = C at *
  have dd : ∀ x : Rat, (decide (0 < x.num) = true) ↔ 0 < x := fun x => by rw [decide_eq_true_iff]; exact num_pos'
  by_cases k0 : 0 < A ∧ 0 ≤ C
  · have := q0 k0
    subst this
    refine ⟨?_, ?_, ?_⟩ <;> (rw [if_neg (by decide)]; simp only [decide_eq_true_eq]; grind)
  · have q' := qN k0
    by_cases k1 : 0 < C
    · rw [if_pos k1] at q'
      subst q'
      refine ⟨?_, ?_, ?_⟩
      · rw [if_pos rfl, dd]; grind
      · rw [if_neg (by decide)]; simp only [decide_eq_true_eq]; grind
      · rw [if_neg (by decide)]; simp only [decide_eq_true_eq]; grind
    · rw [if_neg k1] at q'
      by_cases k2 : A < 0
      · rw [if_pos k2] at q'
        subst q'
        refine ⟨?_, ?_, ?_⟩
        · rw [if_neg (by decide)]; simp only [decide_eq_true_eq]; grind
        · rw [if_pos rfl, dd]; grind
        · rw [if_neg (by decide)]; simp only [decide_eq_true_eq]; grind
      · rw [if_neg k2] at q'
        subst q'
        refine ⟨?_, ?_, ?_⟩
        · rw [if_neg (by decide)]; simp only [decide_eq_true_eq]; grind
        · rw [if_neg (by decide)]; simp only [decide_eq_true_eq]; grind
        · rw [if_pos rfl, dd]; grind
theorem far_pos {c a : Pt} (h : c ≠ a) : 0 < gFar c a := by
  have h1 : 0 ≤ gFar c a := by unfold gFar gAlong; exact sq2 _ _
  have h2 : gFar c a ≠ 0 := fun z => h (far_zero z)
  grind
theorem arc_ok {c a b : Pt} (hf : gFar c b = gFar c a) (hc : c ≠ a) : ∀ z ∈ prs (gQuarters (gArc c a b)), QOk c z := by
  have hr : 0 < gAlong (gOff a c) (gOff a c) := by rw [far_along]; exact far_pos hc
  have hw : gAlong (gOff b c) (gOff b c) = gAlong (gOff a c) (gOff a c) := by rw [far_along, far_along]; exact hf
  have e1 : QOk c (a, gCand c a 1) := qok_of (by rw [cand_off]; exact qo1 hr)
  have e2 : QOk c (gCand c a 1, gCand c a 2) := qok_of (by rw [cand_off, cand_off]; exact qo2 hr)
  have e3 : QOk c (gCand c a 2, gCand c a 3) := qok_of (by rw [cand_off, cand_off]; exact qo3 hr)
  unfold gArc
  by_cases hab : a = b
  · rw [if_pos hab]
    intro z hz
    have e4 : QOk c (gCand c a 3, a) := qok_of (by rw [cand_off]; exact qo4 hr)
    have hz : z ∈ [(a, gCand c a 1), (gCand c a 1, gCand c a 2), (gCand c a 2, gCand c a 3), (gCand c a 3, a)] := hz
    simp only [List.mem_cons, List.not_mem_nil, or_false] at hz
    rcases hz with rfl | rfl | rfl | rfl <;> assumption
  · rw [if_neg hab]
    obtain ⟨a1, a2, a3⟩ := ahead_iff hr hw
    have nb := not_both hr hw
    have sq := along_sq hr hw
    have hC : 0 ≤ gAlong (gOff a c) (gOff b c) → 0 ≤ gAcross (gOff a c) (gOff b c) → 0 < gAcross (gOff a c) (gOff b c) := fun l1 l2 => by
      by_cases z : gAcross (gOff a c) (gOff b c) = 0
      · exfalso
        apply hab
        rw [z] at sq
        have f : (gAlong (gOff a c) (gOff b c) - gAlong (gOff a c) (gOff a c)) * (gAlong (gOff a c) (gOff b c) + gAlong (gOff a c) (gOff a c)) = 0 := by grind
        rcases Rat.mul_eq_zero.mp f with f | f
        · have d := sq2_zero (a := a.1 - b.1) (b := a.2 - b.2) (by
            unfold gAlong gOff at f hw
            simp only at f hw
            grind)
          exact Prod.ext (by grind) (by grind)
        · grind
      · grind
    intro z hz
    show QOk c z
    have y1 : gAcross (gTurn (gOff a c) 1) (gOff b c) = -gAlong (gOff a c) (gOff b c) := by rw [turn1]; unfold gAcross gAlong; simp only; grind
    have y2 : gAcross (gTurn (gOff a c) 2) (gOff b c) = -gAcross (gOff a c) (gOff b c) := by rw [turn2]; unfold gAcross; simp only; grind
    have y3 : gAcross (gTurn (gOff a c) 3) (gOff b c) = gAlong (gOff a c) (gOff b c) := by rw [turn3]; unfold gAcross gAlong; simp only; grind
    have z1 : gAlong (gTurn (gOff a c) 1) (gOff b c) = gAcross (gOff a c) (gOff b c) := by rw [turn1]; unfold gAcross gAlong; simp only; grind
    have z2 : gAlong (gTurn (gOff a c) 2) (gOff b c) = -gAlong (gOff a c) (gOff b c) := by rw [turn2]; unfold gAlong; simp only; grind
    have z3 : gAlong (gTurn (gOff a c) 3) (gOff b c) = -gAcross (gOff a c) (gOff b c) := by rw [turn3]; unfold gAcross gAlong; simp only; grind
    have w1 : gAlong (gTurn (gOff a c) 1) (gTurn (gOff a c) 1) = gAlong (gOff a c) (gOff a c) := turn_sq _ _ _
    have w2 : gAlong (gTurn (gOff a c) 2) (gTurn (gOff a c) 2) = gAlong (gOff a c) (gOff a c) := turn_sq _ _ _
    have w3 : gAlong (gTurn (gOff a c) 3) (gTurn (gOff a c) 3) = gAlong (gOff a c) (gOff a c) := turn_sq _ _ _
    have hz : z ∈ prs ((a :: [gCand c a 1, gCand c a 2, gCand c a 3].filter fun p => gAhead c a p b) ++ [b]) := hz
    by_cases b1 : gAhead c a (gCand c a 1) b = true
    · by_cases b2 : gAhead c a (gCand c a 2) b = true
      · by_cases b3 : gAhead c a (gCand c a 3) b = true
        simp only [List.filter_cons, List.filter_nil] at hz
        · rw [if_pos b1, if_pos b2, if_pos b3] at hz
          have hz : z ∈ [(a, gCand c a 1), (gCand c a 1, gCand c a 2), (gCand c a 2, gCand c a 3), (gCand c a 3, b)] := hz
          have f := a3.mp b3
          have e4 : QOk c (gCand c a 3, b) := qok_of (by rw [cand_off]; exact ⟨by rw [w3]; exact hw, by rw [w3]; exact hr, by rw [y3]; exact f.2, by rw [z3]; grind⟩)
          simp only [List.mem_cons, List.not_mem_nil, or_false] at hz
          rcases hz with rfl | rfl | rfl | rfl <;> assumption
        simp only [List.filter_cons, List.filter_nil] at hz
        · rw [if_pos b1, if_pos b2, if_neg b3] at hz
          have hz : z ∈ [(a, gCand c a 1), (gCand c a 1, gCand c a 2), (gCand c a 2, b)] := hz
          have f := a2.mp b2
          have g : ¬ _ := fun t => b3 (a3.mpr t)
          have e4 : QOk c (gCand c a 2, b) := qok_of (by rw [cand_off]; exact ⟨by rw [w2]; exact hw, by rw [w2]; exact hr, by rw [y2]; grind, by rw [z2]; grind⟩)
          simp only [List.mem_cons, List.not_mem_nil, or_false] at hz
          rcases hz with rfl | rfl | rfl <;> assumption
      · have b3 : ¬ gAhead c a (gCand c a 3) b = true := fun t => b2 (a2.mpr (a3.mp t).1)
        simp only [List.filter_cons, List.filter_nil] at hz
        rw [if_pos b1, if_neg b2, if_neg b3] at hz
        have hz : z ∈ [(a, gCand c a 1), (gCand c a 1, b)] := hz
        have f := a1.mp b1
        have g : ¬ _ := fun t => b2 (a2.mpr t)
        have e4 : QOk c (gCand c a 1, b) := qok_of (by rw [cand_off]; exact ⟨by rw [w1]; exact hw, by rw [w1]; exact hr, by rw [y1]; grind, by rw [z1]; grind⟩)
        simp only [List.mem_cons, List.not_mem_nil, or_false] at hz
        rcases hz with rfl | rfl <;> assumption
    · have b2 : ¬ gAhead c a (gCand c a 2) b = true := fun t => b1 (a1.mpr (Or.inr (a2.mp t)))
      have b3 : ¬ gAhead c a (gCand c a 3) b = true := fun t => b2 (a2.mpr (a3.mp t).1)
      simp only [List.filter_cons, List.filter_nil] at hz
      rw [if_neg b1, if_neg b2, if_neg b3] at hz
      have hz : z ∈ [(a, b)] := hz
      have g : ¬ _ := fun t => b1 (a1.mpr t)
      have l1 : 0 ≤ gAlong (gOff a c) (gOff b c) := by grind
      have l2 : 0 ≤ gAcross (gOff a c) (gOff b c) := by grind
      have e4 : QOk c (a, b) := qok_of ⟨hw, hr, hC l1 l2, l1⟩
      simp only [List.mem_cons, List.not_mem_nil, or_false] at hz
      rw [hz]; exact e4
theorem bend_ok {c a b : Pt} {way : Int} (h : LegOk (.bend c a b way)) : ∀ z ∈ prs (gQuarters (gPiece (.bend c a b way))), QOk c z := by
  obtain ⟨h1, h2, h3, h4⟩ := h
  show ∀ z ∈ prs (gQuarters (if 0 < way then gArc c a b else gArc c b a)), QOk c z
  split
  · exact arc_ok h1.symm h2
  · exact arc_ok h1 h3
end Ar
set_option maxHeartbeats 4000000
/-! Plain: the marks of a cut bend are unlike its ends. -/
namespace Ar
/-- the points within a quarter's cut -/
def gIn (c a b : Pt) (n : Nat) : List Pt := (List.range (n - 1)).map fun k : Nat => gAt c a (gShare c a b * Rat.divInt ((k : Int) + 1) (n : Int))
theorem cut1_in (c a b : Pt) (n : Nat) : gCut1 c a b n = gIn c a b n ++ [b] := rfl
theorem at_along (c a : Pt) (t : Rat) : gAlong (gOff a c) (gOff (gAt c a t) c) = gU t * gFar c a := by
  unfold gAlong gOff gAt gTog gFar gAlong gOff
  simp only
  grind
theorem at_across (c a : Pt) (t : Rat) : gAcross (gOff a c) (gOff (gAt c a t) c) = gV t * gFar c a := by
  unfold gAcross gOff gAt gTog gFar gAlong gOff
  simp only
  grind
theorem pos_of_mul {a d : Rat} (hd : 0 < d) (h : 0 < a * d) : 0 < a := by
  by_cases g : 0 < a
  · exact g
  · have := mnp (show a ≤ 0 by grind) (Rat.le_of_lt hd)
    grind
theorem QOk.share_le {c : Pt} {z : Pt × Pt} (h : QOk c z) : gShare c z.1 z.2 ≤ 1 := by
  have e : gShare c z.1 z.2 * gWhole c z.1 z.2 = gAcross (gOff z.1 c) (gOff z.2 c) := by
    unfold gShare
    rw [Rat.div_mul_cancel (by have := h.whole; grind)]
  have w := h.whole
  obtain ⟨h1, h2, h3, h4⟩ := h
  have hr : 0 < gAlong (gOff z.1 c) (gOff z.1 c) := by rw [far_along]; exact h2
  have hw : gAlong (gOff z.2 c) (gOff z.2 c) = gAlong (gOff z.1 c) (gOff z.1 c) := by rw [far_along, far_along]; exact h1
  have sq := along_sq hr hw
  have ew : gWhole c z.1 z.2 = gAlong (gOff z.1 c) (gOff z.1 c) + gAlong (gOff z.1 c) (gOff z.2 c) := rfl
  rw [ew] at e w
  generalize gAlong (gOff z.1 c) (gOff z.1 c) = R at *
  generalize gAlong (gOff z.1 c) (gOff z.2 c) = A at *
  generalize gAcross (gOff z.1 c) (gOff z.2 c) = C at *
  generalize gShare c z.1 z.2 = s at *
  have hC : C ≤ R := by
    by_cases g : C ≤ R
    · exact g
    · have k1 := mpp (show 0 < C - R by grind) (show 0 < C + R by grind)
      have k2 := mnn h4 h4
      grind
  by_cases g : s ≤ 1
  · exact g
  · have := mpp (show 0 < s - 1 by grind) w
    grind
/-- strictly within a quarter -/
def Wi (c y y' x : Pt) : Prop := 0 < gAcross (gOff y c) (gOff x c) ∧ 0 < gAlong (gOff y c) (gOff x c) ∧ x ≠ y'
theorem gIn_wi {c : Pt} {z : Pt × Pt} (h : QOk c z) {n : Nat} {x : Pt} (hx : x ∈ gIn c z.1 z.2 n) : Wi c z.1 z.2 x := by
  unfold gIn at hx
  obtain ⟨k, hk, rfl⟩ := List.mem_map.mp hx
  have hk := List.mem_range.mp hk
  have hn : 1 ≤ n := by omega
  have hs := h.share
  have hs1 := h.share_le
  have l0 := dn_lt (n := n) hn (show 0 < k + 1 by omega)
  have l1 := dn_lt (n := n) hn (show k + 1 < n by omega)
  rw [dn_zero hn] at l0
  rw [dn_one hn] at l1
  have ek : (((k + 1 : Nat) : Int)) = (k : Int) + 1 := by omega
  rw [ek] at l0 l1
  generalize Rat.divInt ((k : Int) + 1) (n : Int) = r at *
  generalize hsh : gShare c z.1 z.2 = s at *
  have t0 : 0 < s * r := mpp hs l0
  have t1 : s * r < s := by
    have := mpp hs (show 0 < 1 - r by grind)
    grind
  have dp := d_pos (s * r)
  have hu := u_mul (s * r)
  have hv := v_mul (s * r)
  have r0 : 0 < gFar c z.1 := h.2.1
  have tt : (s * r) * (s * r) < 1 := by
    have := mnn (show 0 ≤ 1 - s * r by grind) (Rat.le_of_lt t0)
    grind
  refine ⟨?_, ?_, fun e => ?_⟩
  · rw [at_across]
    refine mpp (pos_of_mul dp ?_) r0
    rw [hv]
    grind
  · rw [at_along]
    refine mpp (pos_of_mul dp ?_) r0
    rw [hu]
    grind
  · have p := at_pos (c := c) (a := z.1) r0 t0 t1
    have e2 : gAt c z.1 s = z.2 := by
      rw [← hsh]
      exact at_share h.1 (by have := h.whole; grind)
    rw [e2, e] at p
    unfold gAcross at p
    grind
/-- where the neighbours of an arc's quarters stand -/
def Zq (c a b : Pt) (z : Pt × Pt) : Prop := ∃ k, k ≤ 3 ∧ gOff z.1 c = gTurn (gOff a c) k ∧ (z.2 = b ∨ (k ≤ 2 ∧ gAhead c a (gCand c a (k + 1)) b = true))
theorem arc_z {c a b : Pt} (hf : gFar c b = gFar c a) (hc : c ≠ a) : ∀ z ∈ prs (gQuarters (.arc c a b)), Zq c a b z := by
  have hr : 0 < gAlong (gOff a c) (gOff a c) := by rw [far_along]; exact far_pos hc
  have hw : gAlong (gOff b c) (gOff b c) = gAlong (gOff a c) (gOff a c) := by rw [far_along, far_along]; exact hf
  obtain ⟨a1, a2, a3⟩ := ahead_iff hr hw
  intro z hz
  have o0 : gOff a c = gTurn (gOff a c) 0 := rfl
  have o1 : gOff (gCand c a 1) c = gTurn (gOff a c) 1 := cand_off c a 1
  have o2 : gOff (gCand c a 2) c = gTurn (gOff a c) 2 := cand_off c a 2
  have o3 : gOff (gCand c a 3) c = gTurn (gOff a c) 3 := cand_off c a 3
  have hz : z ∈ prs ((a :: [gCand c a 1, gCand c a 2, gCand c a 3].filter fun p => gAhead c a p b) ++ [b]) := hz
  by_cases b1 : gAhead c a (gCand c a 1) b = true
  · by_cases b2 : gAhead c a (gCand c a 2) b = true
    · by_cases b3 : gAhead c a (gCand c a 3) b = true
      simp only [List.filter_cons, List.filter_nil] at hz
      · rw [if_pos b1, if_pos b2, if_pos b3] at hz
        have hz : z ∈ [(a, gCand c a 1), (gCand c a 1, gCand c a 2), (gCand c a 2, gCand c a 3), (gCand c a 3, b)] := hz
        simp only [List.mem_cons, List.not_mem_nil, or_false] at hz
        rcases hz with rfl | rfl | rfl | rfl
        · exact ⟨0, by omega, o0, Or.inr ⟨by omega, b1⟩⟩
        · exact ⟨1, by omega, o1, Or.inr ⟨by omega, b2⟩⟩
        · exact ⟨2, by omega, o2, Or.inr ⟨by omega, b3⟩⟩
        · exact ⟨3, by omega, o3, Or.inl rfl⟩
      simp only [List.filter_cons, List.filter_nil] at hz
      · rw [if_pos b1, if_pos b2, if_neg b3] at hz
        have hz : z ∈ [(a, gCand c a 1), (gCand c a 1, gCand c a 2), (gCand c a 2, b)] := hz
        simp only [List.mem_cons, List.not_mem_nil, or_false] at hz
        rcases hz with rfl | rfl | rfl
        · exact ⟨0, by omega, o0, Or.inr ⟨by omega, b1⟩⟩
        · exact ⟨1, by omega, o1, Or.inr ⟨by omega, b2⟩⟩
        · exact ⟨2, by omega, o2, Or.inl rfl⟩
    · have b3 : ¬ gAhead c a (gCand c a 3) b = true := fun t => b2 (a2.mpr (a3.mp t).1)
      simp only [List.filter_cons, List.filter_nil] at hz
      rw [if_pos b1, if_neg b2, if_neg b3] at hz
      have hz : z ∈ [(a, gCand c a 1), (gCand c a 1, b)] := hz
      simp only [List.mem_cons, List.not_mem_nil, or_false] at hz
      rcases hz with rfl | rfl
      · exact ⟨0, by omega, o0, Or.inr ⟨by omega, b1⟩⟩
      · exact ⟨1, by omega, o1, Or.inl rfl⟩
  · have b2 : ¬ gAhead c a (gCand c a 2) b = true := fun t => b1 (a1.mpr (Or.inr (a2.mp t)))
    have b3 : ¬ gAhead c a (gCand c a 3) b = true := fun t => b2 (a2.mpr (a3.mp t).1)
    simp only [List.filter_cons, List.filter_nil] at hz
    rw [if_neg b1, if_neg b2, if_neg b3] at hz
    have hz : z ∈ [(a, b)] := hz
    simp only [List.mem_cons, List.not_mem_nil, or_false] at hz
    rw [hz]
    exact ⟨0, by omega, o0, Or.inl rfl⟩
section
variable {c a b : Pt}
theorem wi_ne_a {k : Nat} {x y y' : Pt} (hk : k ≤ 3) (hy : gOff y c = gTurn (gOff a c) k) (hx : Wi c y y' x) : x ≠ a := by
  rintro rfl
  obtain ⟨h1, h2, -⟩ := hx
  rw [hy] at h1 h2
  have p := sq2 (gOff x c).1 (gOff x c).2
  have hk : k = 0 ∨ k = 1 ∨ k = 2 ∨ k = 3 := by omega
  rcases hk with rfl | rfl | rfl | rfl
  · unfold gAcross at h1
    have e : gTurn (gOff x c) 0 = gOff x c := rfl
    rw [e] at h1
    grind
  · rw [turn1] at h1; unfold gAcross at h1; simp only at h1; grind
  · rw [turn2] at h1; unfold gAcross at h1; simp only at h1; grind
  · rw [turn3] at h2; unfold gAlong at h2; simp only at h2; grind
theorem wi_ne_b (hr : 0 < gAlong (gOff a c) (gOff a c)) (hw : gAlong (gOff b c) (gOff b c) = gAlong (gOff a c) (gOff a c)) {k : Nat} {x y y' : Pt} (hk : k ≤ 3) (hy : gOff y c = gTurn (gOff a c) k) (hx : Wi c y y' x) (h : y' = b ∨ (k ≤ 2 ∧ gAhead c a (gCand c a (k + 1)) b = true)) : x ≠ b := by
  rintro rfl
  obtain ⟨h1, h2, h3⟩ := hx
  rcases h with h | ⟨hk, h⟩
  · exact h3 h.symm
  · obtain ⟨a1, a2, a3⟩ := ahead_iff hr hw
    rw [hy] at h1 h2
    have hk : k = 0 ∨ k = 1 ∨ k = 2 := by omega
    rcases hk with rfl | rfl | rfl
    · have e : gTurn (gOff a c) 0 = gOff a c := rfl
      rw [e] at h1 h2
      have := a1.mp h
      grind
    · have := a2.mp h
      rw [turn1] at h1 h2
      unfold gAlong gAcross at *
      simp only at *
      grind
    · have := a3.mp h
      rw [turn2] at h1 h2
      unfold gAlong gAcross at *
      simp only at *
      grind
theorem cand_ne_a (hr : 0 < gAlong (gOff a c) (gOff a c)) {k : Nat} (hk : k = 1 ∨ k = 2 ∨ k = 3) : gCand c a k ≠ a := fun e => by
  have h := cand_off c a k
  rw [e] at h
  have h1 := congrArg Prod.fst h
  have h2 := congrArg Prod.snd h
  unfold gAlong at hr
  have zz : ∀ {x y : Rat}, 0 < x * x + y * y → x = 0 → y = 0 → False := fun {x y} h hx hy => by subst hx hy; grind
  generalize ex : (gOff a c).1 = x at hr
  generalize ey : (gOff a c).2 = y at hr
  rcases hk with rfl | rfl | rfl
  · rw [turn1, ex, ey] at h1
    rw [turn1, ex, ey] at h2
    have h1 : x = -y := h1
    have h2 : y = x := h2
    exact zz hr (by grind) (by grind)
  · rw [turn2, ex, ey] at h1
    rw [turn2, ex, ey] at h2
    have h1 : x = -x := h1
    have h2 : y = -y := h2
    exact zz hr (by grind) (by grind)
  · rw [turn3, ex, ey] at h1
    rw [turn3, ex, ey] at h2
    have h1 : x = y := h1
    have h2 : y = -x := h2
    exact zz hr (by grind) (by grind)
theorem cand_ne_b (hr : 0 < gAlong (gOff a c) (gOff a c)) (hw : gAlong (gOff b c) (gOff b c) = gAlong (gOff a c) (gOff a c)) {k : Nat} (hk : k = 1 ∨ k = 2 ∨ k = 3) (h : gAhead c a (gCand c a k) b = true) : gCand c a k ≠ b := fun e => by
  obtain ⟨a1, a2, a3⟩ := ahead_iff hr hw
  have o := cand_off c a k
  rw [e] at o
  rcases hk with rfl | rfl | rfl
  · have := a1.mp h
    rw [o, turn1] at this
    unfold gAlong gAcross at *
    simp only at *
    grind
  · have := a2.mp h
    rw [o, turn2] at this
    unfold gAlong gAcross at *
    simp only at *
    grind
  · have := a3.mp h
    rw [o, turn3] at this
    unfold gAlong gAcross at *
    simp only at *
    grind
end
theorem prs_snoc {α : Type} (y z : α) : ∀ (L : List α), prs (L ++ [y, z]) = prs (L ++ [y]) ++ [(y, z)]
  | [] => rfl
  | [x] => rfl
  | x :: w :: L => by
    have h := prs_snoc y z (w :: L)
    show (x, w) :: prs ((w :: L) ++ [y, z]) = (x, w) :: (prs ((w :: L) ++ [y]) ++ [(y, z)])
    rw [h]
/-- the marks but the ends -/
theorem flat_init {α : Type} (L : α × α → List α) (m0 : α) (mid : List α) (b : α) : ∃ mid' : List α, ((prs (m0 :: mid ++ [b])).flatMap fun z => L z ++ [z.2]) = mid' ++ [b] ∧ ∀ x ∈ mid', (∃ z ∈ prs (m0 :: mid ++ [b]), x ∈ L z) ∨ x ∈ mid := by
  obtain ⟨i, y, e⟩ : ∃ i y, m0 :: mid = i ++ [y] := ⟨_, _, (List.dropLast_concat_getLast (List.cons_ne_nil m0 mid)).symm⟩
  have e2 : m0 :: mid ++ [b] = i ++ [y, b] := by rw [e, List.append_assoc]; rfl
  rw [e2, prs_snoc, List.flatMap_append]
  have e3 : ([(y, b)].flatMap fun z : α × α => L z ++ [z.2]) = L (y, b) ++ [b] := by simp
  rw [e3, ← List.append_assoc]
  refine ⟨_, rfl, fun x hx => ?_⟩
  rcases List.mem_append.mp hx with hx | hx
  · obtain ⟨z, hz, hx⟩ := List.mem_flatMap.mp hx
    rcases List.mem_append.mp hx with hx | hx
    · exact Or.inl ⟨z, List.mem_append_left _ hz, hx⟩
    · rw [List.mem_singleton.mp hx]
      rw [← e] at hz
      right
      obtain ⟨j, hj⟩ := List.getElem?_of_mem hz
      have := (prs_get' hj).2
      rw [List.getElem?_cons_succ] at this
      exact List.mem_of_getElem? this
  · exact Or.inl ⟨(y, b), List.mem_append_right _ List.mem_cons_self, hx⟩
/-- the marks of an arc: its ends and what is within -/
theorem arc_marks {c a b : Pt} {n : Nat} (hf : gFar c b = gFar c a) (hc : c ≠ a) : ∃ mid : List Pt, (∀ x ∈ mid, x ≠ a ∧ x ≠ b) ∧ ((gQuarters (gArc c a b)).take 1 ++ (prs (gQuarters (gArc c a b))).flatMap fun z => gCut1 c z.1 z.2 n) = a :: mid ++ [b] := by
  have hr : 0 < gAlong (gOff a c) (gOff a c) := by rw [far_along]; exact far_pos hc
  have hw : gAlong (gOff b c) (gOff b c) = gAlong (gOff a c) (gOff a c) := by rw [far_along, far_along]; exact hf
  have ok := arc_ok hf hc
  unfold gArc at ok ⊢
  by_cases hab : a = b
  · rw [if_pos hab] at ok ⊢
    subst hab
    obtain ⟨mid', h1, h2⟩ := flat_init (fun z : Pt × Pt => gIn c z.1 z.2 n) a (gQs c a fun _ => true) a
    refine ⟨mid', fun x hx => ?_, ?_⟩
    rotate_left
    · show a :: ((prs (a :: (gQs c a fun _ => true) ++ [a])).flatMap fun z => gIn c z.1 z.2 n ++ [z.2]) = _
      rw [h1]
      rfl
    · have key : x ≠ a := by
        rcases h2 x hx with ⟨z, hz, hx⟩ | hx
        · have q := ok z hz
          have wi := gIn_wi q hx
          have hz : z ∈ [(a, gCand c a 1), (gCand c a 1, gCand c a 2), (gCand c a 2, gCand c a 3), (gCand c a 3, a)] := hz
          simp only [List.mem_cons, List.not_mem_nil, or_false] at hz
          rcases hz with rfl | rfl | rfl | rfl
          · exact wi_ne_a (k := 0) (by omega) rfl wi
          · exact wi_ne_a (k := 1) (by omega) (cand_off c a 1) wi
          · exact wi_ne_a (k := 2) (by omega) (cand_off c a 2) wi
          · exact wi_ne_a (k := 3) (by omega) (cand_off c a 3) wi
        · obtain ⟨k, hk, rfl, -⟩ := mem_qs hx
          exact cand_ne_a hr hk
      exact ⟨key, key⟩
  · rw [if_neg hab] at ok ⊢
    obtain ⟨mid', h1, h2⟩ := flat_init (fun z : Pt × Pt => gIn c z.1 z.2 n) a (gQs c a fun p => gAhead c a p b) b
    refine ⟨mid', fun x hx => ?_, ?_⟩
    rotate_left
    · show a :: ((prs (a :: (gQs c a fun p => gAhead c a p b) ++ [b])).flatMap fun z => gIn c z.1 z.2 n ++ [z.2]) = _
      rw [h1]
      rfl
    · rcases h2 x hx with ⟨z, hz, hx⟩ | hx
      · have q := ok z hz
        have wi := gIn_wi q hx
        obtain ⟨k, hk, ho, hb⟩ := arc_z hf hc z hz
        exact ⟨wi_ne_a hk ho wi, wi_ne_b hr hw hk ho wi hb⟩
      · obtain ⟨k, hk, rfl, ha⟩ := mem_qs hx
        exact ⟨cand_ne_a hr hk, cand_ne_b hr hw hk ha⟩
/-- the ends of a leg's cut, from its beginning to its end -/
def gPts (l : Leg) (n : Nat) : List Pt :=
  match l with
  | .str p q => [p, q]
  | .bend c p q way => if way < 0 then (gMarks (.bend c p q way) n).reverse else gMarks (.bend c p q way) n
theorem cut_pts (l : Leg) (n : Nat) : gCutLeg l n = (prs (gPts l n)).map fun z => .str z.1 z.2 := by
  cases l with
  | str p q => rfl
  | bend c p q way => rfl
theorem bend_pts {c p q : Pt} {way : Int} (n : Nat) (h : LegOk (.bend c p q way)) : ∃ mid : List Pt, (∀ x ∈ mid, x ≠ q) ∧ gPts (.bend c p q way) n = p :: mid ++ [q] := by
  obtain ⟨h1, h2, h3, h4⟩ := h
  rcases h4 with rfl | rfl
  · obtain ⟨mid, hm, e⟩ := arc_marks (n := n) h1.symm h2
    exact ⟨mid, fun x hx => (hm x hx).2, e⟩
  · obtain ⟨mid, hm, e⟩ := arc_marks (n := n) h1 h3
    refine ⟨mid.reverse, fun x hx => (hm x (List.mem_reverse.mp hx)).1, ?_⟩
    show (gMarks (.bend c p q (-1)) n).reverse = _
    have e2 : gMarks (.bend c p q (-1)) n = q :: mid ++ [p] := e
    rw [e2]
    simp
end Ar
set_option maxHeartbeats 4000000
/-! Plain: the law of one leg, of all legs. -/
namespace Ar
theorem prs_reverse {α : Type} : ∀ l : List α, prs l.reverse = ((prs l).map fun z => (z.2, z.1)).reverse
  | [] => rfl
  | [_] => rfl
  | x :: y :: r => by
    have ih := prs_reverse (y :: r)
    rw [List.reverse_cons (a := y)] at ih
    show prs ((x :: y :: r).reverse) = (((x, y) :: prs (y :: r)).map fun z => (z.2, z.1)).reverse
    rw [List.reverse_cons, List.reverse_cons, List.map_cons, List.reverse_cons, ← ih, List.append_assoc]
    exact prs_snoc y x r.reverse
theorem sum_rev : ∀ l : List Int, l.reverse.sum = l.sum
  | [] => rfl
  | x :: r => by
    rw [List.reverse_cons, List.sum_append, sum_rev r, List.sum_cons]
    simp
    omega
theorem sum_neg {α : Type} (f : α → Int) : ∀ l : List α, (l.map fun z => -f z).sum = -(l.map f).sum
  | [] => rfl
  | x :: r => by
    rw [List.map_cons, List.map_cons, List.sum_cons, List.sum_cons, sum_neg f r]
    omega
theorem sum_add {α : Type} (f g : α → Int) : ∀ l : List α, (l.map fun z => f z + g z).sum = (l.map f).sum + (l.map g).sum
  | [] => rfl
  | x :: r => by
    rw [List.map_cons, List.map_cons, List.map_cons, List.sum_cons, List.sum_cons, List.sum_cons, sum_add f g r]
    omega
theorem sum_mul {α : Type} (k : Int) (f : α → Int) : ∀ l : List α, (l.map fun z => k * f z).sum = k * (l.map f).sum
  | [] => (Int.mul_zero k).symm
  | x :: r => by
    rw [List.map_cons, List.map_cons, List.sum_cons, List.sum_cons, sum_mul k f r, Int.mul_add]
theorem passed_swap (a b p : Pt) : gPassed b a p = -gPassed a b p := by
  rw [passed_pp, passed_pp, cr_swap]
  exact pp_swap _ _ _
/-! on a straight leg -/
theorem lies_line {a b p : Pt} {t : Rat} (h0 : 0 ≤ t) (h1 : t ≤ 1) (hx : p.1 = a.1 + t * (b.1 - a.1)) (hy : p.2 = a.2 + t * (b.2 - a.2)) (hb : gBef a b = true) : gLies (.str a b) p = true := by
  have hs : gAcross (gOff b a) (gOff p a) = 0 := by
    unfold gAcross gOff
    simp only
    rw [hx, hy]
    grind
  have hs2 : gSide a b p = 0 := sgn_zero.mpr hs
  have hb2 : a.1 < b.1 ∨ (a.1 = b.1 ∧ a.2 < b.2) := by
    unfold gBef at hb
    rw [Bool.or_eq_true, Bool.and_eq_true, decide_eq_true_iff, decide_eq_true_iff, decide_eq_true_iff] at hb
    exact hb
  have n1 : gBef p a = false := by
    rw [← Bool.not_eq_true]
    intro z
    unfold gBef at z
    rw [Bool.or_eq_true, Bool.and_eq_true, decide_eq_true_iff, decide_eq_true_iff, decide_eq_true_iff] at z
    rcases hb2 with k | ⟨k, k2⟩
    · have m := mnn h0 (show 0 ≤ b.1 - a.1 by grind)
      rcases z with z | ⟨z, z2⟩
      · grind
      · have m0 : t * (b.1 - a.1) = 0 := by grind
        rcases Rat.mul_eq_zero.mp m0 with q | q
        · subst q; grind
        · grind
    · have m := mnn h0 (show 0 ≤ b.2 - a.2 by grind)
      rcases z with z | ⟨z, z2⟩
      · have : b.1 - a.1 = 0 := by grind
        rw [this] at hx
        grind
      · grind
  have n2 : gBef b p = false := by
    rw [← Bool.not_eq_true]
    intro z
    unfold gBef at z
    rw [Bool.or_eq_true, Bool.and_eq_true, decide_eq_true_iff, decide_eq_true_iff, decide_eq_true_iff] at z
    have h1' : 0 ≤ 1 - t := by grind
    rcases hb2 with k | ⟨k, k2⟩
    · have m := mnn h1' (show 0 ≤ b.1 - a.1 by grind)
      rcases z with z | ⟨z, z2⟩
      · grind
      · have m0 : (1 - t) * (b.1 - a.1) = 0 := by grind
        rcases Rat.mul_eq_zero.mp m0 with q | q
        · have : t = 1 := by grind
          subst this; grind
        · grind
    · have m := mnn h1' (show 0 ≤ b.2 - a.2 by grind)
      rcases z with z | ⟨z, z2⟩
      · have : b.1 - a.1 = 0 := by grind
        rw [this] at hx
        grind
      · grind
  unfold gLies
  simp only
  rw [hs2, n1, n2]
  rfl
theorem bef_tot {a b : Pt} (h : a ≠ b) : gBef a b = true ∨ gBef b a = true := by
  unfold gBef
  simp only [Bool.or_eq_true, Bool.and_eq_true, decide_eq_true_iff]
  by_cases h1 : a.1 = b.1
  · by_cases h2 : a.2 = b.2
    · exact absurd (Prod.ext h1 h2) h
    · grind
  · grind
theorem on_line {a b p : Pt} {t : Rat} (h0 : 0 ≤ t) (h1 : t ≤ 1) (hx : p.1 = a.1 + t * (b.1 - a.1)) (hy : p.2 = a.2 + t * (b.2 - a.2)) : gOn (gPiece (.str a b)) p = true := by
  show gOn (gStretch a b) p = true
  unfold gStretch
  by_cases hab : a = b
  · rw [if_pos hab]
    subst hab
    show decide (p = a) = true
    rw [decide_eq_true_iff]
    exact Prod.ext (by grind) (by grind)
  · rw [if_neg hab]
    by_cases hq : gBef b a = true
    · rw [if_pos hq]
      exact lies_line (a := b) (b := a) (t := 1 - t) (by grind) (by grind) (by grind) (by grind) hq
    · rw [if_neg hq]
      rcases bef_tot hab with h | h
      · exact lies_line h0 h1 hx hy h
      · exact absurd h hq
theorem on_ends {a b p : Pt} (h : gOn (gPiece (.str a b)) p = false) : p ≠ a ∧ p ≠ b := by
  constructor
  · rintro rfl
    rw [on_line (t := 0) (by decide) (by decide) (by grind) (by grind)] at h
    cases h
  · rintro rfl
    rw [on_line (t := 1) (by decide) (by decide) (by grind) (by grind)] at h
    cases h
/-- within the circle and on a chord's line: on the chord -/
theorem in_chord {c a b p : Pt} (hf : gFar c b = gFar c a) (hin : gFar c p < gFar c a) (hs : gAcross (gOff b a) (gOff p a) = 0) (hab : a ≠ b) : gOn (gPiece (.str a b)) p = true := by
  have hv : 0 < gFar a b := far_pos hab
  have ev : gFar a b = (b.1 - a.1) * (b.1 - a.1) + (b.2 - a.2) * (b.2 - a.2) := by unfold gFar gAlong gOff; simp only; grind
  rw [ev] at hv
  unfold gAcross gOff at hs
  unfold gFar gAlong gOff at hf hin
  simp only at hs hf hin
  generalize ex : b.1 - a.1 = vx at *
  generalize ey : b.2 - a.2 = vy at *
  generalize eux : p.1 - a.1 = ux at *
  generalize euy : p.2 - a.2 = uy at *
  generalize ewx : a.1 - c.1 = wx at *
  generalize ewy : a.2 - c.2 = wy at *
  have hd : vx * vx + vy * vy ≠ 0 := by grind
  obtain ⟨t, ht⟩ : ∃ t : Rat, t * (vx * vx + vy * vy) = ux * vx + uy * vy := ⟨(ux * vx + uy * vy) / (vx * vx + vy * vy), Rat.div_mul_cancel hd⟩
  have e1 : ux = t * vx := cancel hd (by grind)
  have e2 : uy = t * vy := cancel hd (by grind)
  have k1 : 2 * (wx * vx + wy * vy) + (vx * vx + vy * vy) = 0 := by grind
  have k4 : (ux + wx) * (ux + wx) + (uy + wy) * (uy + wy) < wx * wx + wy * wy := by
    have q1 : c.1 - p.1 = -(ux + wx) := by grind
    have q2 : c.2 - p.2 = -(uy + wy) := by grind
    have q3 : c.1 - a.1 = -wx := by grind
    have q4 : c.2 - a.2 = -wy := by grind
    rw [q1, q2, q3, q4] at hin
    grind
  have k2 : (t * t - t) * (vx * vx + vy * vy) < 0 := by
    have k5 : (t * t - t) * (vx * vx + vy * vy) = (ux + wx) * (ux + wx) + (uy + wy) * (uy + wy) - (wx * wx + wy * wy) := by
      rw [e1, e2]
      clear hin hf k4 hs ht e1 e2 ex ey eux euy ewx ewy
      grind
    rw [k5]
    grind
  have k3 : t * t - t < 0 := by
    by_cases g : t * t - t < 0
    · exact g
    · have := mnn (show 0 ≤ t * t - t by grind) (Rat.le_of_lt hv)
      grind
  have t0 : 0 ≤ t := by
    by_cases g : 0 ≤ t
    · exact g
    · have := mSS (show t < 0 by grind) (show t < 0 by grind)
      grind
  have t1 : t ≤ 1 := by
    by_cases g : t ≤ 1
    · exact g
    · have := mpp (show 0 < t - 1 by grind) (show 0 < t by grind)
      grind
  exact on_line t0 t1 (by grind) (by grind)
theorem law_side_neg (a b p : Pt) : gLawSide a b p < 0 ↔ gAcross (gOff b a) (gOff p a) < 0 := by
  unfold gLawSide
  have h := Rat.lt_iff (gAcross (gOff b a) (gOff p a)) 0
  simp at h
  exact h.symm
theorem far_sym (p q : Pt) : gFar p q = gFar q p := by
  unfold gFar gAlong gOff
  simp only
  grind
theorem far_off (c p : Pt) : gAlong (gOff p c) (gOff p c) = gFar c p := far_along c p
/-- the two looks agree off the chord -/
theorem bet_eq {c a b p : Pt} (hf : gFar c b = gFar c a) (hn : gOn (gPiece (.str a b)) p = false) : gBetween c a b p = gLawBet c a b p := by
  unfold gBetween gLawBet
  rw [far_off, far_off]
  by_cases hin : gFar c p < gFar c a
  · rw [if_pos (decide_eq_true hin), decide_eq_true hin, Bool.true_and]
    by_cases hs : gSide a b p = 0
    · have z : gAcross (gOff b a) (gOff p a) = 0 := sgn_zero.mp hs
      rw [if_pos hs]
      by_cases hab : a = b
      · subst hab
        have u0 : gSgn (a.2 - a.2) = 0 := sgn_zero.mpr (by grind)
        rw [if_pos u0, decide_eq_false (show ¬ a.1 < a.1 by grind), decide_eq_false]
        rw [law_side_neg, z]
        decide
      · rw [in_chord hf hin z hab] at hn
        cases hn
    · rw [if_neg hs]
      refine decide_eq_decide.mpr ?_
      rw [law_side_neg]
      exact sgn_neg
  · rw [if_neg (by rw [decide_eq_false hin]; exact Bool.false_ne_true), decide_eq_false hin, Bool.false_and]
/-- below the lines that touch -/
theorem below_ok {c a p : Pt} (hin : gFar c p < gFar c a) : ¬ 0 < gAlong (gOff p a) (gOff a c) := by
  intro h
  have e : 2 * gAlong (gOff p a) (gOff a c) = gFar c p - gFar c a - gFar a p := by
    unfold gFar gAlong gOff
    simp only
    grind
  have k : 0 ≤ gFar a p := by unfold gFar gAlong; exact sq2 _ _
  grind
theorem bet_below {c a b p : Pt} (hf : gFar c b = gFar c a) (h : gLawBet c a b p = true) : ¬ 0 < gAlong (gOff p a) (gOff a c) ∧ ¬ 0 < gAlong (gOff p b) (gOff b c) := by
  unfold gLawBet at h
  rw [Bool.and_eq_true, decide_eq_true_iff, far_off, far_off] at h
  exact ⟨below_ok h.1, below_ok (by rw [hf]; exact h.1)⟩
/-! ### a leg -/
def gBent1 (l : Leg) (n : Nat) : List (Int × Pt × List (Pt × Pt)) :=
  match l with
  | .str _ _ => []
  | .bend c a b way => [(way, c, prs (gMarks (.bend c a b way) n))]
def gBent (ls : List Leg) (n : Nat) : List (Int × Pt × List (Pt × Pt)) := ls.flatMap fun l => gBent1 l n
def gAdd1 (p : Pt) (b : Int × Pt × List (Pt × Pt)) : Int := (b.2.2.map fun z => if gLawBet b.2.1 z.1 z.2 p = true then b.1 else 0).sum
def gAdd (bs : List (Int × Pt × List (Pt × Pt))) (p : Pt) : Int := (bs.map (gAdd1 p)).sum
theorem quarters_far {c : Pt} : ∀ (xs : List Pt) (x0 : Pt), (∀ z ∈ prs (x0 :: xs), QOk c z) → ∀ x ∈ x0 :: xs, gFar c x = gFar c x0
  | [], x0, h, x, hx => by rw [List.mem_singleton.mp hx]
  | y :: r, x0, h, x, hx => by
    rcases List.mem_cons.mp hx with rfl | hx
    · rfl
    · have h1 := quarters_far r y (fun z hz => h z (List.mem_cons_of_mem _ hz)) x hx
      have h2 := (h (x0, y) List.mem_cons_self).1
      rw [h1]
      exact h2
theorem marks_far {c a b : Pt} {way : Int} {n : Nat} (h : LegOk (.bend c a b way)) : ∃ m0, ∀ x ∈ gMarks (.bend c a b way) n, gFar c x = gFar c m0 := by
  obtain ⟨m0, mr, e⟩ := quarters_ne (c := c) (a := a) (b := b) (way := way)
  have q := bend_ok h
  rw [gMarks_eq c a b way n m0 mr e]
  rw [e] at q
  have qf := quarters_far mr m0 q
  refine ⟨m0, fun x hx => ?_⟩
  rcases List.mem_cons.mp hx with rfl | hx
  · rfl
  · obtain ⟨z, hz, hx⟩ := List.mem_flatMap.mp hx
    have hm := prs_mem (a := z.1) (b := z.2) hz
    rcases List.mem_append.mp hx with hx | hx
    · obtain ⟨k, -, rfl⟩ := List.mem_map.mp hx
      rw [at_far]
      exact qf _ hm.1
    · rw [List.mem_singleton.mp hx]
      exact qf _ hm.2
theorem mem_prs {α : Type} {x : α} : ∀ {l : List α}, x ∈ l → 2 ≤ l.length → ∃ z ∈ prs l, x = z.1 ∨ x = z.2
  | [], h, _ => by cases h
  | [_], _, h => by simp at h
  | a :: b :: r, h, _ => by
    rcases List.mem_cons.mp h with rfl | h
    · exact ⟨(x, b), List.mem_cons_self, Or.inl rfl⟩
    · rcases List.mem_cons.mp h with rfl | h
      · exact ⟨(a, x), List.mem_cons_self, Or.inr rfl⟩
      · cases r with
        | nil => cases h
        | cons d r =>
          obtain ⟨z, hz, hx⟩ := mem_prs (l := b :: d :: r) (List.mem_cons_of_mem _ h) (by simp)
          exact ⟨z, List.mem_cons_of_mem _ hz, hx⟩
/-- the pairs of a bend's cut, on their way and to the left -/
theorem pts_sum {c a b : Pt} {way : Int} {n : Nat} (h : LegOk (.bend c a b way)) (p : Pt) : ((gCutLeg (.bend c a b way) n).map fun l => gCounted l p).sum = way * ((prs (gMarks (.bend c a b way) n)).map fun z => gPassed z.1 z.2 p).sum := by
  show (((prs (if way < 0 then (gMarks (.bend c a b way) n).reverse else gMarks (.bend c a b way) n)).map fun z => Leg.str z.1 z.2).map fun l => gCounted l p).sum = _
  rw [List.map_map]
  rcases h.2.2.2 with rfl | rfl
  · rw [if_neg (by decide), Int.one_mul]
    rfl
  · rw [if_pos (by decide), prs_reverse, List.map_reverse, sum_rev, List.map_map, ← sum_mul]
    congr 1
    apply List.map_congr_left
    intro z _
    show gPassed z.2 z.1 p = -1 * gPassed z.1 z.2 p
    rw [passed_swap]
    omega
theorem cut_off {c a b : Pt} {way : Int} {n : Nat} {p : Pt} (h : ∀ l ∈ gCutLeg (.bend c a b way) n, gOn (gPiece l) p = false) : ∀ z ∈ prs (gMarks (.bend c a b way) n), gOn (gPiece (.str z.1 z.2)) p = false ∨ gOn (gPiece (.str z.2 z.1)) p = false := by
  intro z hz
  by_cases hw : way < 0
  · have e : gCutLeg (.bend c a b way) n = (prs (gMarks (.bend c a b way) n).reverse).map fun z => .str z.1 z.2 := by
      show (prs (if way < 0 then _ else _)).map _ = _
      rw [if_pos hw]
    right
    refine h _ ?_
    rw [e, prs_reverse]
    refine List.mem_map.mpr ⟨(z.2, z.1), List.mem_reverse.mpr (List.mem_map.mpr ⟨z, hz, rfl⟩), rfl⟩
  · have e : gCutLeg (.bend c a b way) n = (prs (gMarks (.bend c a b way) n)).map fun z => .str z.1 z.2 := by
      show (prs (if way < 0 then _ else _)).map _ = _
      rw [if_neg hw]
    left
    refine h _ ?_
    rw [e]
    exact List.mem_map.mpr ⟨z, hz, rfl⟩
theorem str_swap {a b p : Pt} (h : gOn (gPiece (.str b a)) p = false) : gOn (gPiece (.str a b)) p = false := by
  have e : gStretch a b = gStretch b a := by
    unfold gStretch
    by_cases hab : a = b
    · rw [if_pos hab, if_pos hab.symm, hab]
    · rw [if_neg hab, if_neg (show ¬ b = a from fun z => hab z.symm)]
      by_cases h1 : gBef b a = true
      · rw [if_pos h1]
        by_cases h2 : gBef a b = true
        · exfalso
          unfold gBef at h1 h2
          simp only [Bool.or_eq_true, Bool.and_eq_true, decide_eq_true_iff] at h1 h2
          grind
        · rw [if_neg h2]
      · rw [if_neg h1]
        rcases bef_tot hab with k | k
        · rw [if_pos k]
        · exact absurd k h1
  show gOn (gStretch a b) p = false
  rw [e]
  exact h
theorem leg_law {l : Leg} {n : Nat} {p : Pt} (h : LegOk l) (hn : 1 ≤ n) (hc : ∀ l' ∈ gCutLeg l n, gOn (gPiece l') p = false) : gCounted l p = ((gCutLeg l n).map fun l => gCounted l p).sum + gAdd (gBent1 l n) p := by
  cases l with
  | str a b => simp [gCutLeg, gBent1, gAdd]
  | bend c a b way =>
    have off : ∀ z ∈ prs (gMarks (.bend c a b way) n), gOn (gPiece (.str z.1 z.2)) p = false := fun z hz => by
      rcases cut_off hc z hz with k | k
      · exact k
      · exact str_swap k
    obtain ⟨m1, mf⟩ := marks_far (n := n) h
    obtain ⟨m0, mr, e⟩ := quarters_ne (c := c) (a := a) (b := b) (way := way)
    have q := bend_ok h
    rw [e] at q
    have em := gMarks_eq c a b way n m0 mr e
    have ml : 2 ≤ (gMarks (.bend c a b way) n).length := by
      obtain ⟨mid, -, hp⟩ := bend_pts n h
      have : (gPts (.bend c a b way) n).length = (gMarks (.bend c a b way) n).length := by
        show (if way < 0 then (gMarks (.bend c a b way) n).reverse else gMarks (.bend c a b way) n).length = _
        split
        · exact List.length_reverse
        · rfl
      rw [← this, hp]
      simp
    have pm : ∀ x ∈ gMarks (.bend c a b way) n, p ≠ x := fun x hx => by
      obtain ⟨z, hz, hx⟩ := mem_prs hx ml
      have k := on_ends (off z hz)
      rcases hx with rfl | rfl
      · exact k.1
      · exact k.2
    have bt : ∀ z ∈ prs (gMarks (.bend c a b way) n), gBetween c z.1 z.2 p = gLawBet c z.1 z.2 p := fun z hz => by
      have hm := prs_mem (a := z.1) (b := z.2) hz
      exact bet_eq (by rw [mf _ hm.1, mf _ hm.2]) (off z hz)
    rw [pts_sum h p]
    have s1 : gCounted (.bend c a b way) p = way * ((prs (m0 :: mr)).map (fC c p)).sum := by
      show way * ((prs (gQuarters (gPiece (.bend c a b way)))).map fun z => gPassed z.1 z.2 p + (if gBetween c z.1 z.2 p = true then 1 else 0)).sum = _
      rw [e]
      rfl
    rw [em] at pm
    have pmm : ∀ x ∈ m0 :: mr, p ≠ x := fun x hx => by
      rcases List.mem_cons.mp hx with rfl | hx'
      · exact pm _ List.mem_cons_self
      · refine pm x (List.mem_cons_of_mem _ ?_)
        obtain ⟨i, hi⟩ := List.getElem?_of_mem hx'
        have hi2 : (m0 :: mr)[i + 1]? = some x := by rw [List.getElem?_cons_succ]; exact hi
        have hl := (List.getElem?_eq_some_iff.mp hi).1
        obtain ⟨y, hi1⟩ : ∃ y, (m0 :: mr)[i]? = some y := ⟨_, List.getElem?_eq_getElem (show i < (m0 :: mr).length by rw [List.length_cons]; omega)⟩
        exact List.mem_flatMap.mpr ⟨_, List.mem_of_getElem? (prs_get hi1 hi2), List.mem_append_right _ (List.mem_singleton.mpr rfl)⟩
    have s2 := marks_sum hn q pm pmm
    rw [← em] at s2
    rw [s1, ← s2]
    have s3 : ((prs (gMarks (.bend c a b way) n)).map (fC c p)).sum = ((prs (gMarks (.bend c a b way) n)).map fun z => gPassed z.1 z.2 p).sum + ((prs (gMarks (.bend c a b way) n)).map fun z => iB (gBetween c z.1 z.2 p)).sum := sum_add _ _ _
    rw [s3, Int.mul_add]
    congr 1
    show _ = ([(way, c, prs (gMarks (.bend c a b way) n))].map (gAdd1 p)).sum
    rw [List.map_singleton, List.sum_singleton, ← sum_mul]
    show _ = ((prs (gMarks (.bend c a b way) n)).map fun z => if gLawBet c z.1 z.2 p = true then way else 0).sum
    congr 1
    apply List.map_congr_left
    intro z hz
    rw [bt z hz]
    unfold iB
    by_cases hk : gLawBet c z.1 z.2 p = true
    · rw [if_pos hk, if_pos hk, Int.mul_one]
    · rw [if_neg hk, if_neg hk, Int.mul_zero]
theorem cutAll_flat (n : Nat) : ∀ lls : List (List Leg), (gCutAll lls n).flatten = lls.flatten.flatMap fun l => gCutLeg l n
  | [] => rfl
  | s :: r => by
    show (s.flatMap _) ++ (gCutAll r n).flatten = _
    rw [cutAll_flat n r, List.flatten_cons, List.flatMap_append]
theorem legs_law {n : Nat} {p : Pt} (hn : 1 ≤ n) : ∀ ls : List Leg, (∀ l ∈ ls, LegOk l) → (∀ l' ∈ ls.flatMap (fun l => gCutLeg l n), gOn (gPiece l') p = false) → (ls.map fun l => gCounted l p).sum = ((ls.flatMap fun l => gCutLeg l n).map fun l => gCounted l p).sum + gAdd (gBent ls n) p
  | [], _, _ => rfl
  | l :: ls, h, hc => by
    have ih := legs_law hn ls (fun l' hl => h l' (List.mem_cons_of_mem _ hl)) fun l' hl => hc l' (by rw [List.flatMap_cons]; exact List.mem_append_right _ hl)
    have h1 := leg_law (h l List.mem_cons_self) hn fun l' hl => hc l' (by rw [List.flatMap_cons]; exact List.mem_append_left _ hl)
    have e : gAdd (gBent (l :: ls) n) p = gAdd (gBent1 l n) p + gAdd (gBent ls n) p := by
      show (((gBent1 l n) ++ gBent ls n).map (gAdd1 p)).sum = _
      rw [List.map_append, List.sum_append]
      rfl
    rw [List.map_cons, List.sum_cons, List.flatMap_cons, List.map_append, List.sum_append, ih, h1, e]
    omega
theorem wind_some {ls : List Leg} {p : Pt} {v : Int} (h : gWind ls p = some v) : (∀ l ∈ ls, gOn (gPiece l) p = false) ∧ v = (ls.map fun l => gCounted l p).sum := by
  unfold gWind at h
  by_cases hk : ls.any (fun l => gOn (gPiece l) p) = true
  · rw [if_pos hk] at h
    cases h
  · rw [if_neg hk] at h
    refine ⟨fun l hl => ?_, (Option.some.inj h).symm⟩
    cases hb : gOn (gPiece l) p with
    | false => rfl
    | true => exact absurd (List.any_eq_true.mpr ⟨l, hl, hb⟩) hk
theorem the_law {lls : List (List Leg)} {n : Nat} {p : Pt} {w v : Int} (hn : 1 ≤ n) (h : ∀ l ∈ lls.flatten, LegOk l) (h1 : gWind lls.flatten p = some w) (h2 : gWind (gCutAll lls n).flatten p = some v) : w = v + gAdd (gBent lls.flatten n) p := by
  obtain ⟨-, rfl⟩ := wind_some h1
  obtain ⟨k, rfl⟩ := wind_some h2
  rw [cutAll_flat] at k ⊢
  exact legs_law hn _ h k
theorem bent_mem {ls : List Leg} {n : Nat} {b : Int × Pt × List (Pt × Pt)} (h : b ∈ gBent ls n) : ∃ c a e way, Leg.bend c a e way ∈ ls ∧ b = (way, c, prs (gMarks (.bend c a e way) n)) := by
  obtain ⟨l, hl, hb⟩ := List.mem_flatMap.mp h
  cases l with
  | str _ _ => cases hb
  | bend c a e way => exact ⟨c, a, e, way, hl, List.mem_singleton.mp hb⟩
theorem bent_below {ls : List Leg} {n : Nat} (h : ∀ l ∈ ls, LegOk l) {b : Int × Pt × List (Pt × Pt)} (hb : b ∈ gBent ls n) {z : Pt × Pt} (hz : z ∈ b.2.2) {p : Pt} (hk : gLawBet b.2.1 z.1 z.2 p = true) : ¬ 0 < gAlong (gOff p z.1) (gOff z.1 b.2.1) ∧ ¬ 0 < gAlong (gOff p z.2) (gOff z.2 b.2.1) := by
  obtain ⟨c, a, e, way, hl, rfl⟩ := bent_mem hb
  obtain ⟨m0, mf⟩ := marks_far (n := n) (h _ hl)
  have hm := prs_mem (a := z.1) (b := z.2) hz
  exact bet_below (by show gFar c z.2 = gFar c z.1; rw [mf _ hm.1, mf _ hm.2]) hk
end Ar
set_option maxHeartbeats 4000000
/-! Walk of the law: bends and their cuts. -/
namespace Ar
open PySem L2
section
variable {X : Cx} {σ : L2.St} {H : Hp} {D : Ends} {e e1 e2 elt : Expr} {rest body : List Stmt} {pos p' q1 q2 : Pos} {scope : Scope}
/-- what a comprehension makes, by its turns -/
theorem tlc {wi : TI} {g : TG} {own : List (Str × Nat)} {n : Nat} {rs : List PyData} (mg : MoG g)
    (hw : ∀ H1, Ex H H1 → ∀ R : It → Hp → Prop, (∀ J H2, Ex H1 H2 → (∃ G Y, Walk J n G Y ∧ (∀ H3, Ex H2 H3 → G H3) ∧ ∀ i H3 x H4, i < n → Ex H2 H3 → Y i H3 x H4 → Ex H3 H4 ∧ g x (wipe σ (own.map (·.2))) H4 fun σ2 H5 => H5 = H4 ∧ wipe σ2 (own.map (·.2)) = wipe σ (own.map (·.2)) ∧ ∃ d, rs[i]? = some d ∧ EvB X scope σ2 H4 elt d) → R J H2) → wi σ H1 R)
    (hl : rs.length = n) (hz : n ≤ 90000) (H1 : Hp) (e1 : Ex H H1) (Q : VK) (q : ∀ v H2, Ex H1 H2 → NewR X.K H rs v H2 → Q v H2) : tLc wi g tYes (uB X scope elt) (own.map (·.2)) σ H1 Q :=
  (hw H1 e1 _ fun J H2 e2 hG D hD => by
    obtain ⟨G, Y, W, hG1, hY⟩ := hG
    refine lc_it W (fun i H' => Ex H2 H' ∧ ∃ acc, H' D = some (.lst acc) ∧ RpL X.K H' acc (rs.take i)) ⟨ex_new hD, [], upd_same, .nil⟩ (fun i H' _ h => hG1 H' h.1) (fun i x H3 H4 hin hp hy => ?_) fun H' h => ?_
    · obtain ⟨x2, acc, h1, h2⟩ := hp
      obtain ⟨x3, hgo⟩ := hY i H3 x H4 hin x2 hy
      refine mg _ _ _ _ _ (fun σ2 H5 h5 => ?_) hgo
      obtain ⟨rfl, w1, d, hd, hB⟩ := h5
      refine ⟨w1, ?_⟩
      unfold tYes
      dsimp only
      rw [if_pos rfl]
      intro s H0 C cl fp
      refine hB s H0 C cl fp H5 (ex_refl H5) _ fun v H6 x6 rv => ?_
      have hD6 : H6 D = some (.lst acc) := x6 _ _ (x3 _ _ h1)
      have r6 : RpL X.K H6 acc (rs.take i) := (h2.ex x3).ex x6
      have rv' : Rp X.K H6 v d := rv
      refine ⟨acc, hD6, Evl.sz_lt (by rw [h2.length, List.length_take]; omega), Evl.Ex.mut ((x2.trans x3).trans x6) hD, acc ++ [v], upd_same, ?_⟩
      have kt : KT H6 (upd H6 D (.lst (acc ++ [v]))) := KT.lst hD6
      rw [List.take_add_one, hd]
      exact (RpL.kt kt _ _ r6).append (.one (Rp.kt kt _ _ rv'))
    · obtain ⟨x2, acc, h1, h2⟩ := h
      rw [← hl, List.take_length] at h2
      exact q _ _ (e2.trans x2) ⟨D, acc, rfl, Evl.fresh_back (e1.trans e2) hD, h1, h2⟩)
/-- x = [e for a, b in reversed(xs)] -/
theorem go_setLcR (iy : Nat) (is : List Nat) {y : Str} {py spos : Pos} {own : List (Str × Nat)} {ts : List Expr} {k : Nat} {tp : Pos} {ds rs : List PyData} (hc : X.calm = true) (hN : X.N.Nodup) (hm : X.mg "reversed" = none) (he : EvL X σ H e ds) (hpair : ∀ d ∈ ds, ∃ a b, d = .tuple [a, b])
    (ok : BlkOk X.N X.env.scope scope own) (hg : ∀ (s : Shared) (H : Hp) (C : Addr) (cl : List (Str × Addr)) (fp : List Addr), PG (X.blk s H scope (compEnvC scope cl C X.env) fp) (.Tuple ts k tp) (gTup X.K 2 (gAll is)))
    (hl : rs.length = ds.length) (hz : rs.length ≤ 90000) (hi : ∀ (i : Nat) (H1 : Hp) (v w : V) (x y : PyData), Ex H H1 → ds.reverse[i]? = some (PyData.tuple [x, y]) → Rp X.K H1 v x → Rp X.K H1 w y → ∃ r, rs[i]? = some r ∧ EvB X scope (setAll (wipe σ (own.map (·.2))) is [v, w]) H1 elt r)
    (hsw : swapsWith (.ListComp elt [⟨.Tuple ts k tp, .Call (.Name "reversed" q1) [e] [] q2, [], 0⟩] scope pos) (some (.Name y py)) spos.line X.env = pure true)
    (q : ∀ v H1, Ex H H1 → NewR X.K H rs v H1 → Go X rest D (σ.set iy (some v)) H1)
    (hy : X.N[iy]? = some y := by rfl) (hyl : X.env.scope.names.lookup y = some .local := by rfl)
    (hw : ∀ v w, wipe (setAll (wipe σ (own.map (·.2))) is [v, w]) (own.map (·.2)) = wipe σ (own.map (·.2)) := by intro _ _; rfl) (h2s : is.length = 2 := by rfl) (hgr : Gl X "reversed" := by rfl)
    (s1 : starEach [e] X.env = [(false, eval e X.env)] := by rfl) (s2 : starEach [e] X.env = (false, eval e X.env) :: starEach [] X.env := by rfl)
    (hs : ∀ x, foldedSetIterable (.Call (.Name "reversed" q1) [e] [] q2) X.env x = pure x := by intro _; rfl) : Go X (.Assign [.Name y py] (.ListComp elt [⟨.Tuple ts k tp, .Call (.Name "reversed" q1) [e] [] q2, [], 0⟩] scope pos) spos :: rest) D σ H :=
  go_cons (ps_setLc (i := iy) (te := uB X scope elt) hc hN hy hyl hsw (pi_reversed hgr hm (pa_cons pe_u pa_nil s2) s1) ok hg (fun _ _ _ _ _ => pts_nil) (fun s H C cl fp => ⟨fun pins s' σ' H' Q' I h => h s H C cl fp pins s' I⟩) hs) (tlc (n := ds.length) (mog_tup X.K 2 is) (fun H1 x1 R hR => he H1 x1 _ fun v H2 x2 r => by
    obtain ⟨a, vs, rfl, f1, f2⟩ := r
    refine ⟨a, vs, rfl, f1, hR _ H2 x2 ⟨_, _, (by rw [← f2.length]; exact walk_rev (K := X.K) (a := a) (xs := vs)), fun H4 x4 => Evl.ex_l x4 f1, fun i H4 z H5 hin x4 hy => ?_⟩⟩
    obtain ⟨rfl, hx⟩ := hy
    obtain ⟨d, hd, rz⟩ := f2.get' hx
    obtain ⟨da, db, rfl⟩ := hpair d (List.mem_of_getElem? hd)
    obtain ⟨c, zs, rfl, hc', rr⟩ := (rz.ex x4).tup_inv
    obtain ⟨v1, v2, rfl, r1, r2⟩ := two_inv rr
    have hrev : ds.reverse[i]? = some (PyData.tuple [da, db]) := by
      rw [List.getElem?_reverse hin, ← f2.length]
      exact hd
    obtain ⟨r, hr, hB⟩ := hi i _ v1 v2 da db ((x1.trans x2).trans x4) hrev r1 r2
    exact ⟨ex_refl _, c, [v1, v2], rfl, hc', rfl, h2s.symm, rfl, hw v1 v2, r, hr, hB⟩) hl (by omega) H (ex_refl H) _ fun v H2 e2 r => q v H2 e2 r)
/-- for a, b in zip(e1, e2), lists of any things -/
theorem go_forZV (is : List Nat) {ts : List Expr} {k : Nat} {tp : Pos} {a b : Addr} {xs ys : List V} (hp : PassesOwn (model X.prog X.w) X.A X.env X.xe) (hc : X.calm = true) (hN : X.N.Nodup) (hm : X.mg "zip" = none) (h1 : Ev X σ H e1 (fun v _ => v = .ref a)) (h2 : Ev X σ H e2 (fun v _ => v = .ref b)) (sa : SqL X.K H a xs) (sb : SqL X.K H b ys)
    (nm : NmAt X ts is) (Pv : Nat → L2.St → Hp → Prop) (h0 : ∀ H1, Ex H H1 → Pv 0 σ H1) (hq : ∀ n σ' H', Pv n σ' H' → SqL X.K H' a xs ∧ SqL X.K H' b ys)
    (hs : ∀ n x y σ' H', xs[n]? = some x → ys[n]? = some y → Pv n σ' H' → Go X body { D with nx := Pv (n + 1), ct := Pv (n + 1), bk := Go X rest D } (setAll σ' is [x, y]) H')
    (hx0 : ∀ n σ' H' H2, Pv n σ' H' → Ex H' H2 → Pv n σ' H2)
    (hd : ∀ σ' H', Pv (min xs.length ys.length) σ' H' → Go X rest D σ' H') (h2s : is.length = 2 := by rfl)
    (hg : Gl X "zip" := by rfl) (hn : (assignEach ts X.env).length = is.length := by rfl) (hst : (assignEach ts X.env).findIdx? (·.1) = none := by rfl)
    (s1 : starEach [e2] X.env = (false, eval e2 X.env) :: starEach [] X.env := by rfl) (s2 : starEach [e1, e2] X.env = (false, eval e1 X.env) :: starEach [e2] X.env := by rfl) (hpl : (backTo q2 (starEach [e2] X.env)).any (·.1) = false := by rfl)
    (hfs : ∀ x, foldedSetIterable (.Call (.Name "zip" q1) [e1, e2] [] q2) X.env x = pure x := by intro _; rfl) : Go X (.For (.Tuple ts k tp) (.Call (.Name "zip" q1) [e1, e2] [] q2) body [] pos :: rest) D σ H :=
  go_cons (ps_for hp hc (pi_zip hg hm (pa_cons pe_u (pa_cons pe_u pa_nil s1) s2) s2 hpl) (pg_tup hc (pgs_names hN nm) hn hst) pss_u hfs) (h1 H (ex_refl H) _ fun v H1 x1 r1 => h2 H1 x1 _ fun w H2 x2 r2 => by
    have r1 : v = .ref a := r1
    have r2 : w = .ref b := r2
    subst r1 r2
    have x3 := x1.trans x2
    refine ⟨a, b, xs, ys, rfl, Evl.ex_l x3 sa, Evl.ex_l x3 sb, for_it (walk_zip rfl) Pv (h0 H2 x3) (fun n σ' H' _ q => hq n σ' H' q) (fun n z σ' H' H3 hn q hy => ?_) fun σ' H' q => hd σ' H' q⟩
    obtain ⟨t, x, y, rfl, ht', rfl, hx, hy⟩ := hy
    have en : Ex H' (upd H' t (.tup [x, y])) := ex_new ht'
    exact ⟨t, [x, y], rfl, Or.inl (Or.inl upd_same), h2s.symm, h2s.symm, hs n x y σ' _ hx hy (hx0 _ _ _ _ q en)⟩)
end
/-! ### bends with their pairs -/
abbrev Bt3 := Int × Pt × List (Pt × Pt)
def dPr (z : Pt × Pt) : PyData := .tuple [dP z.1, dP z.2]
def B1 (K : PySem.W.Frag) (H : Hp) (x : V) (rl : Addr) (b : Bt3) : Prop := ∃ p vc zs, x = .ref p ∧ SqT K H p [.int b.1, vc, .ref rl] ∧ Rp K H vc (dP b.2.1) ∧ H rl = some (.lst zs) ∧ RpL K H zs (b.2.2.map dPr)
def Bx (K : PySem.W.Frag) (lf : Addr) (xs : List V) (bs : List Bt3) (H : Hp) : Prop := xs.length = bs.length ∧ ∀ (i : Nat) x, xs[i]? = some x → ∃ rl b, bs[i]? = some b ∧ rl ≠ lf ∧ B1 K H x rl b
section
variable {K : PySem.W.Frag} {H H' : Hp} {lf : Addr} {xs : List V} {bs : List Bt3}
theorem B1.keep {x : V} {rl : Addr} {b : Bt3} (h : B1 K H x rl b) (k : KT H H') (g : ∀ o, H rl = some o → H' rl = some o) : B1 K H' x rl b := by
  obtain ⟨p, vc, zs, h1, h2, h3, h4, h5⟩ := h
  exact ⟨p, vc, zs, h1, k.sqT h2, Rp.kt k _ _ h3, g _ h4, RpL.kt k _ _ h5⟩
theorem Bx.ex (h : Bx K lf xs bs H) (e : Ex H H') : Bx K lf xs bs H' := ⟨h.1, fun i x hx => let ⟨rl, b, h1, h2, h3⟩ := h.2 i x hx; ⟨rl, b, h1, h2, h3.keep (Ex.kt e) fun o ho => e _ _ ho⟩⟩
theorem Bx.push {u : V} {rl : Addr} {b : Bt3} (h : Bx K lf xs bs H) (hl : H lf = some (.lst xs)) (hr : rl ≠ lf) (hb : B1 K H u rl b) : Bx K lf (xs ++ [u]) (bs ++ [b]) (upd H lf (.lst (xs ++ [u]))) := by
  have kt := KT.lst (o := .lst (xs ++ [u])) hl
  refine ⟨by rw [List.length_append, List.length_append, h.1]; rfl, fun i x hx => ?_⟩
  by_cases hi : i < xs.length
  · rw [List.getElem?_append_left hi] at hx
    obtain ⟨rl', b', h1, h2, h3⟩ := h.2 i x hx
    exact ⟨rl', b', by rw [List.getElem?_append_left (by rw [← h.1]; exact hi)]; exact h1, h2, h3.keep kt fun o ho => by rw [upd_ne h2]; exact ho⟩
  · have hi2 : i = xs.length := by
      have := (List.getElem?_eq_some_iff.mp hx).1
      rw [List.length_append, List.length_singleton] at this
      omega
    subst hi2
    rw [List.getElem?_append_right (Nat.le_refl _), Nat.sub_self] at hx
    obtain rfl := Option.some.inj hx
    exact ⟨rl, b, by rw [h.1, List.getElem?_append_right (Nat.le_refl _), Nat.sub_self]; rfl, hr, hb.keep kt fun o ho => by rw [upd_ne hr]; exact ho⟩
end
theorem flat_at {α β : Type} {g : α → List β} {l : List α} {j k : Nat} {x : α} (h : l[j]? = some x) (hk : k < (g x).length) : (l.flatMap g)[((l.take j).flatMap g).length + k]? = (g x)[k]? := by
  have e : l = l.take j ++ x :: l.drop (j + 1) := by
    conv => lhs; rw [← List.take_append_drop j l]
    congr 1
    exact (List.drop_eq_getElem?_toList_append).trans (by rw [h]; rfl)
  have e2 : l.flatMap g = (l.take j).flatMap g ++ (g x ++ (l.drop (j + 1)).flatMap g) := by
    conv => lhs; rw [e]
    rw [List.flatMap_append, List.flatMap_cons]
  rw [e2, List.getElem?_append_right (by omega), Nat.add_sub_cancel_left, List.getElem?_append_left hk]
section
variable {P : Program} {w : World} {K : PySem.W.Frag} {mg : Str → Option Value} {base : Heap}
def P_bent (K : PySem.W.Frag) (i : List (List Leg) × Nat) : List V → Hp → Prop := fun vs H => ∃ v u, vs = [v, u] ∧ LL K (i.1.map dLs) v H ∧ LL K ((gCutAll i.1 i.2).map dLs) u H ∧ (∀ l ∈ i.1.flatten, LegOk l) ∧ 1 ≤ i.2 ∧ i.2 ≤ 4 ∧ i.1.flatten.length ≤ 1000
def R_bent (K : PySem.W.Frag) (i : List (List Leg) × Nat) (_ : Hp) : V → Hp → Prop := fun v H' => ∃ lb xs, v = .ref lb ∧ H' lb = some (.lst xs) ∧ Bx K lb xs (gBent i.1.flatten i.2) H'
theorem gBent_app (a b : List Leg) (n : Nat) : gBent (a ++ b) n = gBent a n ++ gBent b n := List.flatMap_append
theorem gBent_len (a : List Leg) (n : Nat) : (gBent a n).length ≤ a.length := by
  induction a with
  | nil => exact Nat.le_refl _
  | cons l a ih =>
    show ((gBent1 l n) ++ gBent a n).length ≤ a.length + 1
    rw [List.length_append]
    have : (gBent1 l n).length ≤ 1 := by cases l <;> simp [gBent1]
    omega
theorem ok_law_bent (T : Tx P w K mg base) : C8.Cal P w K mg base 6 "_law_bent" (spI 2 (P_bent K) (R_bent K)) [] := by
  refine cal_of T.d_law_bent sc_law_bent (fun vs H Q E h => h.1) fun f cdv A outer s H vs Q E hr h => ?_
  obtain ⟨_, ⟨lls, n⟩, ⟨v_s, v_u, rfl, hs, hu, hok, n1, n4, htot⟩, q⟩ := h
  have hok : ∀ l ∈ lls.flatten, LegOk l := hok
  have n1 : 1 ≤ n := n1
  have n4 : n ≤ 4 := n4
  have htot : lls.flatten.length ≤ 1000 := htot
  have q : ∀ v H', Ex H H' → (∃ lb xs, v = .ref lb ∧ H' lb = some (.lst xs) ∧ Bx K lb xs (gBent lls.flatten n) H') → Q v H' := q
  obtain ⟨sa, sxs, rfl, s1, s2, s3⟩ := hs
  obtain ⟨ua, uxs, rfl, u1, u2, u3⟩ := hu
  have hsl : sxs.length = lls.length := by rw [s2, List.length_map]
  have hul : uxs.length = lls.length := by rw [u2, List.length_map]; unfold gCutAll; rw [List.length_map]
  refine go_asg 2 (ev_lst ea_nil) (fun v_f H1 e1 r_f => ?_) sc_law_bent.nd
  obtain ⟨lf, rfl, hf0, ex1, zs, hf, rz⟩ := Grow.of (ex_refl H) r_f e1
  cases rz
  refine go_forZV [3, 4] (a := sa) (b := ua) (xs := sxs) (ys := uxs) PassesOwn.never rfl sc_law_bent.nd T.m_zip (ev_v 0 rfl) (ev_v 1 rfl) (Evl.ex_l ex1 s1) (Evl.ex_l ex1 u1) (nm_cons 3 (nm_cons 4 NmAt.nil))
    (fun i σ' H' => ∃ v3 v4 v5 v6 v7 v8 v9 xs, σ' = [some (.ref sa), some (.ref ua), some (.ref lf), v3, v4, v5, v6, v7, v8, v9] ∧ Ex H H' ∧ H' lf = some (.lst xs) ∧ Bx K lf xs (gBent (lls.take i).flatten n) H') (fun H2 e2 => ⟨none, none, none, none, none, none, none, [], rfl, ex1.trans e2, e2 _ _ hf, rfl, fun i x hx => by simp at hx⟩) (fun i σ' H' hq => ?_) ?_ (fun i σ' H' H2 hq e => ?_) ?_
  · obtain ⟨_, _, _, _, _, _, _, _, _, ex, _⟩ := hq
    exact ⟨Evl.ex_l ex s1, Evl.ex_l ex u1⟩
  · rintro i x y σ' H' hx hy ⟨v3, v4, v5, v6, v7, v8, v9, xs, rfl, ex, hxs, hbx⟩
    obtain ⟨ds, hds, hls⟩ := s3 i x hx
    rw [List.getElem?_map] at hds
    obtain ⟨st, hst, rfl⟩ := Option.map_eq_some_iff.mp hds
    obtain ⟨ds2, hds2, hls2⟩ := u3 i y hy
    rw [List.getElem?_map] at hds2
    obtain ⟨ct, hct, rfl⟩ := Option.map_eq_some_iff.mp hds2
    have ect : ct = st.flatMap fun l => gCutLeg l n := by
      unfold gCutAll at hct
      rw [List.getElem?_map, hst] at hct
      exact (Option.some.inj hct).symm
    subst ect
    have hmem : ∀ l ∈ st, LegOk l := fun l hm => hok l (List.mem_flatten.mpr ⟨st, List.mem_of_getElem? hst, hm⟩)
    have e0 : (lls.take (i + 1)).flatten = (lls.take i).flatten ++ st := by rw [take_succ_some hst, List.flatten_append]; simp
    have tot : (lls.take (i + 1)).flatten.length ≤ 1000 := by
      have : (lls.take (i + 1)).flatten.length + (lls.drop (i + 1)).flatten.length = lls.flatten.length := by rw [← List.length_append, ← List.flatten_append, List.take_append_drop]
      omega
    rw [e0, List.length_append] at tot
    obtain ⟨a, ys, rfl, g1, g2⟩ := hls
    have hyl : ys.length = st.length := by rw [g2.length, List.length_map]
    refine go_asg 5 ev_int (fun v_at H2 e2 r_at => ?_) sc_law_bent.nd
    have ev := r_at.int_inv
    subst ev
    refine go_forL (R := fun v _ => v = .ref a) (xs := ys) 6 PassesOwn.never rfl sc_law_bent.nd ((ev_v 3 rfl).imp fun v H3 e3 h => ⟨a, h, Evl.ex_l ((ex.trans e2).trans e3) g1, h⟩)
      (fun j σ2 H3 => ∃ v6 v7 v8 v9 xs, σ2 = [some (.ref sa), some (.ref ua), some (.ref lf), some (.ref a), some y, some (.int (((st.take j).flatMap fun l => gCutLeg l n).length : Nat)), v6, v7, v8, v9] ∧ Ex H H3 ∧ H3 lf = some (.lst xs) ∧ Bx K lf xs (gBent (lls.take i).flatten n ++ gBent (st.take j) n) H3) (fun b H3 e3 _ hb => ?_) ?_ ?_
    · obtain rfl := V.ref.inj hb
      refine ⟨⟨v6, v7, v8, v9, xs, rfl, (ex.trans e2).trans e3, e3 _ _ (e2 _ _ hxs), ?_⟩, fun j σ2 H4 _ hq => by
        obtain ⟨_, _, _, _, _, _, ex4, _⟩ := hq
        exact Evl.ex_l ex4 g1⟩
      show Bx K lf xs (gBent (lls.take i).flatten n ++ []) H3
      rw [List.append_nil]
      exact (hbx.ex e2).ex e3
    · rintro j v σ2 H3 hj ⟨v6, v7, v8, v9, xs, rfl, ex3, hxs, hbx⟩
      obtain ⟨d, hd, rv⟩ := g2.get' hj
      rw [List.getElem?_map] at hd
      obtain ⟨l, hlj, rfl⟩ := Option.map_eq_some_iff.mp hd
      have rv := rv.ex ex3
      have lok := hmem l (List.mem_of_getElem? hlj)
      have oth : LsR K (dLs (st.flatMap fun l => gCutLeg l n)) y H3 := mo_ls _ _ _ ex3 hls2
      have hB : ∀ (k : Nat) (z : Pt × Pt), (prs (gPts l n))[k]? = some z → atI (dLs (st.flatMap fun l => gCutLeg l n)) ((((st.take j).flatMap fun l => gCutLeg l n).length : Int) + (k : Int)) = some (dL (.str z.1 z.2)) := fun k z hz => by
        have hk : k < (gCutLeg l n).length := by rw [cut_pts, List.length_map]; exact (List.getElem?_eq_some_iff.mp hz).1
        have h1 := flat_at (g := fun l => gCutLeg l n) hlj hk
        have h2 : (gCutLeg l n)[k]? = some (.str z.1 z.2) := by rw [cut_pts, List.getElem?_map, hz]; rfl
        have := atI_nat (xs := dLs (st.flatMap fun l => gCutLeg l n)) (j := ((st.take j).flatMap fun l => gCutLeg l n).length + k) (v := dL (.str z.1 z.2)) (by rw [List.getElem?_map, h1, h2]; rfl)
        rw [Int.natCast_add] at this
        exact this
      have eB : ((st.take (j + 1)).flatMap fun l => gCutLeg l n).length = ((st.take j).flatMap fun l => gCutLeg l n).length + (prs (gPts l n)).length := by
        rw [take_succ_some hlj, List.flatMap_append, List.length_append]
        simp [cut_pts]
      have eG : gBent (lls.take i).flatten n ++ gBent (st.take (j + 1)) n = gBent (lls.take i).flatten n ++ gBent (st.take j) n ++ gBent1 l n := by
        rw [take_succ_some hlj, gBent_app, ← List.append_assoc]
        simp [gBent]
      have jlt : (st.take j).length ≤ st.length := by rw [List.length_take]; omega
      have lbx : xs.length ≤ 2000 := by
        rw [hbx.1, List.length_append]
        have m1 := gBent_len (lls.take i).flatten n
        have m2 := gBent_len (st.take j) n
        omega
      generalize hBB : ((st.take j).flatMap fun l => gCutLeg l n).length = B at *
      have slc : ∀ {σ4 : L2.St} {H4 : Hp} {z : Pt × Pt} {k : Nat} {p1 p2 p3 p4 p5 p6 : Pos} {m : Nat}, (prs (gPts l n))[k]? = some z → Ex H3 H4 → σ4[4]? = some (some y) → σ4[5]? = some (some (.int ((B : Int) + (k : Int)))) → EvD (bX P w K mg base n_law_bent "_law_bent" s_law_bent f cdv A outer s H E) σ4 H4 (.Subscript (.Subscript (.Name "_law_others" p1) (.Name "_law_at" p2) p3) (.Slice (some (.Constant (.int 1) m p4)) none none p5) p6) (dPr z) := fun {_ _ z k _ _ _ _ _ _ _} hz e4 h4 h5 =>
        Ev.cast (ev_slT (l := some 1) (u := none) (ev_ixL (ev_n 4 h4 (mo_ls _ _ _ e4 oth) mo_ls) (ev_d 5 (.int _) h5) (hB k z hz)) (po_some pe_int) po_none (fun H1 Q q => ⟨1, rfl, q⟩) (fun H1 Q q => q) (by
          rintro ⟨h, -⟩
          revert h
          show ¬ HT.sIx 3 0 (some 1) = 0
          decide)) (by
          show PyData.tuple (cutD [PyData.str "straight", dP z.1, dP z.2] (some 1) none) = _
          rw [cut_tail]
          rfl)
      cases l with
      | str a' b' =>
        have ep : prs (gPts (.str a' b') n) = [(a', b')] := rfl
        refine go_asg 7 (ev_lst (ea_cons (slc (k := 0) (z := (a', b')) (by rw [ep]; rfl) (ex_refl H3) rfl (by rw [Int.natCast_zero, Int.add_zero]; rfl)) ea_nil)) (fun v_r H4 e4 r_r => ?_) sc_law_bent.nd
        refine go_asg 5 (ev_add (ev_d 5 (.int _)) ev_int) (fun v_t H5 e5 r_t => ?_) sc_law_bent.nd
        have ev := r_t.int_inv
        subst ev
        have rv5 := (rv.ex e4).ex e5
        refine go_while PassesOwn.never (fun m σ2 H6 => σ2 = [some (.ref sa), some (.ref ua), some (.ref lf), some (.ref a), some y, some (.int ((B : Int) + 1)), some v, some v_r, v8, v9] ∧ Ex H5 H6) 0 ⟨rfl, ex_refl H5⟩ ?_
        rintro m σ2 H6 ⟨rfl, e6⟩
        refine ⟨false, EvT.cast (et_w (ew_and (EvT.cast (et_eqS (ev_ix (ev_d 6 (rv5.ex e6)) ev_int) ev_str) (k' := false) (by decide)) fun z => absurd z Bool.false_ne_true)) (Bool.false_and true), fun hk => absurd hk Bool.false_ne_true, fun _ H7 e7 => ?_⟩
        have rv7 := (rv5.ex e6).ex e7
        refine go_no (EvT.cast (et_w (ew_and (EvT.cast (et_eqS (ev_ix (ev_d 6 rv7) ev_int) ev_str) (k' := false) (by decide)) fun z => absurd z Bool.false_ne_true)) (Bool.false_and true)) fun H8 e8 => ?_
        refine go_no (EvT.cast (et_eqS (ev_ix (ev_d 6 (rv7.ex e8)) ev_int) ev_str) (by decide)) fun H9 e9 => go_nil ?_
        have e39 := ((((e4.trans e5).trans e6).trans e7).trans e8).trans e9
        refine ⟨some v, some v_r, v8, v9, xs, ?_, ex3.trans e39, e39 _ _ hxs, ?_⟩
        · rw [eB, ep]
          rfl
        · rw [eG]
          show Bx K lf xs (_ ++ []) H9
          rw [List.append_nil]
          exact hbx.ex e39
      | bend c a' b' way =>
        obtain ⟨mid, hmid, ep⟩ := bend_pts n lok
        have z40 := cutleg_len (.bend c a' b' way) n n4
        rw [cut_pts, List.length_map] at z40
        have zl : (prs (gPts (.bend c a' b' way) n)).length = mid.length + 1 := by rw [ep, prs_len]; simp
        have snd : ∀ (k : Nat) (z : Pt × Pt), (prs (gPts (.bend c a' b' way) n))[k]? = some z → decide (z.2 = b') = decide (k + 1 = (prs (gPts (.bend c a' b' way) n)).length) := fun k z hz => by
          have h2 := (prs_get' hz).2
          rw [zl]
          rw [ep] at h2
          have h2 : (mid ++ [b'])[k]? = some z.2 := h2
          by_cases hk : k < mid.length
          · rw [List.getElem?_append_left hk] at h2
            rw [decide_eq_false (hmid _ (List.mem_of_getElem? h2)), decide_eq_false (by omega)]
          · have hk2 := (List.getElem?_eq_some_iff.mp h2).1
            rw [List.length_append, List.length_singleton] at hk2
            have hk3 : k = mid.length := by omega
            subst hk3
            rw [List.getElem?_append_right (Nat.le_refl _), Nat.sub_self] at h2
            rw [decide_eq_true (Option.some.inj h2).symm, decide_eq_true rfl]
        have eM : prs (gPts (.bend c a' b' way) n) = if way < 0 then prs (gMarks (.bend c a' b' way) n).reverse else prs (gMarks (.bend c a' b' way) n) := by
          show prs (if way < 0 then _ else _) = _
          split <;> rfl
        have eG1 : gBent1 (.bend c a' b' way) n = [(way, c, prs (gMarks (.bend c a' b' way) n))] := rfl
        rw [eG1] at eG
        generalize hmk : gMarks (.bend c a' b' way) n = marks at *
        generalize hzs : prs (gPts (.bend c a' b' way) n) = zs at *
        obtain ⟨z0, hz0⟩ : ∃ z0, zs[0]? = some z0 := ⟨_, List.getElem?_eq_getElem (show 0 < zs.length by omega)⟩
        refine go_asg 7 (ev_lst (ea_cons (slc (k := 0) (z := z0) hz0 (ex_refl H3) rfl (by rw [Int.natCast_zero, Int.add_zero]; rfl)) ea_nil)) (fun v_r H4 e4 r_r => ?_) sc_law_bent.nd
        obtain ⟨lr, rfl, gr⟩ := Grow.of (ex_refl H3) r_r e4
        refine go_asg 5 (ev_add (ev_d 5 (.int _)) ev_int) (fun v_t H5 e5 r_t => ?_) sc_law_bent.nd
        have ev := r_t.int_inv
        subst ev
        have gr := gr.ex e5
        have ezs1 : zs.take 1 = [z0] := by rw [show (1 : Nat) = 0 + 1 from rfl, List.take_add_one, hz0]; rfl
        refine go_while PassesOwn.never (fun m σ2 H6 => ∃ k, 1 ≤ k ∧ k + m = zs.length ∧ σ2 = [some (.ref sa), some (.ref ua), some (.ref lf), some (.ref a), some y, some (.int ((B : Int) + (k : Int))), some v, some (.ref lr), v8, v9] ∧ Grow K H3 lr ((zs.take k).map dPr) H6) (zs.length - 1) ⟨1, Nat.le_refl 1, by omega, rfl, by rw [ezs1]; exact gr⟩ ?_
        rintro m σ2 H6 ⟨k, hk1, hkm, rfl, gr⟩
        have ex36 : Ex H3 H6 := gr.2.1
        have rv6 := rv.ex ex36
        obtain ⟨zk, hzk⟩ : ∃ zk, zs[k - 1]? = some zk := ⟨_, List.getElem?_eq_getElem (show k - 1 < zs.length by omega)⟩
        have hlast : ((zs.take k).map dPr).getLast? = some (dPr zk) := by
          refine last_map ?_
          rw [List.getLast?_eq_getElem?, List.length_take, Nat.min_eq_left (by omega), List.getElem?_take_of_lt (by omega)]
          exact hzk
        refine ⟨!decide (zk.2 = b'), EvT.cast (et_w (ew_and (EvT.cast (et_eqS (ev_ix (ev_d 6 rv6) ev_int) ev_str) (k' := true) (by decide)) fun _ => ew_and1 (EvT.cast (et_ne hr.units (ev_ix (ev_ixL (ev_n 7 rfl gr.tr.ls mo_ls) (ev_neg ev_int) (atI_last hlast)) ev_int) (ev_ix (ev_d 6 rv6) ev_int) rfl rfl) (show _ = !decide (zk.2 = b') by rw [eqv_dP])))) (Bool.true_and _), fun hk H7 e7 => ?_, fun hk H7 e7 => ?_⟩
        · have hk := nbT hk
          rw [snd _ _ hzk] at hk
          have hk := of_decide_eq_false hk
          obtain ⟨z, hz⟩ : ∃ z, zs[k]? = some z := ⟨_, List.getElem?_eq_getElem (show k < zs.length by omega)⟩
          refine go_appG (gr.ex e7) (ev_v 7 rfl) (slc (k := k) (z := z) hz (ex36.trans e7) rfl rfl) (by rw [List.length_map, List.length_take]; omega) fun H8 k8 g8 => ?_
          refine go_asg 5 (ev_add (ev_d 5 (.int _)) ev_int) (fun v_t H9 e9 r_t => go_nil ⟨m - 1, by omega, k + 1, by omega, by omega, ?_, ?_⟩) sc_law_bent.nd
          · rw [r_t.int_inv, Int.add_assoc]
            rfl
          · rw [take_succ_some hz, List.map_append]
            exact g8.ex e9
        · have hk := nbF hk
          rw [snd _ _ hzk] at hk
          have hk := of_decide_eq_true hk
          have hkk : k = zs.length := by omega
          subst hkk
          rw [List.take_length] at gr
          have gr := gr.ex e7
          have rv7 := rv6.ex e7
          have hzm : zs.length = (prs marks).length := by
            rw [eM]
            split
            · rw [prs_len, prs_len, List.length_reverse]
            · rfl
          refine go_meet (fun σ' H' => ∃ lr', σ' = [some (.ref sa), some (.ref ua), some (.ref lf), some (.ref a), some y, some (.int ((B : Int) + (zs.length : Int))), some v, some (.ref lr'), v8, v9] ∧ Grow K H3 lr' ((prs marks).map dPr) H') (et_w (ew_and (EvT.cast (et_eqS (ev_ix (ev_d 6 rv7) ev_int) ev_str) (k' := true) (by decide)) fun _ => ew_and1 (et_lt (ev_ix (ev_d 6 rv7) ev_int) ev_int))) (fun hw H8 e8 => ?_) (fun hw H8 e8 => ⟨lr, rfl, ?_⟩) ?_
          · rw [Bool.true_and] at hw
            have hw := of_decide_eq_true hw
            rw [if_pos hw] at eM
            have gr := gr.ex e8
            refine go_setLcR 7 [8, 9] (own := [("_law_a", 8), ("_law_b", 9)]) (ds := zs.map dPr) (rs := (prs marks).map dPr) rfl sc_law_bent.nd T.m_reversed (ev_n 7 rfl gr.tr.ls mo_ls) (fun d hd => by
                obtain ⟨z, -, rfl⟩ := List.mem_map.mp hd
                exact ⟨_, _, rfl⟩)
              (blkOk_by (N := n_law_bent) (sc := C8.fnScope s_law_bent) (by decide +kernel)) (fun _ _ _ _ _ => pg_tup rfl (pgs_names sc_law_bent.nd (nm_cons 8 (nm_cons 9 NmAt.nil)))) (by rw [List.length_map, List.length_map, hzm]) (by rw [List.length_map]; omega) (fun t H9 v1 v2 x1 x2 e9 hx r1 r2 => ?_) (sw_true rfl rfl rfl (by decide +kernel)) (fun v_n H9 e9 r_n => go_nil ?_)
            · rw [← List.map_reverse, List.getElem?_map] at hx
              obtain ⟨z, hz, hzz⟩ := Option.map_eq_some_iff.mp hx
              have hz1 : dP z.1 = x1 ∧ dP z.2 = x2 := by
                unfold dPr at hzz
                injection hzz with h1
                injection h1 with h2 h3
                injection h3 with h4 h5
                exact ⟨h2, h4⟩
              obtain ⟨rfl, rfl⟩ := hz1
              refine ⟨dPr (z.2, z.1), ?_, fun _ _ _ _ _ => ev_tup (ea_cons (ev_d 9 r2) (ea_cons (ev_d 8 r1) ea_nil))⟩
              have em : prs marks = (zs.reverse).map fun z => (z.2, z.1) := by
                rw [eM, prs_reverse, List.reverse_reverse, List.map_map]
                exact (List.map_id _).symm
              rw [em, List.getElem?_map, List.getElem?_map, hz]
              rfl
            · obtain ⟨l9, rfl, g9⟩ := Grow.of (gr.2.1) r_n e9
              exact ⟨l9, rfl, g9⟩
          · rw [Bool.true_and] at hw
            have hw := of_decide_eq_false hw
            rw [if_neg hw] at eM
            rw [← eM]
            exact gr.ex e8
          · rintro σ' H8 ⟨lr', rfl, gr⟩
            have ex38 : Ex H3 H8 := gr.2.1
            refine go_yes (EvT.cast (et_eqS (ev_ix (ev_d 6 (rv.ex ex38)) ev_int) ev_str) (by decide)) fun H9 e9 => ?_
            have ex39 := ex38.trans e9
            have gr := gr.ex e9
            have rv9 := rv.ex ex39
            refine go_app (R := Tup3 K (fun v H => Rp K H v (.int way)) (fun v H => Rp K H v (dP c)) (fun v _ => v = .ref lr')) (ex39 _ _ hxs) (ev_v 2 rfl) (ev_tup3 mo_rp mo_rp mo_eq (ev_ix (ev_d 6 rv9) ev_int) (ev_ix (ev_d 6 rv9) ev_int) (ev_v 7 rfl)) (by omega) fun u H10 e10 ru => go_nil (go_nil ?_)
            obtain ⟨p, v1, v2, v3, rfl, hT, r1, r2, rfl⟩ := ru
            rw [r1.int_inv] at hT
            have gr := gr.ex e10
            have nlr : lr' ≠ lf := by
              rintro rfl
              rw [gr.1] at hxs
              cases hxs
            obtain ⟨-, ex310, zz, hzz, rzz⟩ := gr
            refine ⟨some v, some (.ref lr'), v8, v9, xs ++ [.ref p], ?_, Evl.Ex.mut (ex3.trans ex310) hf0, upd_same, ?_⟩
            · rw [eB]
              rfl
            · rw [eG]
              exact (hbx.ex ex310).push (ex310 _ _ hxs) nlr ⟨p, v2, zz, rfl, hT, r2, hzz, rzz⟩
    · rintro σ2 H3 ⟨v6, v7, v8, v9, xs, rfl, ex3, hxs, hbx⟩
      rw [hyl, List.take_length] at hbx
      refine go_nil ⟨_, _, _, _, _, _, _, xs, rfl, ex3, hxs, ?_⟩
      rw [e0, gBent_app]
      exact hbx
  · obtain ⟨v3, v4, v5, v6, v7, v8, v9, xs, h1, h2, h3, h4⟩ := hq
    exact ⟨v3, v4, v5, v6, v7, v8, v9, xs, h1, h2.trans e, e _ _ h3, h4.ex e⟩
  · rintro σ' H' ⟨v3, v4, v5, v6, v7, v8, v9, xs, rfl, ex, hxs, hbx⟩
    rw [hsl, hul, Nat.min_self, List.take_length] at hbx
    exact go_ret (ev_v 2 rfl) fun v H2 e2 rv => q v H2 (ex.trans e2) ⟨lf, xs, rv, e2 _ _ hxs, hbx.ex e2⟩
end
end Ar
set_option maxHeartbeats 4000000
/-! Walk of the law: all of it. -/
namespace Ar
open PySem L2
/-! ### how large all is -/
theorem legG_of {rs : List Row} (ok : RowsOk rs) (h : gDone rs ≤ 14) : (∀ l ∈ (gLegs rs fr0).1, LegG l) ∧ (gLegs rs fr0).1.length ≤ 14 := by
  obtain ⟨h1, h2, -⟩ := legs_b rs 0 fr0 ok fr0_b (by omega)
  exact ⟨h1, Nat.le_trans h2 h⟩
theorem step_mem {ss : List (List Leg)} {l x : Leg} (h : x ∈ (gStep ss l).flatten) : x ∈ ss.flatten ∨ x = l := by
  unfold gStep at h
  split at h
  · rw [List.flatten_append] at h
    simpa using h
  · rename_i s hs
    obtain ⟨ys, rfl⟩ := List.getLast?_eq_some_iff.mp hs
    split at h
    · rw [List.flatten_append] at h
      simp at h ⊢
      grind
    · split at h
      · rw [List.dropLast_concat] at h
        simp at h ⊢
        grind
      · simp at h ⊢
        grind
theorem fold_mem : ∀ (ls : List Leg) (ss : List (List Leg)) {x : Leg}, x ∈ (ls.foldl gStep ss).flatten → x ∈ ss.flatten ∨ x ∈ ls
  | [], ss, x, h => Or.inl h
  | l :: ls, ss, x, h => by
    rcases fold_mem ls (gStep ss l) h with h | h
    · rcases step_mem h with h | h
      · exact Or.inl h
      · exact Or.inr (by rw [h]; exact List.mem_cons_self)
    · exact Or.inr (List.mem_cons_of_mem _ h)
theorem closed_len (s : List Leg) : (gClosed s).length ≤ s.length + 1 := by
  unfold gClosed
  split
  · split
    · omega
    · rw [List.length_append]; exact Nat.le_refl _
  · omega
theorem closed_g {s : List Leg} (h : ∀ l ∈ s, LegG l) : ∀ l ∈ gClosed s, LegG l := by
  unfold gClosed
  split
  · rename_i a b ha hb
    have ga := legG_hp (h a (List.mem_of_head? ha))
    have gb := legG_hp (h b (List.mem_of_getLast? hb))
    split
    · exact h
    · intro l hl
      rcases List.mem_append.mp hl with hl | hl
      · exact h l hl
      · rw [List.mem_singleton.mp hl]
        exact ⟨trivial, gb.2, ga.1⟩
  · exact h
theorem map_flat_len : ∀ ss : List (List Leg), (ss.map gClosed).flatten.length ≤ ss.flatten.length + ss.length
  | [] => Nat.le_refl _
  | s :: ss => by
    have h1 := map_flat_len ss
    have h2 := closed_len s
    rw [List.map_cons, List.flatten_cons, List.length_append, List.flatten_cons, List.length_append, List.length_cons]
    omega
theorem all_ok {rs : List Row} (ok : RowsOk rs) (h : gDone rs ≤ 14) : (∀ l ∈ (gAllOf rs).flatten, LegG l) ∧ (gAllOf rs).flatten.length ≤ 28 ∧ (gAllOf rs).length ≤ 14 := by
  obtain ⟨h1, h2⟩ := legG_of ok h
  have h3 := strokes_len (gLegs rs fr0).1 []
  have h4 := strokes_ne (gLegs rs fr0).1 [] (fun s hs => by simp at hs)
  have h5 := ne_flat_len h4
  have h6 : ((gLegs rs fr0).1.foldl gStep []).flatten.length ≤ 14 := by
    rw [h3]
    simp only [List.flatten_nil, List.length_nil]
    omega
  refine ⟨fun l hl => ?_, ?_, ?_⟩
  · obtain ⟨s, hs, hl⟩ := List.mem_flatten.mp hl
    obtain ⟨s0, hs0, rfl⟩ := List.mem_map.mp hs
    refine closed_g (fun l hl => ?_) l hl
    rcases fold_mem (gLegs rs fr0).1 [] (List.mem_flatten.mpr ⟨s0, hs0, hl⟩) with k | k
    · simp at k
    · exact h1 l k
  · have := map_flat_len ((gLegs rs fr0).1.foldl gStep [])
    unfold gAllOf gStrokes
    omega
  · unfold gAllOf gStrokes
    rw [List.length_map]
    omega
theorem legG_ok {l : Leg} (h : LegG l) : LegOk l := h.1
theorem legG_cut {l : Leg} (h : LegG l) : CutOk l := by
  cases l with
  | str a b => trivial
  | bend c a b way => exact ⟨h.1, h.2.1, h.2.2.1, h.2.2.2, fun z hz => by have := (bend_ok h.1 z hz).whole; grind⟩
theorem marks_hp {c a b : Pt} {way : Int} {n : Nat} (h : LegG (.bend c a b way)) (n1 : 1 ≤ n) (n4 : n ≤ 4) : ∀ x ∈ gMarks (.bend c a b way) n, hp x ≤ 1474040 := by
  obtain ⟨m0, mr, e⟩ := quarters_ne (c := c) (a := a) (b := b) (way := way)
  have hc : hp c ≤ 3000 := h.2.1
  have ha : hp a ≤ 3000 := h.2.2.1
  have hb : hp b ≤ 3000 := h.2.2.2
  have mb : ∀ x ∈ m0 :: mr, hp x ≤ 12004 := fun x hx => by
    rw [← e] at hx
    have := qs_bend hx
    omega
  rw [gMarks_eq c a b way n m0 mr e]
  intro x hx
  rcases List.mem_cons.mp hx with rfl | hx
  · have := mb x List.mem_cons_self
    omega
  · obtain ⟨z, hz, hx⟩ := List.mem_flatMap.mp hx
    have hm := prs_mem (a := z.1) (b := z.2) hz
    have b1 := mb _ hm.1
    have b2 := mb _ hm.2
    rcases List.mem_append.mp hx with hx | hx
    · obtain ⟨k, hk, rfl⟩ := List.mem_map.mp hx
      have hk := List.mem_range.mp hk
      have s1 := ht_share c z.1 z.2
      have s2 := ht_small (t := (k : Int) + 1) (b := (n : Int)) (by omega) (by omega) (by omega)
      have s3 := ht_mul (gShare c z.1 z.2) (Rat.divInt ((k : Int) + 1) (n : Int))
      have s4 := hp_at c z.1 (gShare c z.1 z.2 * Rat.divInt ((k : Int) + 1) (n : Int))
      omega
    · rw [List.mem_singleton.mp hx]
      omega
/-- a leg beside a point to be asked -/
theorem leg_b {l : Leg} (h : LegG l) {p : Pt} (hp' : hp p ≤ 5900000) : legB l p := by
  cases l with
  | str a b =>
    have h1 : hp a ≤ 3000 ∧ hp b ≤ 3000 := h.2
    show hp a + hp b + hp p ≤ 9000000
    omega
  | bend c a b way =>
    have h1 : hp c ≤ 3000 ∧ hp a ≤ 3000 ∧ hp b ≤ 3000 := h.2
    exact ⟨by omega, by omega⟩
theorem cut_b {l : Leg} (h : LegG l) {n : Nat} (n1 : 1 ≤ n) (n4 : n ≤ 4) {p : Pt} (hp' : hp p ≤ 5900000) : ∀ l' ∈ gCutLeg l n, LegOk l' ∧ legB l' p := by
  intro l' hl
  cases l with
  | str a b =>
    rw [show gCutLeg (.str a b) n = [.str a b] from rfl] at hl
    rw [List.mem_singleton.mp hl]
    exact ⟨trivial, leg_b h hp'⟩
  | bend c a b way =>
    have mh := marks_hp h n1 n4
    obtain ⟨z, hz, rfl⟩ := List.mem_map.mp hl
    have hm := prs_mem (a := z.1) (b := z.2) hz
    have key : ∀ x ∈ (if way < 0 then (gMarks (.bend c a b way) n).reverse else gMarks (.bend c a b way) n), hp x ≤ 1474040 := fun x hx => by
      split at hx
      · exact mh x (List.mem_reverse.mp hx)
      · exact mh x hx
    have k1 := key _ hm.1
    have k2 := key _ hm.2
    refine ⟨trivial, ?_⟩
    show hp z.1 + hp z.2 + hp p ≤ 9000000
    omega
theorem out_hp {c p : Pt} {m : Int} (h0 : 0 ≤ m) (h1 : m ≤ 16) (hc : hp c ≤ 3000) (hp' : hp p ≤ 2948086) : hp (gOut c p (Rat.divInt m 16)) ≤ 5900000 := by
  have hk : ht (Rat.divInt m 16) ≤ 5 := ht_di (by omega) (by decide) (by decide) (by decide)
  have bo := hp_off p c
  have b5 := ht_mul (Rat.divInt m 16) (gOff p c).1
  have b6 := ht_mul (Rat.divInt m 16) (gOff p c).2
  have b7 := ht_add p.1 (Rat.divInt m 16 * (gOff p c).1)
  have b8 := ht_add p.2 (Rat.divInt m 16 * (gOff p c).2)
  have e1 : hp (gOff p c) = ht (gOff p c).1 + ht (gOff p c).2 := rfl
  have e2 : hp p = ht p.1 + ht p.2 := rfl
  show ht (p.1 + Rat.divInt m 16 * (gOff p c).1) + ht (p.2 + Rat.divInt m 16 * (gOff p c).2) ≤ 5900000
  omega
section
variable {X : Cx} {σ : L2.St} {H : Hp} {D : Ends} {it a : Expr} {rest body : List Stmt} {pos p' : Pos}
/-- for a, b, .. in a list of tuples -/
theorem go_forLT (is : List Nat) {ts : List Expr} {k : Nat} {tp : Pos} {xs : List V} {R : V → Hp → Prop} (hp : PassesOwn (model X.prog X.w) X.A X.env X.xe) (hc : X.calm = true) (hN : X.N.Nodup) (h : Ev X σ H it (fun v H' => ∃ a, v = .ref a ∧ H' a = some (.lst xs) ∧ R v H'))
    (nm : NmAt X ts is) (Pv : Nat → L2.St → Hp → Prop) (h0 : ∀ H1, Ex H H1 → Pv 0 σ H1)
    (hs : ∀ i v σ' H', xs[i]? = some v → Pv i σ' H' → ∃ p us, v = .ref p ∧ SqT X.K H' p us ∧ us.length = is.length ∧ Go X body { D with nx := fun σ2 H2 => Pv (i + 1) σ2 H2 ∧ Ex H' H2, ct := fun σ2 H2 => Pv (i + 1) σ2 H2 ∧ Ex H' H2, bk := Go X rest D } (setAll σ' is us) H')
    (hd : ∀ σ' H', Pv xs.length σ' H' → Go X rest D σ' H') (hn : (assignEach ts X.env).length = is.length := by rfl) (hst : (assignEach ts X.env).findIdx? (·.1) = none := by rfl)
    (hs' : ∀ x, foldedSetIterable it X.env x = pure x := by intro _; rfl) : Go X (.For (.Tuple ts k tp) it body [] pos :: rest) D σ H :=
  go_cons (ps_for hp hc (pi_list pe_u) (pg_tup hc (pgs_names hN nm) hn hst) pss_u hs') (h H (ex_refl H) _ fun v H1 e1 r => by
    obtain ⟨a, rfl, h1, -⟩ := r
    have h2 : SqL X.K H1 a xs := Or.inl (Or.inl h1)
    refine ⟨a, rfl, ⟨xs, h2⟩, for_list (fun i σ' H' => Pv i σ' H' ∧ Ex H1 H') ⟨h0 H1 e1, ex_refl H1⟩ (fun i σ' H' _ q => Evl.ex_l q.2 h2) (fun i x σ' H' hi q => ?_) fun σ' H' q => hd σ' H' q.1⟩
    obtain ⟨p, us, rfl, hT, hl, hgo⟩ := hs i x σ' H' hi q.1
    exact ⟨p, us, rfl, hT, hl, hl, hgo.weak (fun _ _ z => ⟨z.1, q.2.trans z.2⟩) (fun _ _ z => ⟨z.1, q.2.trans z.2⟩) (fun _ _ z => z) rfl⟩)
/-- xs[:k], a list of any things -/
theorem ev_takeV {l : Addr} {xs : List V} {m : Nat} {j : Nat} {p p2 : Pos} (hl : H l = some (.lst xs)) (ha : Ev X σ H a (fun v _ => v = .ref l)) : Ev X σ H (.Subscript a (.Slice none (some (.Constant (.int (m : Int)) j p)) none p2) pos) (fun v H' => ∃ q, v = .ref q ∧ H' q = some (.lst (xs.take m)) ∧ True) := fun H1 e1 Q q =>
  uE.of (pe_slice sl_list pe_u po_none (po_some (e := .Constant (.int (m : Int)) j p) pe_int)) (ha H1 e1 _ fun v H2 e2 r => by
    have r : v = .ref l := r
    subst r
    refine ⟨(m : Int), rfl, l, xs, rfl, Or.inl (Or.inl ((e1.trans e2) _ _ hl)), fun t ht => q _ _ (e2.trans (ex_new ht)) ⟨t, rfl, ?_, trivial⟩⟩
    have e : cutV xs none (some (m : Int)) = xs.take m := cut_to xs m
    rw [e]
    exact upd_same)
end
end Ar
set_option maxHeartbeats 4000000
/-! Walk of the law: the law. -/
namespace Ar
open PySem L2
theorem windD_none {ls : List Leg} {p : Pt} (h : gWind ls p = none) : windD ls p = .none := by unfold windD; rw [h]
theorem windD_some {ls : List Leg} {p : Pt} {v : Int} (h : gWind ls p = some v) : windD ls p = .int v := by unfold windD; rw [h]
theorem addT1 {α : Type} {l : List α} {i : Nat} {x : α} (f : α → Int) (h : l[i]? = some x) : ((l.take (i + 1)).map f).sum = ((l.take i).map f).sum + f x := by
  rw [take_succ_some h, List.map_append, List.sum_append]
  simp
section
variable {X : Cx} {σ : L2.St} {H : Hp} {e : Expr} {es : List Expr} {pos p : Pos} {x : Str} {k j n : Nat}
/-- a call whose index is known by its arguments alone -/
theorem ev_callX {ι : Type} {P : ι → List V → Hp → Prop} {R : ι → Hp → V → Hp → Prop} (J : ι → Prop) (c : C8.Cal X.prog X.w X.K X.mg X.base k x (spI n P R) []) (hr : Room j X.A) (ha : EvA X σ H (e :: es) (fun vs H2 => vs.length = n ∧ ∃ i, J i ∧ P i vs H2))
    {R' : V → Hp → Prop} (hR : ∀ i H2 v H3, Ex H H2 → Ex H2 H3 → J i → R i H2 v H3 → R' v H3) (hk : k ≤ j := by decide) (hg : Gl X x := by rfl)
    (hdb : (x == ("__debug__" : Str)) = false := by decide) (he : starEach (e :: es) X.env = (false, eval e X.env) :: starEach es X.env := by rfl) (hpl : (backTo pos (starEach es X.env)).any (·.1) = false := by rfl) :
    Ev X σ H (.Call (.Name x p) (e :: es) [] pos) R' := fun H1 e1 Q q =>
  uE.of (C8.pe_c c hr hk hg pa_u hdb he hpl) (ha H1 e1 _ fun vs H2 e2 rs => by
    show spI n P R (vs ++ []) H2 Q E0
    rw [List.append_nil]
    obtain ⟨hl, i, hj, hp⟩ := rs
    exact ⟨hl, i, hp, fun v H3 e3 r => q v H3 (e2.trans e3) (hR i H2 v H3 (e1.trans e2) e3 hj r)⟩)
end
section
variable {P : Program} {w : World} {K : PySem.W.Frag} {mg : Str → Option Value} {base : Heap}
def manys : List Int := [0, 1, 3, 8]
def P_law (K : PySem.W.Frag) (cs : List Int) : List V → Hp → Prop := fun vs H => ∃ v, vs = [v] ∧ LsR K (cs.map .int) v H ∧ cs.length ≤ 63
theorem law_body (T : Tx P w K mg base) (f : Addr) (cdv : Value) (A : Around) (outer : List Env) (s : Shared) (H : Hp) (vs : List V) (Q : VK) (E : XK) (hr : Room 47 (bX P w K mg base n_law "law" s_law f cdv A outer s H E).A) (h : spI 1 (P_law K) (fun _ _ v _ => v = .bl true) vs H Q E) :
    Go (bX P w K mg base n_law "law" s_law f cdv A outer s H E) (C8.fnBody s_law) { nx := fun _ H' => Q .non H', rt := Q } (start n_law vs) H := by
  obtain ⟨_, cs, ⟨v_s, rfl, r_s, hlen⟩, q⟩ := h
  have r_s : LsR K (cs.map .int) v_s H := r_s
  have hlen : cs.length ≤ 63 := hlen
  have hr1 : Room 43 (bX P w K mg base n_law "law" s_law f cdv A outer s H E).A := hr.mono (by decide)
  refine go_asg 1 (R := fun v H' => LsR K ((gRow (cs.headD 0)).map .int) v H') ((ev_callN (ok_law_row T) hr1 (ea_cons (ev_callI cs (ok_law_cell_at T) hr1 (EvA.imp (eb_cons (R := LsR K (cs.map .int)) (ev_n 0 rfl r_s mo_ls) mo_ls (eb_cons (R := fun v H => Rp K H v (.int 0)) ev_int mo_rp eb_nil)) fun vs H5 x5 hv => ?_) fun H5 u H6 x5 x6 hu => hu) (ea_cons ev_int ea_nil)) ⟨cs.headD 0, _, rfl, rfl, rfl⟩).imp fun _ _ _ h => h.ls) (fun v_r H1 e1 r_r => ?_) sc_law.nd
  · obtain ⟨u, r, rfl, hu, u2, r2, rfl, hu2, hr0⟩ := hv
    have hr0 : r2 = [] := hr0
    subst hr0
    rw [Rp.int_inv hu2]
    exact ⟨rfl, u, rfl, hu⟩
  obtain ⟨gl, low⟩ := gRow_ok (cs.headD 0)
  obtain ⟨n0, n1, n2, n3, n4, n5, n6, n7, n8, n9, n10, n11, hg⟩ := twelve gl
  generalize hgr : gRow (cs.headD 0) = ns at *
  have g10 : atI (ns.map PyData.int) 10 = some (.int n10) := by rw [hg]; exact atI_nat (j := 10) rfl
  have g11 : atI (ns.map PyData.int) 11 = some (.int n11) := by rw [hg]; exact atI_nat (j := 11) rfl
  have r_s := mo_ls _ _ _ e1 r_s
  refine go_asg 2 (R := fun v H' => ∃ rs, (RowsOk rs ∧ gDone rs ≤ 14) ∧ LL K ((gAllOf rs).map dLs) v H') (ev_callX (fun rs => RowsOk rs ∧ gDone rs ≤ 14) (ok_strokes T 4) hr (EvA.imp (eb_cons (R := fun v H' => ∃ rs, RowsOk rs ∧ gDep rs ≤ 4 ∧ gDone rs ≤ 14 ∧ Rp K H' v (.tuple (dRs rs))) (ev_callI ((cs.take 19).drop 1) (ok_law_some T) hr1 (EvA.imp (eb_cons (R := LsR K (((cs.take 19).drop 1).map .int)) ((ev_slL (l := some 1) (u := some 19) (ev_n 0 rfl r_s mo_ls) (po_some pe_int) (po_some pe_int) (fun H1 Q q => ⟨1, rfl, q⟩) (fun H1 Q q => ⟨19, rfl, q⟩)).imp fun v H3 x3 h => ?_) mo_ls (eb_cons (R := fun v H => Rp K H v (.int 14)) ev_int mo_rp eb_nil)) fun vs H5 x5 hv => ?_) fun H5 u H6 x5 x6 hu => hu) (fun v Ha Hb e ⟨rs, h1, h2, h3, h4⟩ => ⟨rs, h1, h2, h3, h4.ex e⟩) eb_nil) fun vs H5 x5 hv => ?_) fun rs H5 u H6 x5 x6 hj hu => ⟨rs, hj, hu⟩) (fun v_ss H2 e2 r_ss => ?_) sc_law.nd
  · have h1 := h.ls
    have e := cut_ft (cs.map PyData.int) 1 19
    rw [show cutD (cs.map PyData.int) (some 1) (some 19) = ((cs.map PyData.int).take 19).drop 1 from e, ← List.map_take, ← List.map_drop] at h1
    exact h1
  · obtain ⟨u, r, rfl, hu, u2, r2, rfl, hu2, hr0⟩ := hv
    have hr0 : r2 = [] := hr0
    subst hr0
    rw [Rp.int_inv hu2]
    exact ⟨rfl, u, rfl, hu, by rw [List.length_drop, List.length_take]; omega⟩
  · obtain ⟨u, r, rfl, ⟨rs, h1, h2, h3, h4⟩, hr0⟩ := hv
    have hr0 : r = [] := hr0
    subst hr0
    exact ⟨rfl, rs, ⟨h1, h3⟩, u, rfl, h4, h1, h2, h3⟩
  obtain ⟨rs, ⟨rok, rdn⟩, r_ss⟩ := r_ss
  obtain ⟨lg, lfl, lsl⟩ := all_ok rok rdn
  generalize gAllOf rs = lls at *
  have r_r := mo_ls _ _ _ e2 r_r
  obtain ⟨n, hn, pn1, pn4⟩ : ∃ n : Nat, 1 + n10 % 4 = (n : Int) ∧ 1 ≤ n ∧ n ≤ 4 := ⟨(1 + n10 % 4).toNat, by omega, by omega, by omega⟩
  refine go_asg 3 ((ev_add ev_int (ev_mod (ev_ixL (ev_n 1 rfl r_r mo_ls) ev_int g10) ev_int (by decide))).cast (congrArg PyData.int hn)) (fun v_p H3 e3 r_p => ?_) sc_law.nd
  have ev := r_p.int_inv
  subst ev
  have r_ss := mo_LL _ _ _ e3 r_ss
  have r_r := mo_ls _ _ _ e3 r_r
  refine go_asg 4 (R := LL K ((gCutAll lls n).map dLs)) (ev_callI (lls, n) (ok_cut_strokes T) hr1 (EvA.imp (eb_cons (ev_n 2 rfl r_ss mo_LL) mo_LL (eb_cons (R := fun v H => Rp K H v (.int n)) (ev_d 3 (.int _)) mo_rp eb_nil)) fun vs H5 x5 hv => ?_) fun H5 u H6 x5 x6 hu => hu) (fun v_cc H4 e4 r_cc => ?_) sc_law.nd
  · obtain ⟨u, r, rfl, hu, u2, r2, rfl, hu2, hr0⟩ := hv
    have hr0 : r2 = [] := hr0
    subst hr0
    rw [Rp.int_inv hu2]
    exact ⟨rfl, u, rfl, hu, fun l hl => legG_cut (lg l hl), pn1, pn4, by show lls.length ≤ 1000; omega, fun s hs => by have := flat_mem_len (show s ∈ lls from hs); omega⟩
  have r_ss := mo_LL _ _ _ e4 r_ss
  have r_r := mo_ls _ _ _ e4 r_r
  refine go_asg 5 (R := fun v H' => ∃ lb xs, v = .ref lb ∧ H' lb = some (.lst xs) ∧ Bx K lb xs (gBent lls.flatten n) H') (ev_callI (lls, n) (ok_law_bent T) hr1 (EvA.imp (eb_cons (ev_n 2 rfl r_ss mo_LL) mo_LL (eb_cons (ev_n 4 rfl r_cc mo_LL) mo_LL eb_nil)) fun vs H5 x5 hv => ?_) fun H5 u H6 x5 x6 hu => hu) (fun v_bb H5 e5 r_bb => ?_) sc_law.nd
  · obtain ⟨u, r, rfl, hu, u2, r2, rfl, hu2, hr0⟩ := hv
    have hr0 : r2 = [] := hr0
    subst hr0
    exact ⟨rfl, u, u2, rfl, hu, hu2, fun l hl => (lg l hl).1, pn1, pn4, by show lls.flatten.length ≤ 1000; omega⟩
  obtain ⟨lb, bxs, rfl, hlb, hbx⟩ := r_bb
  have r_ss := mo_LL _ _ _ e5 r_ss
  have r_cc := mo_LL _ _ _ e5 r_cc
  have r_r := mo_ls _ _ _ e5 r_r
  refine go_asg 6 (R := fun v H' => ∃ ps, PtsB 30 ps ∧ NewR K H5 (ps.map dP) v H') (ev_callI (ns, lls) (ok_law_points T) hr1 (EvA.imp (eb_cons (ev_n 1 rfl r_r mo_ls) mo_ls (eb_cons (ev_n 2 rfl r_ss mo_LL) mo_LL eb_nil)) fun vs H6 x6 hv => ?_) fun H6 u H7 x6 x7 ⟨ps, h1, h2⟩ => ⟨ps, h1, NewR.back h2 x6⟩) (fun v_pp H6 e6 r_pp => ?_) sc_law.nd
  · obtain ⟨u, r, rfl, hu, u2, r2, rfl, hu2, hr0⟩ := hv
    have hr0 : r2 = [] := hr0
    subst hr0
    exact ⟨rfl, u, u2, rfl, hu, gl, low, hu2, lg, by show lls.flatten.length ≤ 1000; omega⟩
  obtain ⟨ps0, bp0, r_pp⟩ := r_pp
  obtain ⟨lp0, rfl, -, tp0⟩ := new_tr r_pp
  have r_ss := mo_LL _ _ _ e6 r_ss
  have r_cc := mo_LL _ _ _ e6 r_cc
  have r_r := mo_ls _ _ _ e6 r_r
  have hlb := e6 _ _ hlb
  have hbx := hbx.ex e6
  have ex6 : Ex H H6 := ((((e1.trans e2).trans e3).trans e4).trans e5).trans e6
  have lok : ∀ l ∈ lls.flatten, LegOk l := fun l hl => (lg l hl).1
  generalize hbs : gBent lls.flatten n = bs at *
  -- what a bend holds
  have bnd : ∀ b ∈ bs, hp b.2.1 ≤ 3000 ∧ 0 < b.2.2.length ∧ ∀ z ∈ b.2.2, hp z.1 ≤ 1474040 ∧ hp z.2 ≤ 1474040 := fun b hb => by
    rw [← hbs] at hb
    obtain ⟨c, a, e, way, hl, rfl⟩ := bent_mem hb
    have g := lg _ hl
    have mh := marks_hp g pn1 pn4
    refine ⟨g.2.1, ?_, fun z hz => ?_⟩
    · obtain ⟨mid, -, hp⟩ := bend_pts n g.1
      show 0 < (prs (gMarks (.bend c a e way) n)).length
      have h2 : (gPts (.bend c a e way) n).length = (gMarks (.bend c a e way) n).length := by
        show (if way < 0 then (gMarks (.bend c a e way) n).reverse else gMarks (.bend c a e way) n).length = _
        split
        · exact List.length_reverse
        · rfl
      rw [prs_len, ← h2, hp]
      simp
    · have hm := prs_mem (a := z.1) (b := z.2) hz
      exact ⟨mh _ hm.1, mh _ hm.2⟩
  have PB : ∀ ps : List Pt, Prop := fun ps => ∀ p ∈ ps, hp p ≤ 5900000
  refine go_forLT [7, 8, 9] (xs := bxs.take 4) PassesOwn.never rfl sc_law.nd (ev_takeV (m := 4) hlb (ev_v 5 rfl)) (nm_cons 7 (nm_cons 8 (nm_cons 9 NmAt.nil)))
    (fun i σ' H' => ∃ lp v7 v8 v9 v10 v11 v15 ps, σ' = [some v_s, some v_r, some v_ss, some (.int n), some v_cc, some (.ref lb), some (.ref lp), v7, v8, v9, v10, v11, none, none, none, v15] ∧ Ex H6 H' ∧ ps.length ≤ 30 + 4 * i ∧ (∀ p ∈ ps, hp p ≤ 5900000) ∧ TrR K lp (ps.map dP) (.ref lp) H') (fun H7 e7 => ⟨lp0, none, none, none, none, none, none, ps0, rfl, e7, bp0.1, fun p h => by have := bp0.2 p h; omega, mo_tr _ _ _ e7 tp0⟩) ?_ ?_
  · rintro i v σ' H7 hi ⟨lp, v7, v8, v9, v10, v11, v15, ps, rfl, e7, pl, pb, tp⟩
    have hi4 : i < 4 := by
      have := (List.getElem?_eq_some_iff.mp hi).1
      rw [List.length_take] at this
      omega
    rw [List.getElem?_take_of_lt hi4] at hi
    obtain ⟨rl, b, hb, -, pa, vc, zs, rfl, hT, hc, hrl, hrz⟩ := hbx.2 i v hi
    obtain ⟨bc, bn, bz⟩ := bnd b (List.mem_of_getElem? hb)
    refine ⟨pa, _, rfl, (Ex.kt e7).sqT hT, rfl, ?_⟩
    have hc := hc.ex e7
    have trl : TrR K rl (b.2.2.map dPr) (.ref rl) H7 := ⟨rfl, zs, e7 _ _ hrl, hrz.ex e7⟩
    have r_r := mo_ls _ _ _ e7 r_r
    obtain ⟨dz, hdz, hat⟩ := at_mod (l := b.2.2.map dPr) n11 (by rw [List.length_map]; exact bn)
    obtain ⟨z, hzm, rfl⟩ := List.mem_map.mp hdz
    obtain ⟨bz1, bz2⟩ := bz z hzm
    have hlen0 : (0 : Int) < ((b.2.2.map dPr).length : Int) := by rw [List.length_map]; omega
    refine go_unp (ds := [dP z.1, dP z.2]) [10, 11] (ev_ixL (ev_n 9 rfl trl.ls mo_ls) (ev_mod (ev_ixL (ev_n 1 rfl r_r mo_ls) ev_int g11) (ev_lenL T.m_len (ev_n 9 rfl trl.ls mo_ls)) hlen0) hat) rfl sc_law.nd (nm_cons 10 (nm_cons 11 NmAt.nil)) fun vs H8 e8 rs2 => ?_
    obtain ⟨v_a, v_b, rfl, r_a, r_b⟩ := inv2 rs2
    have hc := hc.ex e8
    have tp := mo_tr _ _ _ e8 tp
    have ma := hp_amid z.1 z.2
    refine go_asg 6 (R := NewR K H8 (ps.map dP ++ (manys.map fun m => dP (gOut b.2.1 (gAmid z.1 z.2) (Rat.divInt m 16))))) (ev_cat (ev_tr 6 tp) (ev_lcL 15 (ds := manys.map .int) (rs := manys.map fun m => dP (gOut b.2.1 (gAmid z.1 z.2) (Rat.divInt m 16))) rfl sc_law.nd ((ev_lst (ds := manys.map .int) (by
          refine ea_cons ev_int ?_
          refine ea_cons ev_int ?_
          refine ea_cons ev_int ?_
          exact ea_cons ev_int ea_nil)).imp fun _ _ _ h => h.ls) (blkOk_by (N := n_law) (sc := C8.fnScope s_law) (by decide +kernel)) (fun _ _ _ _ _ => pg_name sc_law.nd rfl (by first | exact .inl rfl | exact .inr rfl) (by first | exact .inl rfl | exact .inr rfl)) rfl (by rw [List.length_map]; decide) fun t H9 u d x9 hd ru => ?_) mo_tr tr_lst new_lst (by rw [List.length_map]; show ps.length + 4 ≤ 100000; omega)) (fun v_n H9 e9 r_n => go_nil ?_) sc_law.nd
    · rw [List.getElem?_map] at hd
      obtain ⟨m, hm, rfl⟩ := Option.map_eq_some_iff.mp hd
      have hmm : 0 ≤ m ∧ m ≤ 16 := by
        have hm := List.mem_of_getElem? hm
        simp only [manys, List.mem_cons, List.not_mem_nil, or_false] at hm
        omega
      refine ⟨dP (gOut b.2.1 (gAmid z.1 z.2) (Rat.divInt m 16)), by rw [List.getElem?_map, hm]; rfl, fun _ _ _ _ _ => ?_⟩
      exact ev_call (dom := dom_law_out) (by exact ok_law_out T) (by exact hr1) (ea_cons (ev_d 8 (hc.ex x9)) (ea_cons (ev_call (dom := dom_law_amid) (by exact ok_law_amid T) (by exact hr1) (ea_cons (ev_d 10 (r_a.ex x9)) (ea_cons (ev_d 11 (r_b.ex x9)) ea_nil)) ⟨z.1, z.2, rfl, by omega, rfl⟩) (ea_cons (ev_d 15 ru) ea_nil))) ⟨b.2.1, gAmid z.1 z.2, m, rfl, ⟨hmm.1, hmm.2, by omega⟩, rfl⟩
    · obtain ⟨l9, rfl, -, t9⟩ := new_tr r_n
      refine ⟨⟨l9, _, _, _, _, _, _, ps ++ manys.map fun m => gOut b.2.1 (gAmid z.1 z.2) (Rat.divInt m 16), rfl, (e7.trans e8).trans e9, ?_, fun p hp => ?_, ?_⟩, e8.trans e9⟩
      · rw [List.length_append, List.length_map]
        show ps.length + 4 ≤ 30 + 4 * (i + 1)
        omega
      · rcases List.mem_append.mp hp with hp | hp
        · exact pb p hp
        · obtain ⟨m, hm, rfl⟩ := List.mem_map.mp hp
          simp only [manys, List.mem_cons, List.not_mem_nil, or_false] at hm
          exact out_hp (by omega) (by omega) bc (by omega)
      · rw [List.map_append, List.map_map]
        exact t9
  · rintro σ' H7 ⟨lp, v7, v8, v9, v10, v11, v15, ps, rfl, e7, pl, pb, tp⟩
    have r_ss := mo_LL _ _ _ e7 r_ss
    have r_cc := mo_LL _ _ _ e7 r_cc
    have hlb := e7 _ _ hlb
    have hbx := hbx.ex e7
    obtain ⟨-, pxs, hpx, hpr⟩ := tp
    refine go_forL (R := fun v _ => v = .ref lp) (xs := pxs) 12 PassesOwn.never rfl sc_law.nd ((ev_v 6 rfl).imp fun v H8 e8 h => ⟨lp, h, Or.inl (Or.inl (e8 _ _ hpx)), h⟩)
      (fun i σ' H' => ∃ v7 v8 v9 v10 v11 v12 v13 v14, σ' = [some v_s, some v_r, some v_ss, some (.int n), some v_cc, some (.ref lb), some (.ref lp), v7, v8, v9, v10, v11, v12, v13, v14, v15] ∧ Ex H7 H') (fun a H8 e8 _ ha => ?_) ?_ ?_
    · obtain rfl := V.ref.inj ha
      exact ⟨⟨v7, v8, v9, v10, v11, none, none, none, rfl, e8⟩, fun i σ' H' _ hq => by
        obtain ⟨_, _, _, _, _, _, _, _, _, ex⟩ := hq
        exact Or.inl (Or.inl (ex _ _ hpx))⟩
    · rintro i v σ' H8 hi ⟨v7, v8, v9, v10, v11, v12, v13, v14, rfl, e8⟩
      obtain ⟨d, hd, rv⟩ := hpr.get' hi
      rw [List.getElem?_map] at hd
      obtain ⟨p, hpi, rfl⟩ := Option.map_eq_some_iff.mp hd
      have bp := pb p (List.mem_of_getElem? hpi)
      have rv := rv.ex e8
      have r_ss := mo_LL _ _ _ e8 r_ss
      have r_cc := mo_LL _ _ _ e8 r_cc
      have hlb := e8 _ _ hlb
      have hbx := hbx.ex e8
      have wnd : ∀ {σ1 : L2.St} {H9 : Hp} {y1 : Str} {s1 : V} {ls : List (List Leg)} {p1 p2 p3 p4 : Pos} (i1 : Nat), σ1[i1]? = some (some s1) → σ1[12]? = some (some v) → Ex H8 H9 → n_law[i1]? = some y1 → LL K (ls.map dLs) s1 H9 → (∀ l ∈ ls.flatten, LegOk l ∧ legB l p) → Vis (bX P w K mg base n_law "law" s_law f cdv A outer s H E).env.scope y1 → (y1 == ("__debug__" : Str)) = false → (y1 == ("__classdict__" : Str)) = false → starEach [.Name y1 p2, .Name "_law_p" p3] (bX P w K mg base n_law "law" s_law f cdv A outer s H E).env = (false, eval (.Name y1 p2) (bX P w K mg base n_law "law" s_law f cdv A outer s H E).env) :: starEach [.Name "_law_p" p3] (bX P w K mg base n_law "law" s_law f cdv A outer s H E).env →
          EvD (bX P w K mg base n_law "law" s_law f cdv A outer s H E) σ1 H9 (.Call (.Name "winding" p1) [.Name y1 p2, .Name "_law_p" p3] [] p4) (windD ls.flatten p) := fun {σ1 H9 y1 s1 ls p1 p2 p3 p4} i1 g1 g2 e9 g3 g4 g5 g6 g7 g8 g9 =>
        ev_callI (ls, p) (ok_winding T) hr1 (EvA.imp (eb_cons (ev_n i1 g1 g4 mo_LL g3 g6 g7 g8) mo_LL (eb_cons (R := fun v H => Rp K H v (dP p)) (ev_d 12 (rv.ex e9) g2) mo_rp eb_nil) g9) fun vs H10 x10 hv => by
          obtain ⟨u, r, rfl, hu, u2, r2, rfl, hu2, hr0⟩ := hv
          have hr0 : r2 = [] := hr0
          subst hr0
          exact ⟨rfl, u, u2, rfl, hu, hu2, g5⟩) (fun H10 u H11 x10 x11 hu => hu) (by decide) rfl (by decide) g9 rfl
      refine go_par 13 14 (wnd (ls := lls) 2 rfl rfl (ex_refl H8) rfl r_ss (fun l hl => ⟨lok l hl, leg_b (lg l hl) bp⟩) (by first | exact Or.inl rfl | exact Or.inr (Or.inl rfl) | exact Or.inr (Or.inr rfl)) (by decide) (by decide) rfl) mo_rp (wnd (ls := gCutAll lls n) 4 rfl rfl (ex_refl H8) rfl r_cc (fun l hl => by
          rw [cutAll_flat] at hl
          obtain ⟨l0, hl0, hl⟩ := List.mem_flatMap.mp hl
          exact cut_b (lg l0 hl0) pn1 pn4 bp l hl) (by first | exact Or.inl rfl | exact Or.inr (Or.inl rfl) | exact Or.inr (Or.inr rfl)) (by decide) (by decide) rfl) rfl sc_law.nd fun v_w v_l H9 e9 r_w r_l => ?_
      have fin : ∀ {w7 w8 w9 w10 w11 w12 w13 w14 : Option V} {H10 : Hp}, Ex H9 H10 → ∃ v7 v8 v9 v10 v11 v12 v13 v14, [some v_s, some v_r, some v_ss, some (V.int n), some v_cc, some (.ref lb), some (.ref lp), w7, w8, w9, w10, w11, w12, w13, w14, v15] = [some v_s, some v_r, some v_ss, some (.int n), some v_cc, some (.ref lb), some (.ref lp), v7, v8, v9, v10, v11, v12, v13, v14, v15] ∧ Ex H7 H10 := fun e10 => ⟨_, _, _, _, _, _, _, _, rfl, (e8.trans e9).trans e10⟩
      cases hW : gWind lls.flatten p with
      | none =>
        rw [windD_none hW] at r_w
        refine go_no (EvT.cast (et_w (ew_and (et_notN (v := .non) (k := false) (ev_d 13 r_w) mo_rp fun u H10 ru => by rw [Rp.non_inv ru]; rfl) fun z => absurd z Bool.false_ne_true)) (Bool.false_and true)) fun H10 e10 => go_nil (fin e10)
      | some ww =>
        rw [windD_some hW] at r_w
        cases hV : gWind (gCutAll lls n).flatten p with
        | none =>
          rw [windD_none hV] at r_l
          refine go_no (EvT.cast (et_w (ew_and (et_notN (v := .int ww) (k := true) (ev_d 13 r_w) mo_rp fun u H10 ru => by rw [Rp.int_inv ru]; rfl) fun _ => ew_and1 (et_notN (v := .non) (k := false) (ev_d 14 r_l) mo_rp fun u H10 ru => by rw [Rp.non_inv ru]; rfl))) (Bool.true_and false)) fun H10 e10 => go_nil (fin e10)
        | some vv =>
          rw [windD_some hV] at r_l
          have law := the_law pn1 lok hW hV
          rw [hbs] at law
          have law : ww = vv + (bs.map (gAdd1 p)).sum := law
          have ew := Rp.int_inv r_w
          have el := Rp.int_inv r_l
          subst ew el
          refine go_yes (EvT.cast (et_w (ew_and (et_notN (v := .int ww) (k := true) (ev_d 13 (.int ww)) mo_rp fun u H10 ru => by rw [Rp.int_inv ru]; rfl) fun _ => ew_and1 (et_notN (v := .int vv) (k := true) (ev_d 14 (.int vv)) mo_rp fun u H10 ru => by rw [Rp.int_inv ru]; rfl))) (Bool.true_and true)) fun H10 e10 => ?_
          have hlb := e10 _ _ (e9 _ _ hlb)
          have hbx := (hbx.ex e9).ex e10
          have rv10 := (rv.ex e9).ex e10
          refine go_forLT [7, 8, 9] (xs := bxs) (R := fun _ _ => True) PassesOwn.never rfl sc_law.nd ((ev_v 5 rfl).imp fun v H11 e11 h => ⟨lb, h, e11 _ _ hlb, trivial⟩) (nm_cons 7 (nm_cons 8 (nm_cons 9 NmAt.nil)))
            (fun t σ' H' => ∃ v7 v8 v9 v10 v11, σ' = [some v_s, some v_r, some v_ss, some (.int n), some v_cc, some (.ref lb), some (.ref lp), v7, v8, v9, v10, v11, some v, some (.int ww), some (.int (vv + ((bs.take t).map (gAdd1 p)).sum)), v15] ∧ Ex H10 H') (fun H11 e11 => ⟨v7, v8, v9, v10, v11, by rw [show ((bs.take 0).map (gAdd1 p)).sum = 0 from rfl, Int.add_zero]; rfl, e11⟩) ?_ ?_
          · rintro t x σ' H11 ht ⟨v7, v8, v9, v10, v11, rfl, e11⟩
            obtain ⟨rl, b, hb, -, pa, vc, zs, rfl, hT, hc, hrl, hrz⟩ := hbx.2 t x ht
            have hbm := List.mem_of_getElem? hb
            obtain ⟨bc, bn, bz⟩ := bnd b hbm
            refine ⟨pa, _, rfl, (Ex.kt e11).sqT hT, rfl, ?_⟩
            have hc := hc.ex e11
            have hrl := e11 _ _ hrl
            have hrz := hrz.ex e11
            have rv11 := rv10.ex e11
            refine go_forLT [10, 11] (xs := zs) (R := fun _ _ => True) PassesOwn.never rfl sc_law.nd ((ev_v 9 rfl).imp fun v H12 e12 h => ⟨rl, h, e12 _ _ hrl, trivial⟩) (nm_cons 10 (nm_cons 11 NmAt.nil))
              (fun m σ' H' => ∃ v10 v11, σ' = [some v_s, some v_r, some v_ss, some (.int n), some v_cc, some (.ref lb), some (.ref lp), some (.int b.1), some vc, some (.ref rl), v10, v11, some v, some (.int ww), some (.int (vv + ((bs.take t).map (gAdd1 p)).sum + ((b.2.2.take m).map fun z => if gLawBet b.2.1 z.1 z.2 p = true then b.1 else 0).sum)), v15] ∧ Ex H11 H') (fun H12 e12 => ⟨v10, v11, by rw [show ((b.2.2.take 0).map fun z => if gLawBet b.2.1 z.1 z.2 p = true then b.1 else 0).sum = 0 from rfl, Int.add_zero]; rfl, e12⟩) ?_ ?_
            · rintro m x2 σ' H12 hm ⟨v10, v11, rfl, e12⟩
              obtain ⟨dz, hdz, rz⟩ := hrz.get' hm
              rw [List.getElem?_map] at hdz
              obtain ⟨z, hz, rfl⟩ := Option.map_eq_some_iff.mp hdz
              have hzm := List.mem_of_getElem? hz
              obtain ⟨bz1, bz2⟩ := bz z hzm
              obtain ⟨pz, us, rfl, hTz, hus⟩ := (rz.ex e12).tup_inv
              obtain ⟨v_a, v_b, rfl, r_a, r_b⟩ := inv2 hus
              refine ⟨pz, _, rfl, hTz, rfl, ?_⟩
              have hc := hc.ex e12
              have rv12 := rv11.ex e12
              have hstep := addT1 (fun z : Pt × Pt => if gLawBet b.2.1 z.1 z.2 p = true then b.1 else 0) hz
              refine go_when (et_val (ev_call (ok_law_is_between T) hr1 (ea_cons (ev_d 8 hc) (ea_cons (ev_d 10 r_a) (ea_cons (ev_d 11 r_b) (ea_cons (ev_d 12 rv12) ea_nil)))) ⟨b.2.1, z.1, z.2, p, rfl, by omega, rfl⟩)) (fun hk H13 e13 => ?_) fun hk H13 e13 => ?_
              · refine go_asg 14 (ev_add (ev_d 14 (.int _)) (ev_d 7 (.int _))) (fun u H14 e14 ru => ?_) sc_law.nd
                have eu := ru.int_inv
                subst eu
                have e24 := e13.trans e14
                have bl := bent_below lok (hbs ▸ hbm) hzm hk
                refine go_no (EvT.cast (et_not (et_val (ev_call (ok_law_is_below T) hr1 (ea_cons (ev_d 8 (hc.ex e24)) (ea_cons (ev_d 10 (r_a.ex e24)) (ea_cons (ev_d 11 (r_b.ex e24)) (ea_cons (ev_d 12 (rv12.ex e24)) ea_nil)))) ⟨b.2.1, z.1, z.2, p, rfl, by omega, bl, rfl⟩))) rfl) fun H15 e15 => go_nil (go_nil ⟨⟨some v_a, some v_b, ?_, (e12.trans e24).trans e15⟩, e24.trans e15⟩)
                rw [hstep, if_pos hk, ← Int.add_assoc]
                rfl
              · refine go_nil ⟨⟨some v_a, some v_b, ?_, e12.trans e13⟩, e13⟩
                rw [hstep, if_neg (by rw [hk]; exact Bool.false_ne_true), Int.add_zero]
                rfl
            · rintro σ' H12 ⟨v10, v11, rfl, e12⟩
              have hzl : zs.length = b.2.2.length := by rw [hrz.length, List.length_map]
              rw [hzl, List.take_length]
              refine go_nil ⟨⟨some (.int b.1), some vc, some (.ref rl), v10, v11, ?_, e11.trans e12⟩, e12⟩
              rw [addT1 (gAdd1 p) hb, ← Int.add_assoc]
              rfl
          · rintro σ' H11 ⟨v7, v8, v9, v10, v11, rfl, e11⟩
            rw [hbx.1, List.take_length]
            refine go_no (EvT.cast (et_neI (ev_d 13 (.int ww)) (ev_d 14 (.int _))) (by rw [decide_eq_true law]; rfl)) fun H12 e12 => go_nil (go_nil (fin ((e10.trans e11).trans e12)))
    · rintro σ' H8 ⟨v7, v8, v9, v10, v11, v12, v13, v14, rfl, e8⟩
      exact go_ret ev_bl fun v H9 e9 rv => q v H9 (((ex6.trans e7).trans e8).trans e9) rv.bl_inv
end
end Ar
set_option maxHeartbeats 0
/-! What the top leaves. -/
namespace Ar
open PySem L2
abbrev Rw : PySem.W.OpenRow := PySem.W.OpenLaw.row PySem.Challenge.rw_arcmill_k76_whole_cut_strokes_wind_alike
def dd (x : Str) (st : Stmt) (dfl : List He.Dv) : He.DefD := ⟨(x, none), x, x, C8.fnArgs st, C8.fnBody st, C8.fnScope st, dfl, []⟩
def fn0 : List He.DefD := [dd "divisor" s_divisor [], dd "ratio" s_ratio [], dd "plus" s_plus [], dd "minus" s_minus [], dd "times" s_times [], dd "over" s_over [], dd "below" s_below [], dd "together" s_together [], dd "off" s_off [], dd "grown" s_grown [], dd "turned" s_turned [], dd "along" s_along [], dd "across" s_across [], dd "far" s_far [], dd "sign_of" s_sign_of [], dd "side" s_side [], dd "before" s_before [], dd "stretch" s_stretch [], dd "lies_on" s_lies_on [], dd "arc" s_arc [], dd "quarter_of" s_quarter_of [], dd "ahead" s_ahead [], dd "on" s_on [], dd "at_share" s_at_share [], dd "share_of" s_share_of [], dd "quarters" s_quarters [], dd "piece_of" s_piece_of [], dd "passed" s_passed [], dd "is_between" s_is_between [], dd "counted" s_counted []]
def fn1 : List He.DefD := [dd "winding" s_winding [], dd "marks_of" s_marks_of [], dd "cut_leg" s_cut_leg [], dd "cut_strokes" s_cut_strokes [], dd "first" s_first [], dd "led" s_led [], dd "behind" s_behind [], dd "straight" s_straight [], dd "bowed" s_bowed [], dd "shaped" s_shaped [], dd "moved_by" s_moved_by [], dd "done_by" s_done_by [], dd "told_leg" s_told_leg [], dd "led_leg" s_led_leg [], dd "legs_from" s_legs_from [], dd "begin_of" s_begin_of [], dd "end_of" s_end_of [], dd "closed" s_closed [], dd "strokes" s_strokes [], dd "_law_cell_at" s_law_cell_at [], dd "_law_row" s_law_row [], dd "_law_ratio" s_law_ratio [], dd "_law_plus" s_law_plus [], dd "_law_times" s_law_times [], dd "_law_drawn" s_law_drawn [], dd "_law_bow" s_law_bow [], dd "_law_plain" s_law_plain [], dd "_law_size" s_law_size [], dd "_law_draws" s_law_draws [], dd "_law_is_endless" s_law_is_endless []]
def fn2 : List He.DefD := [dd "_law_done" s_law_done [], dd "_law_close" s_law_close [], dd "_law_program" s_law_program [], dd "_law_minus" s_law_minus [], dd "_law_less" s_law_less [], dd "_law_off" s_law_off [], dd "_law_cross" s_law_cross [], dd "_law_dot" s_law_dot [], dd "_law_side" s_law_side [], dd "_law_ends" s_law_ends [], dd "_law_some" s_law_some [], dd "_law_amid" s_law_amid [], dd "_law_points" s_law_points [], dd "_law_is_between" s_law_is_between [], dd "_law_is_below" s_law_is_below [], dd "_law_out" s_law_out [], dd "_law_bent" s_law_bent [], dd "law" s_law [], dd "stood" s_stood [.int 0]]
def fnAll : List He.DefD := fn0 ++ (fn1 ++ (fn2))
def fa0 : List He.Fa := [.glo "divisor", .glo "ratio", .glo "plus", .glo "minus", .glo "times", .glo "over", .glo "below", .glo "together", .glo "off", .glo "grown", .glo "turned", .glo "along", .glo "across", .glo "far", .glo "sign_of", .glo "side", .glo "before", .glo "stretch", .glo "lies_on", .glo "arc"]
def fa1 : List He.Fa := [.glo "quarter_of", .glo "ahead", .glo "on", .glo "at_share", .glo "share_of", .glo "quarters", .glo "piece_of", .glo "passed", .glo "is_between", .glo "counted", .glo "winding", .glo "marks_of", .glo "cut_leg", .glo "cut_strokes", .glo "first", .glo "led", .glo "behind", .glo "straight", .glo "bowed", .glo "shaped"]
def fa2 : List He.Fa := [.glo "moved_by", .glo "done_by", .glo "told_leg", .glo "led_leg", .glo "legs_from", .glo "begin_of", .glo "end_of", .glo "closed", .glo "strokes", .glo "_law_cell_at", .glo "_law_row", .glo "_law_ratio", .glo "_law_plus", .glo "_law_times", .glo "_law_drawn", .glo "_law_bow", .glo "_law_plain", .glo "_law_size", .glo "_law_draws", .glo "_law_is_endless"]
def fa3 : List He.Fa := [.glo "_law_done", .glo "_law_close", .glo "_law_program", .glo "_law_minus", .glo "_law_less", .glo "_law_off", .glo "_law_cross", .glo "_law_dot", .glo "_law_side", .glo "_law_ends", .glo "_law_some", .glo "_law_amid", .glo "_law_points", .glo "_law_is_between", .glo "_law_is_below", .glo "_law_out", .glo "_law_bent", .glo "law", .glo "stood", .free "abs"]
def fa4 : List He.Fa := [.free "range", .free "int", .free "len", .free "zip", .free "tuple", .free "list", .free "reversed", .free "min", .int "MOST_DONE" 300, .glo "NOUGHT", .glo "TURNS", .glo "__builtins__"]
def faAll : List He.Fa := fa0 ++ (fa1 ++ (fa2 ++ (fa3 ++ (fa4))))
def nm0 : List Str := ["MillError", "NoNumber", "NoPiece", "TooMuch", "divisor", "ratio", "plus", "minus", "times", "over", "below", "together", "off", "grown", "turned", "along", "across", "far", "sign_of", "side"]
def nm1 : List Str := ["before", "stretch", "lies_on", "arc", "quarter_of", "ahead", "on", "at_share", "share_of", "quarters", "piece_of", "passed", "is_between", "counted", "winding", "marks_of", "cut_leg", "cut_strokes", "NOUGHT", "first"]
def nm2 : List Str := ["led", "behind", "MOST_DONE", "TURNS", "stood", "straight", "bowed", "shaped", "moved_by", "move", "done_by", "told_leg", "led_leg", "legs_from", "begin_of", "end_of", "closed", "strokes", "_law_cell_at", "_law_row"]
def nm3 : List Str := ["_law_ratio", "_law_plus", "_law_times", "_law_drawn", "_law_bow", "_law_plain", "_law_size", "_law_draws", "_law_is_endless", "_law_done", "_law_close", "_law_program", "_law_minus", "_law_less", "_law_off", "_law_cross", "_law_dot", "_law_side", "_law_within", "_law_left_ends"]
def nm4 : List Str := ["_law_ends", "_law_some", "_law_amid", "_law_points", "_law_is_between", "_law_is_below", "_law_out", "_law_bent"]
def nmAll : List Str := nm0 ++ (nm1 ++ (nm2 ++ (nm3 ++ (nm4))))
/-- the i-th of a tuple, if it is an object -/
def itA (K : PySem.W.Frag) (a : Addr) (i : Nat) : Addr := match K.lookup a with
  | some ⟨_, _, .seq its _, _⟩ => (match its.toList[i]? with
    | some (.ref b) => b
    | _ => 0)
  | _ => 0
/-- a tuple of these stands there -/
def tuB (K : PySem.W.Frag) (a : Addr) (vs : List V) : Bool := match K.lookup a with
  | some ⟨.type c, _, .seq its _, _⟩ => decide (c = "tuple") && (decide (its.size ≤ sizeLine) && He.relAll vs its.toList)
  | _ => false
def noughtA (K : PySem.W.Frag) : Addr := He.ga K "NOUGHT"
def tabT : List (Str × He.Dv) := [("left", .int 1), ("round", .int 2), ("right", .int 3)]
def there (K : PySem.W.Frag) (a : Addr) : Bool := (K.lookup a).isSome
def moreB (K : PySem.W.Frag) : Bool :=
  (tuB K (noughtA K) [.ref (itA K (noughtA K) 0), .ref (itA K (noughtA K) 1)] && (tuB K (itA K (noughtA K) 0) [.int 0, .int 1] && tuB K (itA K (noughtA K) 1) [.int 0, .int 1])) &&
  (He.valsB K (He.ga K "TURNS") tabT && (there K cStatics && (there K sysModules && (there K builtinsNs && (there K mainGlobals && there K (He.ga K "__builtins__"))))))
def tabs : List He.Tab := [(fun K => He.ga K "TURNS", ["left", "round", "right"])]
def refs1 (g : Addr → Option Obj) (a : Addr) : List Addr := match g a with
  | some o => He.refsD o
  | none => []
def addrs (g : Addr → Option Obj) : List Addr := [mainGlobals, cStatics, sysModules, builtinsNs] ++ (refs1 g mainGlobals ++ (refs1 g mainGlobals).flatMap (refs1 g))
def frL {α : Type} : List Addr → (List Addr → α) → α
  | [], k => k []
  | a :: r, k => HandSHeadRun.frNat a fun a => frL r fun r => k (a :: r)
theorem frL_eq {α : Type} : ∀ (l : List Addr) (k : List Addr → α), frL l k = k l
  | [], _ => rfl
  | a :: r, k => by
    show HandSHeadRun.frNat a (fun a => frL r fun r => k (a :: r)) = _
    rw [HandSHeadRun.frNat_eq, frL_eq r]
def frO {α : Type} (o : Obj) (k : Obj → α) : α := match o with
  | ⟨c, d, dt, sl⟩ => k ⟨c, d, dt, sl⟩
theorem frO_eq {α : Type} (o : Obj) (k : Obj → α) : frO o k = k o := by cases o; rfl
def frK {α : Type} : List (Addr × Obj) → (List (Addr × Obj) → α) → α
  | [], k => k []
  | (a, o) :: r, k => HandSHeadRun.frNat a fun a => frO o fun o => frK r fun r => k ((a, o) :: r)
theorem frK_eq {α : Type} : ∀ (l : List (Addr × Obj)) (k : List (Addr × Obj) → α), frK l k = k l
  | [], _ => rfl
  | (a, o) :: r, k => by
    show HandSHeadRun.frNat a (fun a => frO o fun o => frK r fun r => k ((a, o) :: r)) = _
    rw [HandSHeadRun.frNat_eq, frO_eq, frK_eq r]
abbrev AlM : Type := He.AlT × Bool
def obM (g : Addr → Option Obj) : AlM := frL (addrs g) fun as => frK (He.frG g as) fun K => (He.obsT faAll fnAll tabs K, moreB K)
theorem obM_eq (g : Addr → Option Obj) : obM g = (He.obsT faAll fnAll tabs (He.frG g (addrs g)), moreB (He.frG g (addrs g))) := by
  unfold obM
  rw [frL_eq, frK_eq]
structure SaysM (w : World) (K : PySem.W.Frag) : Prop where
  t : He.SaysT faAll fnAll tabs w K
  more : moreB K = true
def hkM : PySem.W.Hook where
  α := AlM
  obs := fun s => obM s.heap.get?
  val := fun w => (He.valT fnAll tabs w, true)
  says := fun w h => ∃ K : PySem.W.Frag, K.In h ∧ SaysM w K
  of := fun w s e => ⟨_, He.frG_in, ⟨congrArg (fun z : AlM => z.1) ((obM_eq s.heap.get?).symm.trans e), congrArg (fun z : AlM => z.2) ((obM_eq s.heap.get?).symm.trans e)⟩⟩
  keeps := fun w h h' ⟨K, hK, c⟩ k => ⟨K, PySem.W.Frag.In.keeps hK k, c⟩
def obT (s : PySem.W.SharedT) : AlM := obM (HandSHeadRun.getT s)
theorem obT_eq (s : PySem.W.SharedT) : obT s = hkM.obs s.abs := by
  have e : HandSHeadRun.getT s = s.abs.heap.get? := funext (HandSHeadRun.getT_eq s)
  show obM (HandSHeadRun.getT s) = obM s.abs.heap.get?
  rw [e]
theorem topRunF (w : World) : HandSHeadRun.RunEq Rw (PySem.W.view Rw.prog [99]) hkM obT 9000 nmAll (w.withFollow "special-get-raises" false) := by
  intro os
  kernel_rfl
theorem topRunT (w : World) : HandSHeadRun.RunEq Rw (PySem.W.view Rw.prog [99]) hkM obT 9000 nmAll (w.withFollow "special-get-raises" true) := by
  intro os
  kernel_rfl
theorem topRun (w : World) : HandSHeadRun.RunEq Rw (PySem.W.view Rw.prog [99]) hkM obT 9000 nmAll w :=
  PySem.W.byRow2 "special-get-raises" (P := fun w => HandSHeadRun.RunEq Rw (PySem.W.view Rw.prog [99]) hkM obT 9000 nmAll w) topRunF topRunT w
end Ar
set_option maxHeartbeats 4000000
/-! What the walk leans on, from what the top leaves. -/
namespace Ar
open PySem L2
section
variable {w : World} {K : PySem.W.Frag} {mg : Str → Option Value} {base h : Heap}
theorem hasDef_of {x : Str} {st : Stmt} {ps : List Str} (hF : ∃ fd, FunD K x x (C8.fnArgs st) (C8.fnBody st) (C8.fnScope st) [] [] (He.ga K x) fd) (hm : mg x = some (.ref (He.ga K x)))
    (hb : ∀ (kV doc pm : Value) (an : Option Addr) (cdv ct : Value) (us : List Value), us.length = ps.length → bindArgs (PySem.W.fnOf x x (C8.fnArgs st) (C8.fnBody st) (C8.fnScope st) .none kV doc pm an cdv ct) ⟨us, []⟩ = pure (ps.zip us)) : HasDef K mg x st ps := by
  obtain ⟨fd, F⟩ := hF
  obtain ⟨oc, od, dV, kV, doc, pm, an, cdv, ct, osl, g1, g2, g3, -, -⟩ := F.ex
  exact ⟨He.ga K x, fd, ⟨⟨oc, od, dV, kV, doc, pm, an, cdv, ct, osl, g1, g2, g3⟩, hm, F.kp⟩, F.bindsN hb⟩
theorem tuB_ok {a : Addr} {vs : List V} (h : tuB K a vs = true) (H : Hp) : SqT K H a vs := by
  unfold tuB at h
  split at h
  · rename_i c od its n sl q
    rw [Bool.and_eq_true, Bool.and_eq_true, decide_eq_true_iff, decide_eq_true_iff] at h
    obtain ⟨rfl, hz, hr⟩ := h
    exact .inr ⟨_, its, n, q, rfl, rfl, hz, He.relAll_ok hr⟩
  · cases h
theorem ns_of {a : Addr} {m : Str → Option Value} (hn : h.Ns a m) (KX : K.In h) (KB : K.In base) (ht : there K a = true) : base.Ns a m := by
  obtain ⟨o, es, ep, ho, r⟩ := hn
  unfold there at ht
  obtain ⟨o2, h2⟩ := Option.isSome_iff_exists.mp ht
  have e := KX _ _ h2
  rw [ho] at e
  obtain rfl := Option.some.inj e
  exact ⟨o, es, ep, KB _ _ h2, r⟩
theorem more_ok (c : moreB K = true) : (tuB K (noughtA K) [.ref (itA K (noughtA K) 0), .ref (itA K (noughtA K) 1)] = true ∧ tuB K (itA K (noughtA K) 0) [.int 0, .int 1] = true ∧ tuB K (itA K (noughtA K) 1) [.int 0, .int 1] = true) ∧ He.valsB K (He.ga K "TURNS") tabT = true ∧
    there K cStatics = true ∧ there K sysModules = true ∧ there K builtinsNs = true ∧ there K mainGlobals = true ∧ there K (He.ga K "__builtins__") = true := by
  unfold moreB at c
  simp only [Bool.and_eq_true] at c
  exact ⟨⟨c.1.1, c.1.2⟩, c.2.1, c.2.2.1, c.2.2.2.1, c.2.2.2.2.1, c.2.2.2.2.2.1, c.2.2.2.2.2.2⟩
theorem seer_of (hs : h.NoSeer) (KX : K.In h) (KB : K.In base) (c : moreB K = true) (hg : (He.Fa.glo "__builtins__").ok K = true) : base.NoSeer := by
  obtain ⟨-, -, t1, t2, t3, t4, t5⟩ := more_ok c
  refine ⟨?_, ?_, ?_, ?_⟩
  · obtain ⟨mc, h1, h2⟩ := hs.statics
    exact ⟨mc, ns_of h1 KX KB t1, h2⟩
  · obtain ⟨mc, h1, h2⟩ := hs.mods
    exact ⟨mc, ns_of h1 KX KB t2, h2⟩
  · obtain ⟨mc, h1, h2⟩ := hs.imp
    exact ⟨mc, ns_of h1 KX KB t3, h2⟩
  · obtain ⟨mg, bm, ob, h1, h2, h3, h4⟩ := hs.main
    have e := He.glo_ok KX h1 hg
    rw [h2] at e
    obtain rfl := Value.ref.inj (Option.some.inj e)
    unfold there at t5
    obtain ⟨o2, g2⟩ := Option.isSome_iff_exists.mp t5
    have e2 := KX _ _ g2
    rw [h3] at e2
    obtain rfl := Option.some.inj e2
    exact ⟨mg, _, ob, ns_of h1 KX KB t4, h2, KB _ _ g2, h4⟩
theorem nought_rp (c : moreB K = true) (H : Hp) : Rp K H (.ref (noughtA K)) (.tuple [.tuple [.int 0, .int 1], .tuple [.int 0, .int 1]]) := by
  obtain ⟨⟨c1, c2, c3⟩, -⟩ := more_ok c
  exact .tup (tuB_ok c1 H) (.cons (.tup (tuB_ok c2 H) (.cons (.int 0) (.cons (.int 1) .nil))) (.cons (.tup (tuB_ok c3 H) (.cons (.int 0) (.cons (.int 1) .nil))) .nil))
theorem turns_kd (c : SaysM w K) {z : Str} {d : He.Dv} (hz : (z, d) ∈ tabT) : KDct K w (He.ga K "TURNS") z (d.v K) := by
  obtain ⟨-, cv, -⟩ := more_ok c.more
  obtain ⟨es, n, kd⟩ := c.t.tab 0 (t := (fun K => He.ga K "TURNS", ["left", "round", "right"])) rfl
  obtain ⟨u, h1, h2⟩ := He.valsB_ok cv hz
  exact ⟨es, n, u, kd.1, kd.lit, h1, h2⟩
theorem stood_of (hF : ∃ fd, FunD K "stood" "stood" (C8.fnArgs s_stood) (C8.fnBody s_stood) (C8.fnScope s_stood) [.int 0] [] (He.ga K "stood") fd) (hm : mg "stood" = some (.ref (He.ga K "stood"))) :
    ∃ f fd, C8.Def K mg "stood" s_stood f fd ∧ Binds K fd ["place", "turns"] [] ∧ ∃ t, Binds K fd ["place", "turns"] [.int 0 t] := by
  obtain ⟨fd, F⟩ := hF
  obtain ⟨oc, od, dV, kV, doc, pm, an, cdv, ct, osl, g1, g2, g3, -, -⟩ := F.ex
  refine ⟨He.ga K "stood", fd, ⟨⟨oc, od, dV, kV, doc, pm, an, cdv, ct, osl, g1, g2, g3⟩, hm, F.kp⟩, ?_, ?_⟩
  · obtain ⟨ds, h1, h2⟩ := F.binds1 (ps := ["place", "turns"]) 2 1 (by simp) rfl fun T kV doc pm an cdv ct us its h1 h2 => match us, its, h1, h2 with
      | [_, _], [_], _, _ => ⟨_, rfl, rfl⟩
    cases h1
    exact h2
  · obtain ⟨ds, h1, h2⟩ := F.binds1 (ps := ["place", "turns"]) 1 0 (by simp) rfl fun T kV doc pm an cdv ct us its h1 h2 => match us, its, h1, h2 with
      | [_], [_], _, _ => ⟨_, rfl, rfl⟩
    cases h1 with
    | cons r1 r2 =>
      cases r2
      obtain ⟨t, rfl⟩ := r1
      exact ⟨t, h2⟩
theorem hd_divisor (KX : K.In h) (G : h.Ns mainGlobals mg) (c : He.SaysD faAll fnAll K) : HasDef K mg "divisor" s_divisor ["one", "other"] := hasDef_of (c.def_ 0 (d := dd "divisor" s_divisor []) rfl) (He.glo_ok KX G (c.fact 0 (f := .glo "divisor") rfl)) fun _ _ _ _ _ _ us hl => match us, hl with | [_, _], _ => rfl
theorem hd_ratio (KX : K.In h) (G : h.Ns mainGlobals mg) (c : He.SaysD faAll fnAll K) : HasDef K mg "ratio" s_ratio ["top", "bottom"] := hasDef_of (c.def_ 1 (d := dd "ratio" s_ratio []) rfl) (He.glo_ok KX G (c.fact 1 (f := .glo "ratio") rfl)) fun _ _ _ _ _ _ us hl => match us, hl with | [_, _], _ => rfl
theorem hd_plus (KX : K.In h) (G : h.Ns mainGlobals mg) (c : He.SaysD faAll fnAll K) : HasDef K mg "plus" s_plus ["one", "other"] := hasDef_of (c.def_ 2 (d := dd "plus" s_plus []) rfl) (He.glo_ok KX G (c.fact 2 (f := .glo "plus") rfl)) fun _ _ _ _ _ _ us hl => match us, hl with | [_, _], _ => rfl
theorem hd_minus (KX : K.In h) (G : h.Ns mainGlobals mg) (c : He.SaysD faAll fnAll K) : HasDef K mg "minus" s_minus ["one", "other"] := hasDef_of (c.def_ 3 (d := dd "minus" s_minus []) rfl) (He.glo_ok KX G (c.fact 3 (f := .glo "minus") rfl)) fun _ _ _ _ _ _ us hl => match us, hl with | [_, _], _ => rfl
theorem hd_times (KX : K.In h) (G : h.Ns mainGlobals mg) (c : He.SaysD faAll fnAll K) : HasDef K mg "times" s_times ["one", "other"] := hasDef_of (c.def_ 4 (d := dd "times" s_times []) rfl) (He.glo_ok KX G (c.fact 4 (f := .glo "times") rfl)) fun _ _ _ _ _ _ us hl => match us, hl with | [_, _], _ => rfl
theorem hd_over (KX : K.In h) (G : h.Ns mainGlobals mg) (c : He.SaysD faAll fnAll K) : HasDef K mg "over" s_over ["one", "other"] := hasDef_of (c.def_ 5 (d := dd "over" s_over []) rfl) (He.glo_ok KX G (c.fact 5 (f := .glo "over") rfl)) fun _ _ _ _ _ _ us hl => match us, hl with | [_, _], _ => rfl
theorem hd_below (KX : K.In h) (G : h.Ns mainGlobals mg) (c : He.SaysD faAll fnAll K) : HasDef K mg "below" s_below ["one", "other"] := hasDef_of (c.def_ 6 (d := dd "below" s_below []) rfl) (He.glo_ok KX G (c.fact 6 (f := .glo "below") rfl)) fun _ _ _ _ _ _ us hl => match us, hl with | [_, _], _ => rfl
theorem hd_together (KX : K.In h) (G : h.Ns mainGlobals mg) (c : He.SaysD faAll fnAll K) : HasDef K mg "together" s_together ["p", "q"] := hasDef_of (c.def_ 7 (d := dd "together" s_together []) rfl) (He.glo_ok KX G (c.fact 7 (f := .glo "together") rfl)) fun _ _ _ _ _ _ us hl => match us, hl with | [_, _], _ => rfl
theorem hd_off (KX : K.In h) (G : h.Ns mainGlobals mg) (c : He.SaysD faAll fnAll K) : HasDef K mg "off" s_off ["p", "q"] := hasDef_of (c.def_ 8 (d := dd "off" s_off []) rfl) (He.glo_ok KX G (c.fact 8 (f := .glo "off") rfl)) fun _ _ _ _ _ _ us hl => match us, hl with | [_, _], _ => rfl
theorem hd_grown (KX : K.In h) (G : h.Ns mainGlobals mg) (c : He.SaysD faAll fnAll K) : HasDef K mg "grown" s_grown ["p", "number"] := hasDef_of (c.def_ 9 (d := dd "grown" s_grown []) rfl) (He.glo_ok KX G (c.fact 9 (f := .glo "grown") rfl)) fun _ _ _ _ _ _ us hl => match us, hl with | [_, _], _ => rfl
theorem hd_turned (KX : K.In h) (G : h.Ns mainGlobals mg) (c : He.SaysD faAll fnAll K) : HasDef K mg "turned" s_turned ["p", "quarters"] := hasDef_of (c.def_ 10 (d := dd "turned" s_turned []) rfl) (He.glo_ok KX G (c.fact 10 (f := .glo "turned") rfl)) fun _ _ _ _ _ _ us hl => match us, hl with | [_, _], _ => rfl
theorem hd_along (KX : K.In h) (G : h.Ns mainGlobals mg) (c : He.SaysD faAll fnAll K) : HasDef K mg "along" s_along ["p", "q"] := hasDef_of (c.def_ 11 (d := dd "along" s_along []) rfl) (He.glo_ok KX G (c.fact 11 (f := .glo "along") rfl)) fun _ _ _ _ _ _ us hl => match us, hl with | [_, _], _ => rfl
theorem hd_across (KX : K.In h) (G : h.Ns mainGlobals mg) (c : He.SaysD faAll fnAll K) : HasDef K mg "across" s_across ["p", "q"] := hasDef_of (c.def_ 12 (d := dd "across" s_across []) rfl) (He.glo_ok KX G (c.fact 12 (f := .glo "across") rfl)) fun _ _ _ _ _ _ us hl => match us, hl with | [_, _], _ => rfl
theorem hd_far (KX : K.In h) (G : h.Ns mainGlobals mg) (c : He.SaysD faAll fnAll K) : HasDef K mg "far" s_far ["p", "q"] := hasDef_of (c.def_ 13 (d := dd "far" s_far []) rfl) (He.glo_ok KX G (c.fact 13 (f := .glo "far") rfl)) fun _ _ _ _ _ _ us hl => match us, hl with | [_, _], _ => rfl
theorem hd_sign_of (KX : K.In h) (G : h.Ns mainGlobals mg) (c : He.SaysD faAll fnAll K) : HasDef K mg "sign_of" s_sign_of ["number"] := hasDef_of (c.def_ 14 (d := dd "sign_of" s_sign_of []) rfl) (He.glo_ok KX G (c.fact 14 (f := .glo "sign_of") rfl)) fun _ _ _ _ _ _ us hl => match us, hl with | [_], _ => rfl
theorem hd_side (KX : K.In h) (G : h.Ns mainGlobals mg) (c : He.SaysD faAll fnAll K) : HasDef K mg "side" s_side ["a", "b", "p"] := hasDef_of (c.def_ 15 (d := dd "side" s_side []) rfl) (He.glo_ok KX G (c.fact 15 (f := .glo "side") rfl)) fun _ _ _ _ _ _ us hl => match us, hl with | [_, _, _], _ => rfl
theorem hd_before (KX : K.In h) (G : h.Ns mainGlobals mg) (c : He.SaysD faAll fnAll K) : HasDef K mg "before" s_before ["p", "q"] := hasDef_of (c.def_ 16 (d := dd "before" s_before []) rfl) (He.glo_ok KX G (c.fact 16 (f := .glo "before") rfl)) fun _ _ _ _ _ _ us hl => match us, hl with | [_, _], _ => rfl
theorem hd_stretch (KX : K.In h) (G : h.Ns mainGlobals mg) (c : He.SaysD faAll fnAll K) : HasDef K mg "stretch" s_stretch ["p", "q"] := hasDef_of (c.def_ 17 (d := dd "stretch" s_stretch []) rfl) (He.glo_ok KX G (c.fact 17 (f := .glo "stretch") rfl)) fun _ _ _ _ _ _ us hl => match us, hl with | [_, _], _ => rfl
theorem hd_lies_on (KX : K.In h) (G : h.Ns mainGlobals mg) (c : He.SaysD faAll fnAll K) : HasDef K mg "lies_on" s_lies_on ["piece", "p"] := hasDef_of (c.def_ 18 (d := dd "lies_on" s_lies_on []) rfl) (He.glo_ok KX G (c.fact 18 (f := .glo "lies_on") rfl)) fun _ _ _ _ _ _ us hl => match us, hl with | [_, _], _ => rfl
theorem hd_arc (KX : K.In h) (G : h.Ns mainGlobals mg) (c : He.SaysD faAll fnAll K) : HasDef K mg "arc" s_arc ["c", "p", "q"] := hasDef_of (c.def_ 19 (d := dd "arc" s_arc []) rfl) (He.glo_ok KX G (c.fact 19 (f := .glo "arc") rfl)) fun _ _ _ _ _ _ us hl => match us, hl with | [_, _, _], _ => rfl
theorem hd_quarter_of (KX : K.In h) (G : h.Ns mainGlobals mg) (c : He.SaysD faAll fnAll K) : HasDef K mg "quarter_of" s_quarter_of ["one", "other"] := hasDef_of (c.def_ 20 (d := dd "quarter_of" s_quarter_of []) rfl) (He.glo_ok KX G (c.fact 20 (f := .glo "quarter_of") rfl)) fun _ _ _ _ _ _ us hl => match us, hl with | [_, _], _ => rfl
theorem hd_ahead (KX : K.In h) (G : h.Ns mainGlobals mg) (c : He.SaysD faAll fnAll K) : HasDef K mg "ahead" s_ahead ["c", "a", "p", "q"] := hasDef_of (c.def_ 21 (d := dd "ahead" s_ahead []) rfl) (He.glo_ok KX G (c.fact 21 (f := .glo "ahead") rfl)) fun _ _ _ _ _ _ us hl => match us, hl with | [_, _, _, _], _ => rfl
theorem hd_on (KX : K.In h) (G : h.Ns mainGlobals mg) (c : He.SaysD faAll fnAll K) : HasDef K mg "on" s_on ["piece", "p"] := hasDef_of (c.def_ 22 (d := dd "on" s_on []) rfl) (He.glo_ok KX G (c.fact 22 (f := .glo "on") rfl)) fun _ _ _ _ _ _ us hl => match us, hl with | [_, _], _ => rfl
theorem hd_at_share (KX : K.In h) (G : h.Ns mainGlobals mg) (c : He.SaysD faAll fnAll K) : HasDef K mg "at_share" s_at_share ["c", "a", "t"] := hasDef_of (c.def_ 23 (d := dd "at_share" s_at_share []) rfl) (He.glo_ok KX G (c.fact 23 (f := .glo "at_share") rfl)) fun _ _ _ _ _ _ us hl => match us, hl with | [_, _, _], _ => rfl
theorem hd_share_of (KX : K.In h) (G : h.Ns mainGlobals mg) (c : He.SaysD faAll fnAll K) : HasDef K mg "share_of" s_share_of ["c", "a", "p"] := hasDef_of (c.def_ 24 (d := dd "share_of" s_share_of []) rfl) (He.glo_ok KX G (c.fact 24 (f := .glo "share_of") rfl)) fun _ _ _ _ _ _ us hl => match us, hl with | [_, _, _], _ => rfl
theorem hd_quarters (KX : K.In h) (G : h.Ns mainGlobals mg) (c : He.SaysD faAll fnAll K) : HasDef K mg "quarters" s_quarters ["piece"] := hasDef_of (c.def_ 25 (d := dd "quarters" s_quarters []) rfl) (He.glo_ok KX G (c.fact 25 (f := .glo "quarters") rfl)) fun _ _ _ _ _ _ us hl => match us, hl with | [_], _ => rfl
theorem hd_piece_of (KX : K.In h) (G : h.Ns mainGlobals mg) (c : He.SaysD faAll fnAll K) : HasDef K mg "piece_of" s_piece_of ["leg"] := hasDef_of (c.def_ 26 (d := dd "piece_of" s_piece_of []) rfl) (He.glo_ok KX G (c.fact 26 (f := .glo "piece_of") rfl)) fun _ _ _ _ _ _ us hl => match us, hl with | [_], _ => rfl
theorem hd_passed (KX : K.In h) (G : h.Ns mainGlobals mg) (c : He.SaysD faAll fnAll K) : HasDef K mg "passed" s_passed ["a", "b", "point"] := hasDef_of (c.def_ 27 (d := dd "passed" s_passed []) rfl) (He.glo_ok KX G (c.fact 27 (f := .glo "passed") rfl)) fun _ _ _ _ _ _ us hl => match us, hl with | [_, _, _], _ => rfl
theorem hd_is_between (KX : K.In h) (G : h.Ns mainGlobals mg) (c : He.SaysD faAll fnAll K) : HasDef K mg "is_between" s_is_between ["c", "chord", "point"] := hasDef_of (c.def_ 28 (d := dd "is_between" s_is_between []) rfl) (He.glo_ok KX G (c.fact 28 (f := .glo "is_between") rfl)) fun _ _ _ _ _ _ us hl => match us, hl with | [_, _, _], _ => rfl
theorem hd_counted (KX : K.In h) (G : h.Ns mainGlobals mg) (c : He.SaysD faAll fnAll K) : HasDef K mg "counted" s_counted ["leg", "point"] := hasDef_of (c.def_ 29 (d := dd "counted" s_counted []) rfl) (He.glo_ok KX G (c.fact 29 (f := .glo "counted") rfl)) fun _ _ _ _ _ _ us hl => match us, hl with | [_, _], _ => rfl
theorem hd_winding (KX : K.In h) (G : h.Ns mainGlobals mg) (c : He.SaysD faAll fnAll K) : HasDef K mg "winding" s_winding ["strokes", "point"] := hasDef_of (c.def_ 30 (d := dd "winding" s_winding []) rfl) (He.glo_ok KX G (c.fact 30 (f := .glo "winding") rfl)) fun _ _ _ _ _ _ us hl => match us, hl with | [_, _], _ => rfl
theorem hd_marks_of (KX : K.In h) (G : h.Ns mainGlobals mg) (c : He.SaysD faAll fnAll K) : HasDef K mg "marks_of" s_marks_of ["leg", "parts"] := hasDef_of (c.def_ 31 (d := dd "marks_of" s_marks_of []) rfl) (He.glo_ok KX G (c.fact 31 (f := .glo "marks_of") rfl)) fun _ _ _ _ _ _ us hl => match us, hl with | [_, _], _ => rfl
theorem hd_cut_leg (KX : K.In h) (G : h.Ns mainGlobals mg) (c : He.SaysD faAll fnAll K) : HasDef K mg "cut_leg" s_cut_leg ["leg", "parts"] := hasDef_of (c.def_ 32 (d := dd "cut_leg" s_cut_leg []) rfl) (He.glo_ok KX G (c.fact 32 (f := .glo "cut_leg") rfl)) fun _ _ _ _ _ _ us hl => match us, hl with | [_, _], _ => rfl
theorem hd_cut_strokes (KX : K.In h) (G : h.Ns mainGlobals mg) (c : He.SaysD faAll fnAll K) : HasDef K mg "cut_strokes" s_cut_strokes ["strokes", "parts"] := hasDef_of (c.def_ 33 (d := dd "cut_strokes" s_cut_strokes []) rfl) (He.glo_ok KX G (c.fact 33 (f := .glo "cut_strokes") rfl)) fun _ _ _ _ _ _ us hl => match us, hl with | [_, _], _ => rfl
theorem hd_first (KX : K.In h) (G : h.Ns mainGlobals mg) (c : He.SaysD faAll fnAll K) : HasDef K mg "first" s_first [] := hasDef_of (c.def_ 34 (d := dd "first" s_first []) rfl) (He.glo_ok KX G (c.fact 34 (f := .glo "first") rfl)) fun _ _ _ _ _ _ us hl => match us, hl with | [], _ => rfl
theorem hd_led (KX : K.In h) (G : h.Ns mainGlobals mg) (c : He.SaysD faAll fnAll K) : HasDef K mg "led" s_led ["frame", "p"] := hasDef_of (c.def_ 35 (d := dd "led" s_led []) rfl) (He.glo_ok KX G (c.fact 35 (f := .glo "led") rfl)) fun _ _ _ _ _ _ us hl => match us, hl with | [_, _], _ => rfl
theorem hd_behind (KX : K.In h) (G : h.Ns mainGlobals mg) (c : He.SaysD faAll fnAll K) : HasDef K mg "behind" s_behind ["one", "other"] := hasDef_of (c.def_ 36 (d := dd "behind" s_behind []) rfl) (He.glo_ok KX G (c.fact 36 (f := .glo "behind") rfl)) fun _ _ _ _ _ _ us hl => match us, hl with | [_, _], _ => rfl
theorem hd_straight (KX : K.In h) (G : h.Ns mainGlobals mg) (c : He.SaysD faAll fnAll K) : HasDef K mg "straight" s_straight ["p"] := hasDef_of (c.def_ 37 (d := dd "straight" s_straight []) rfl) (He.glo_ok KX G (c.fact 37 (f := .glo "straight") rfl)) fun _ _ _ _ _ _ us hl => match us, hl with | [_], _ => rfl
theorem hd_bowed (KX : K.In h) (G : h.Ns mainGlobals mg) (c : He.SaysD faAll fnAll K) : HasDef K mg "bowed" s_bowed ["number", "p", "turns"] := hasDef_of (c.def_ 38 (d := dd "bowed" s_bowed []) rfl) (He.glo_ok KX G (c.fact 38 (f := .glo "bowed") rfl)) fun _ _ _ _ _ _ us hl => match us, hl with | [_, _, _], _ => rfl
theorem hd_shaped (KX : K.In h) (G : h.Ns mainGlobals mg) (c : He.SaysD faAll fnAll K) : HasDef K mg "shaped" s_shaped ["row"] := hasDef_of (c.def_ 39 (d := dd "shaped" s_shaped []) rfl) (He.glo_ok KX G (c.fact 39 (f := .glo "shaped") rfl)) fun _ _ _ _ _ _ us hl => match us, hl with | [_], _ => rfl
theorem hd_moved_by (KX : K.In h) (G : h.Ns mainGlobals mg) (c : He.SaysD faAll fnAll K) : HasDef K mg "moved_by" s_moved_by ["row"] := hasDef_of (c.def_ 40 (d := dd "moved_by" s_moved_by []) rfl) (He.glo_ok KX G (c.fact 40 (f := .glo "moved_by") rfl)) fun _ _ _ _ _ _ us hl => match us, hl with | [_], _ => rfl
theorem hd_done_by (KX : K.In h) (G : h.Ns mainGlobals mg) (c : He.SaysD faAll fnAll K) : HasDef K mg "done_by" s_done_by ["rows"] := hasDef_of (c.def_ 41 (d := dd "done_by" s_done_by []) rfl) (He.glo_ok KX G (c.fact 41 (f := .glo "done_by") rfl)) fun _ _ _ _ _ _ us hl => match us, hl with | [_], _ => rfl
theorem hd_told_leg (KX : K.In h) (G : h.Ns mainGlobals mg) (c : He.SaysD faAll fnAll K) : HasDef K mg "told_leg" s_told_leg ["row"] := hasDef_of (c.def_ 42 (d := dd "told_leg" s_told_leg []) rfl) (He.glo_ok KX G (c.fact 42 (f := .glo "told_leg") rfl)) fun _ _ _ _ _ _ us hl => match us, hl with | [_], _ => rfl
theorem hd_led_leg (KX : K.In h) (G : h.Ns mainGlobals mg) (c : He.SaysD faAll fnAll K) : HasDef K mg "led_leg" s_led_leg ["frame", "leg"] := hasDef_of (c.def_ 43 (d := dd "led_leg" s_led_leg []) rfl) (He.glo_ok KX G (c.fact 43 (f := .glo "led_leg") rfl)) fun _ _ _ _ _ _ us hl => match us, hl with | [_, _], _ => rfl
theorem hd_legs_from (KX : K.In h) (G : h.Ns mainGlobals mg) (c : He.SaysD faAll fnAll K) : HasDef K mg "legs_from" s_legs_from ["rows", "frame"] := hasDef_of (c.def_ 44 (d := dd "legs_from" s_legs_from []) rfl) (He.glo_ok KX G (c.fact 44 (f := .glo "legs_from") rfl)) fun _ _ _ _ _ _ us hl => match us, hl with | [_, _], _ => rfl
theorem hd_begin_of (KX : K.In h) (G : h.Ns mainGlobals mg) (c : He.SaysD faAll fnAll K) : HasDef K mg "begin_of" s_begin_of ["leg"] := hasDef_of (c.def_ 45 (d := dd "begin_of" s_begin_of []) rfl) (He.glo_ok KX G (c.fact 45 (f := .glo "begin_of") rfl)) fun _ _ _ _ _ _ us hl => match us, hl with | [_], _ => rfl
theorem hd_end_of (KX : K.In h) (G : h.Ns mainGlobals mg) (c : He.SaysD faAll fnAll K) : HasDef K mg "end_of" s_end_of ["leg"] := hasDef_of (c.def_ 46 (d := dd "end_of" s_end_of []) rfl) (He.glo_ok KX G (c.fact 46 (f := .glo "end_of") rfl)) fun _ _ _ _ _ _ us hl => match us, hl with | [_], _ => rfl
theorem hd_closed (KX : K.In h) (G : h.Ns mainGlobals mg) (c : He.SaysD faAll fnAll K) : HasDef K mg "closed" s_closed ["stroke"] := hasDef_of (c.def_ 47 (d := dd "closed" s_closed []) rfl) (He.glo_ok KX G (c.fact 47 (f := .glo "closed") rfl)) fun _ _ _ _ _ _ us hl => match us, hl with | [_], _ => rfl
theorem hd_strokes (KX : K.In h) (G : h.Ns mainGlobals mg) (c : He.SaysD faAll fnAll K) : HasDef K mg "strokes" s_strokes ["program"] := hasDef_of (c.def_ 48 (d := dd "strokes" s_strokes []) rfl) (He.glo_ok KX G (c.fact 48 (f := .glo "strokes") rfl)) fun _ _ _ _ _ _ us hl => match us, hl with | [_], _ => rfl
theorem hd_law_cell_at (KX : K.In h) (G : h.Ns mainGlobals mg) (c : He.SaysD faAll fnAll K) : HasDef K mg "_law_cell_at" s_law_cell_at ["_law_script", "_law_k"] := hasDef_of (c.def_ 49 (d := dd "_law_cell_at" s_law_cell_at []) rfl) (He.glo_ok KX G (c.fact 49 (f := .glo "_law_cell_at") rfl)) fun _ _ _ _ _ _ us hl => match us, hl with | [_, _], _ => rfl
theorem hd_law_row (KX : K.In h) (G : h.Ns mainGlobals mg) (c : He.SaysD faAll fnAll K) : HasDef K mg "_law_row" s_law_row ["_law_cell", "_law_many"] := hasDef_of (c.def_ 50 (d := dd "_law_row" s_law_row []) rfl) (He.glo_ok KX G (c.fact 50 (f := .glo "_law_row") rfl)) fun _ _ _ _ _ _ us hl => match us, hl with | [_, _], _ => rfl
theorem hd_law_ratio (KX : K.In h) (G : h.Ns mainGlobals mg) (c : He.SaysD faAll fnAll K) : HasDef K mg "_law_ratio" s_law_ratio ["_law_top", "_law_bottom"] := hasDef_of (c.def_ 51 (d := dd "_law_ratio" s_law_ratio []) rfl) (He.glo_ok KX G (c.fact 51 (f := .glo "_law_ratio") rfl)) fun _ _ _ _ _ _ us hl => match us, hl with | [_, _], _ => rfl
theorem hd_law_plus (KX : K.In h) (G : h.Ns mainGlobals mg) (c : He.SaysD faAll fnAll K) : HasDef K mg "_law_plus" s_law_plus ["_law_one", "_law_other"] := hasDef_of (c.def_ 52 (d := dd "_law_plus" s_law_plus []) rfl) (He.glo_ok KX G (c.fact 52 (f := .glo "_law_plus") rfl)) fun _ _ _ _ _ _ us hl => match us, hl with | [_, _], _ => rfl
theorem hd_law_times (KX : K.In h) (G : h.Ns mainGlobals mg) (c : He.SaysD faAll fnAll K) : HasDef K mg "_law_times" s_law_times ["_law_one", "_law_other"] := hasDef_of (c.def_ 53 (d := dd "_law_times" s_law_times []) rfl) (He.glo_ok KX G (c.fact 53 (f := .glo "_law_times") rfl)) fun _ _ _ _ _ _ us hl => match us, hl with | [_, _], _ => rfl
theorem hd_law_drawn (KX : K.In h) (G : h.Ns mainGlobals mg) (c : He.SaysD faAll fnAll K) : HasDef K mg "_law_drawn" s_law_drawn ["_law_one", "_law_other"] := hasDef_of (c.def_ 54 (d := dd "_law_drawn" s_law_drawn []) rfl) (He.glo_ok KX G (c.fact 54 (f := .glo "_law_drawn") rfl)) fun _ _ _ _ _ _ us hl => match us, hl with | [_, _], _ => rfl
theorem hd_law_bow (KX : K.In h) (G : h.Ns mainGlobals mg) (c : He.SaysD faAll fnAll K) : HasDef K mg "_law_bow" s_law_bow ["_law_row_here"] := hasDef_of (c.def_ 55 (d := dd "_law_bow" s_law_bow []) rfl) (He.glo_ok KX G (c.fact 55 (f := .glo "_law_bow") rfl)) fun _ _ _ _ _ _ us hl => match us, hl with | [_], _ => rfl
theorem hd_law_plain (KX : K.In h) (G : h.Ns mainGlobals mg) (c : He.SaysD faAll fnAll K) : HasDef K mg "_law_plain" s_law_plain ["_law_row_here"] := hasDef_of (c.def_ 56 (d := dd "_law_plain" s_law_plain []) rfl) (He.glo_ok KX G (c.fact 56 (f := .glo "_law_plain") rfl)) fun _ _ _ _ _ _ us hl => match us, hl with | [_], _ => rfl
theorem hd_law_size (KX : K.In h) (G : h.Ns mainGlobals mg) (c : He.SaysD faAll fnAll K) : HasDef K mg "_law_size" s_law_size ["_law_rows"] := hasDef_of (c.def_ 57 (d := dd "_law_size" s_law_size []) rfl) (He.glo_ok KX G (c.fact 57 (f := .glo "_law_size") rfl)) fun _ _ _ _ _ _ us hl => match us, hl with | [_], _ => rfl
theorem hd_law_draws (KX : K.In h) (G : h.Ns mainGlobals mg) (c : He.SaysD faAll fnAll K) : HasDef K mg "_law_draws" s_law_draws ["_law_rows"] := hasDef_of (c.def_ 58 (d := dd "_law_draws" s_law_draws []) rfl) (He.glo_ok KX G (c.fact 58 (f := .glo "_law_draws") rfl)) fun _ _ _ _ _ _ us hl => match us, hl with | [_], _ => rfl
theorem hd_law_is_endless (KX : K.In h) (G : h.Ns mainGlobals mg) (c : He.SaysD faAll fnAll K) : HasDef K mg "_law_is_endless" s_law_is_endless ["_law_rows"] := hasDef_of (c.def_ 59 (d := dd "_law_is_endless" s_law_is_endless []) rfl) (He.glo_ok KX G (c.fact 59 (f := .glo "_law_is_endless") rfl)) fun _ _ _ _ _ _ us hl => match us, hl with | [_], _ => rfl
theorem hd_law_done (KX : K.In h) (G : h.Ns mainGlobals mg) (c : He.SaysD faAll fnAll K) : HasDef K mg "_law_done" s_law_done ["_law_rows"] := hasDef_of (c.def_ 60 (d := dd "_law_done" s_law_done []) rfl) (He.glo_ok KX G (c.fact 60 (f := .glo "_law_done") rfl)) fun _ _ _ _ _ _ us hl => match us, hl with | [_], _ => rfl
theorem hd_law_close (KX : K.In h) (G : h.Ns mainGlobals mg) (c : He.SaysD faAll fnAll K) : HasDef K mg "_law_close" s_law_close ["_law_stack"] := hasDef_of (c.def_ 61 (d := dd "_law_close" s_law_close []) rfl) (He.glo_ok KX G (c.fact 61 (f := .glo "_law_close") rfl)) fun _ _ _ _ _ _ us hl => match us, hl with | [_], _ => rfl
theorem hd_law_program (KX : K.In h) (G : h.Ns mainGlobals mg) (c : He.SaysD faAll fnAll K) : HasDef K mg "_law_program" s_law_program ["_law_cells"] := hasDef_of (c.def_ 62 (d := dd "_law_program" s_law_program []) rfl) (He.glo_ok KX G (c.fact 62 (f := .glo "_law_program") rfl)) fun _ _ _ _ _ _ us hl => match us, hl with | [_], _ => rfl
theorem hd_law_minus (KX : K.In h) (G : h.Ns mainGlobals mg) (c : He.SaysD faAll fnAll K) : HasDef K mg "_law_minus" s_law_minus ["_law_one", "_law_other"] := hasDef_of (c.def_ 63 (d := dd "_law_minus" s_law_minus []) rfl) (He.glo_ok KX G (c.fact 63 (f := .glo "_law_minus") rfl)) fun _ _ _ _ _ _ us hl => match us, hl with | [_, _], _ => rfl
theorem hd_law_less (KX : K.In h) (G : h.Ns mainGlobals mg) (c : He.SaysD faAll fnAll K) : HasDef K mg "_law_less" s_law_less ["_law_one", "_law_other"] := hasDef_of (c.def_ 64 (d := dd "_law_less" s_law_less []) rfl) (He.glo_ok KX G (c.fact 64 (f := .glo "_law_less") rfl)) fun _ _ _ _ _ _ us hl => match us, hl with | [_, _], _ => rfl
theorem hd_law_off (KX : K.In h) (G : h.Ns mainGlobals mg) (c : He.SaysD faAll fnAll K) : HasDef K mg "_law_off" s_law_off ["_law_p", "_law_q"] := hasDef_of (c.def_ 65 (d := dd "_law_off" s_law_off []) rfl) (He.glo_ok KX G (c.fact 65 (f := .glo "_law_off") rfl)) fun _ _ _ _ _ _ us hl => match us, hl with | [_, _], _ => rfl
theorem hd_law_cross (KX : K.In h) (G : h.Ns mainGlobals mg) (c : He.SaysD faAll fnAll K) : HasDef K mg "_law_cross" s_law_cross ["_law_p", "_law_q"] := hasDef_of (c.def_ 66 (d := dd "_law_cross" s_law_cross []) rfl) (He.glo_ok KX G (c.fact 66 (f := .glo "_law_cross") rfl)) fun _ _ _ _ _ _ us hl => match us, hl with | [_, _], _ => rfl
theorem hd_law_dot (KX : K.In h) (G : h.Ns mainGlobals mg) (c : He.SaysD faAll fnAll K) : HasDef K mg "_law_dot" s_law_dot ["_law_p", "_law_q"] := hasDef_of (c.def_ 67 (d := dd "_law_dot" s_law_dot []) rfl) (He.glo_ok KX G (c.fact 67 (f := .glo "_law_dot") rfl)) fun _ _ _ _ _ _ us hl => match us, hl with | [_, _], _ => rfl
theorem hd_law_side (KX : K.In h) (G : h.Ns mainGlobals mg) (c : He.SaysD faAll fnAll K) : HasDef K mg "_law_side" s_law_side ["_law_a", "_law_b", "_law_p"] := hasDef_of (c.def_ 68 (d := dd "_law_side" s_law_side []) rfl) (He.glo_ok KX G (c.fact 68 (f := .glo "_law_side") rfl)) fun _ _ _ _ _ _ us hl => match us, hl with | [_, _, _], _ => rfl
theorem hd_law_ends (KX : K.In h) (G : h.Ns mainGlobals mg) (c : He.SaysD faAll fnAll K) : HasDef K mg "_law_ends" s_law_ends ["_law_leg"] := hasDef_of (c.def_ 69 (d := dd "_law_ends" s_law_ends []) rfl) (He.glo_ok KX G (c.fact 69 (f := .glo "_law_ends") rfl)) fun _ _ _ _ _ _ us hl => match us, hl with | [_], _ => rfl
theorem hd_law_some (KX : K.In h) (G : h.Ns mainGlobals mg) (c : He.SaysD faAll fnAll K) : HasDef K mg "_law_some" s_law_some ["_law_cells", "_law_most"] := hasDef_of (c.def_ 70 (d := dd "_law_some" s_law_some []) rfl) (He.glo_ok KX G (c.fact 70 (f := .glo "_law_some") rfl)) fun _ _ _ _ _ _ us hl => match us, hl with | [_, _], _ => rfl
theorem hd_law_amid (KX : K.In h) (G : h.Ns mainGlobals mg) (c : He.SaysD faAll fnAll K) : HasDef K mg "_law_amid" s_law_amid ["_law_p", "_law_q"] := hasDef_of (c.def_ 71 (d := dd "_law_amid" s_law_amid []) rfl) (He.glo_ok KX G (c.fact 71 (f := .glo "_law_amid") rfl)) fun _ _ _ _ _ _ us hl => match us, hl with | [_, _], _ => rfl
theorem hd_law_points (KX : K.In h) (G : h.Ns mainGlobals mg) (c : He.SaysD faAll fnAll K) : HasDef K mg "_law_points" s_law_points ["_law_row_here", "_law_some_here"] := hasDef_of (c.def_ 72 (d := dd "_law_points" s_law_points []) rfl) (He.glo_ok KX G (c.fact 72 (f := .glo "_law_points") rfl)) fun _ _ _ _ _ _ us hl => match us, hl with | [_, _], _ => rfl
theorem hd_law_is_between (KX : K.In h) (G : h.Ns mainGlobals mg) (c : He.SaysD faAll fnAll K) : HasDef K mg "_law_is_between" s_law_is_between ["_law_c", "_law_a", "_law_b", "_law_p"] := hasDef_of (c.def_ 73 (d := dd "_law_is_between" s_law_is_between []) rfl) (He.glo_ok KX G (c.fact 73 (f := .glo "_law_is_between") rfl)) fun _ _ _ _ _ _ us hl => match us, hl with | [_, _, _, _], _ => rfl
theorem hd_law_is_below (KX : K.In h) (G : h.Ns mainGlobals mg) (c : He.SaysD faAll fnAll K) : HasDef K mg "_law_is_below" s_law_is_below ["_law_c", "_law_a", "_law_b", "_law_p"] := hasDef_of (c.def_ 74 (d := dd "_law_is_below" s_law_is_below []) rfl) (He.glo_ok KX G (c.fact 74 (f := .glo "_law_is_below") rfl)) fun _ _ _ _ _ _ us hl => match us, hl with | [_, _, _, _], _ => rfl
theorem hd_law_out (KX : K.In h) (G : h.Ns mainGlobals mg) (c : He.SaysD faAll fnAll K) : HasDef K mg "_law_out" s_law_out ["_law_c", "_law_p", "_law_many"] := hasDef_of (c.def_ 75 (d := dd "_law_out" s_law_out []) rfl) (He.glo_ok KX G (c.fact 75 (f := .glo "_law_out") rfl)) fun _ _ _ _ _ _ us hl => match us, hl with | [_, _, _], _ => rfl
theorem hd_law_bent (KX : K.In h) (G : h.Ns mainGlobals mg) (c : He.SaysD faAll fnAll K) : HasDef K mg "_law_bent" s_law_bent ["_law_some_here", "_law_cut_ones"] := hasDef_of (c.def_ 76 (d := dd "_law_bent" s_law_bent []) rfl) (He.glo_ok KX G (c.fact 76 (f := .glo "_law_bent") rfl)) fun _ _ _ _ _ _ us hl => match us, hl with | [_, _], _ => rfl
theorem hd_law (KX : K.In h) (G : h.Ns mainGlobals mg) (c : He.SaysD faAll fnAll K) : HasDef K mg "law" s_law ["_law_script"] := hasDef_of (c.def_ 77 (d := dd "law" s_law []) rfl) (He.glo_ok KX G (c.fact 77 (f := .glo "law") rfl)) fun _ _ _ _ _ _ us hl => match us, hl with | [_], _ => rfl
theorem hd_stood (KX : K.In h) (G : h.Ns mainGlobals mg) (c : He.SaysD faAll fnAll K) : ∃ f fd, C8.Def K mg "stood" s_stood f fd ∧ Binds K fd ["place", "turns"] [] ∧ ∃ t, Binds K fd ["place", "turns"] [.int 0 t] := stood_of (c.def_ 78 (d := dd "stood" s_stood [.int 0]) rfl) (He.glo_ok KX G (c.fact 78 (f := .glo "stood") rfl))
theorem tx_of (KX : K.In h) (G : h.Ns mainGlobals mg) (c : SaysM w K) (seer : base.NoSeer) : Tx Rw.prog w K mg base where
  seer := seer
  tree := rfl
  m_abs := He.free_ok KX G (c.t.d.fact 79 (f := .free "abs") rfl)
  m_range := He.free_ok KX G (c.t.d.fact 80 (f := .free "range") rfl)
  m_int := He.free_ok KX G (c.t.d.fact 81 (f := .free "int") rfl)
  m_len := He.free_ok KX G (c.t.d.fact 82 (f := .free "len") rfl)
  m_zip := He.free_ok KX G (c.t.d.fact 83 (f := .free "zip") rfl)
  m_tuple := He.free_ok KX G (c.t.d.fact 84 (f := .free "tuple") rfl)
  m_list := He.free_ok KX G (c.t.d.fact 85 (f := .free "list") rfl)
  m_reversed := He.free_ok KX G (c.t.d.fact 86 (f := .free "reversed") rfl)
  m_min := He.free_ok KX G (c.t.d.fact 87 (f := .free "min") rfl)
  d_divisor := hd_divisor KX G c.t.d
  d_ratio := hd_ratio KX G c.t.d
  d_plus := hd_plus KX G c.t.d
  d_minus := hd_minus KX G c.t.d
  d_times := hd_times KX G c.t.d
  d_over := hd_over KX G c.t.d
  d_below := hd_below KX G c.t.d
  d_together := hd_together KX G c.t.d
  d_off := hd_off KX G c.t.d
  d_grown := hd_grown KX G c.t.d
  d_turned := hd_turned KX G c.t.d
  d_along := hd_along KX G c.t.d
  d_across := hd_across KX G c.t.d
  d_far := hd_far KX G c.t.d
  d_sign_of := hd_sign_of KX G c.t.d
  d_side := hd_side KX G c.t.d
  d_before := hd_before KX G c.t.d
  d_stretch := hd_stretch KX G c.t.d
  d_lies_on := hd_lies_on KX G c.t.d
  d_arc := hd_arc KX G c.t.d
  d_quarter_of := hd_quarter_of KX G c.t.d
  d_ahead := hd_ahead KX G c.t.d
  d_on := hd_on KX G c.t.d
  d_at_share := hd_at_share KX G c.t.d
  d_share_of := hd_share_of KX G c.t.d
  d_quarters := hd_quarters KX G c.t.d
  d_piece_of := hd_piece_of KX G c.t.d
  d_passed := hd_passed KX G c.t.d
  d_is_between := hd_is_between KX G c.t.d
  d_counted := hd_counted KX G c.t.d
  d_winding := hd_winding KX G c.t.d
  d_marks_of := hd_marks_of KX G c.t.d
  d_cut_leg := hd_cut_leg KX G c.t.d
  d_cut_strokes := hd_cut_strokes KX G c.t.d
  d_first := hd_first KX G c.t.d
  d_led := hd_led KX G c.t.d
  d_behind := hd_behind KX G c.t.d
  d_straight := hd_straight KX G c.t.d
  d_bowed := hd_bowed KX G c.t.d
  d_shaped := hd_shaped KX G c.t.d
  d_moved_by := hd_moved_by KX G c.t.d
  d_done_by := hd_done_by KX G c.t.d
  d_told_leg := hd_told_leg KX G c.t.d
  d_led_leg := hd_led_leg KX G c.t.d
  d_legs_from := hd_legs_from KX G c.t.d
  d_begin_of := hd_begin_of KX G c.t.d
  d_end_of := hd_end_of KX G c.t.d
  d_closed := hd_closed KX G c.t.d
  d_strokes := hd_strokes KX G c.t.d
  d_law_cell_at := hd_law_cell_at KX G c.t.d
  d_law_row := hd_law_row KX G c.t.d
  d_law_ratio := hd_law_ratio KX G c.t.d
  d_law_plus := hd_law_plus KX G c.t.d
  d_law_times := hd_law_times KX G c.t.d
  d_law_drawn := hd_law_drawn KX G c.t.d
  d_law_bow := hd_law_bow KX G c.t.d
  d_law_plain := hd_law_plain KX G c.t.d
  d_law_size := hd_law_size KX G c.t.d
  d_law_draws := hd_law_draws KX G c.t.d
  d_law_is_endless := hd_law_is_endless KX G c.t.d
  d_law_done := hd_law_done KX G c.t.d
  d_law_close := hd_law_close KX G c.t.d
  d_law_program := hd_law_program KX G c.t.d
  d_law_minus := hd_law_minus KX G c.t.d
  d_law_less := hd_law_less KX G c.t.d
  d_law_off := hd_law_off KX G c.t.d
  d_law_cross := hd_law_cross KX G c.t.d
  d_law_dot := hd_law_dot KX G c.t.d
  d_law_side := hd_law_side KX G c.t.d
  d_law_ends := hd_law_ends KX G c.t.d
  d_law_some := hd_law_some KX G c.t.d
  d_law_amid := hd_law_amid KX G c.t.d
  d_law_points := hd_law_points KX G c.t.d
  d_law_is_between := hd_law_is_between KX G c.t.d
  d_law_is_below := hd_law_is_below KX G c.t.d
  d_law_out := hd_law_out KX G c.t.d
  d_law_bent := hd_law_bent KX G c.t.d
  d_law := hd_law KX G c.t.d
  d_stood := hd_stood KX G c.t.d
  c_nought := ⟨_, .ref (noughtA K), He.glo_ok KX G (c.t.d.fact 89 (f := .glo "NOUGHT") rfl), rfl, nought_rp c.more⟩
  c_most := He.int_ok KX G (c.t.d.fact 88 (f := .int "MOST_DONE" 300) rfl)
  c_turns := ⟨_, He.glo_ok KX G (c.t.d.fact 90 (f := .glo "TURNS") rfl), turns_kd (d := .int 1) c (by simp [tabT]), turns_kd (d := .int 2) c (by simp [tabT]), turns_kd (d := .int 3) c (by simp [tabT])⟩
theorem seer_at (hs : h.NoSeer) (KX : K.In h) (KB : K.In base) (c : SaysM w K) : base.NoSeer := seer_of hs KX KB c.more (c.t.d.fact 91 (f := .glo "__builtins__") rfl)
theorem law_fd (c : SaysM w K) : ∃ fd, FunD K "law" "law" (C8.fnArgs s_law) (C8.fnBody s_law) (C8.fnScope s_law) [] [] (He.ga K "law") fd := c.t.d.def_ 77 (d := dd "law" s_law []) rfl
theorem law_at (KX : K.In h) (G : h.Ns mainGlobals mg) (c : SaysM w K) : mg "law" = some (.ref (He.ga K "law")) := He.glo_ok KX G (c.t.d.fact 77 (f := .glo "law") rfl)
theorem law_fn (F : ∃ fd, FunD K "law" "law" (C8.fnArgs s_law) (C8.fnBody s_law) (C8.fnScope s_law) [] [] (He.ga K "law") fd) : ∃ fd : FuncData, (∀ (s : Shared) (u : Value), BindsTo s fd ⟨[u], []⟩ [("_law_script", u)]) ∧
    ∀ base : Heap, Tx Rw.prog w K mg base → FnOk Rw.prog w K mg base C8.CX0 48 (He.ga K "law") fd ["_law_script"] (spI 1 (P_law K) (fun _ _ v _ => v = .bl true)) := by
  obtain ⟨fd, F⟩ := F
  have b := F.bindsA (ps := ["_law_script"]) fun _ _ _ _ _ _ us hl => match us, hl with | [_], _ => rfl
  obtain ⟨oc, od, dV, kV, doc, pm, an, cdv, ct, osl, g1, g2, g3, -, -⟩ := F.ex
  exact ⟨fd, fun s u => b s [u] rfl, fun base T => C8.fn0 ⟨oc, od, dV, kV, doc, pm, an, cdv, ct, osl, g1, g2, g3⟩ sc_law (fun vs H Q E h => h.1) fun cdv A outer s H vs Q E hr h => ⟨_, pss_u, law_body T _ cdv A outer s H vs Q E hr h⟩⟩
end
end Ar
set_option maxHeartbeats 4000000
/-! The end. -/
namespace Ar
open PySem L2
theorem only_ints {K : PySem.W.Frag} {H : Hp} : ∀ ns : List Int, RpL K H (ns.map V.int) (ns.map PyData.int)
  | [] => .nil
  | n :: ns => .cons (.int n) (only_ints ns)
theorem the_call {q : Program} {loose : List Str} {d : DefRec} (hdf : d.params.defaults = []) (hname : d.name = ("law" : Str)) (himp : PyProof.Rows.importsNone q = true) :
    PySem.W.WalkO q loose (PySem.W.XL q []) hkM.says Rw.toRowW d [] (fun f vs => PySem.call f vs) := by
  refine Att.attach_call (l := PySem.Challenge.rw_arcmill_k76_whole_cut_strokes_wind_alike) (n := 63) rfl hdf ?_
  intro w t0 t1 mg mb f0 ob pm cd dc ad vals xs Gd Yd g1 g2 g3 g4 g5 g6 g7 g8
  have seer := Gd.T.seer himp
  obtain ⟨K, KX, c⟩ := Yd
  rw [hname] at g4
  have ea := g4.symm.trans (law_at KX Gd.T.g c)
  obtain rfl := Value.ref.inj (Option.some.inj ea)
  obtain ⟨fd, hb, hF⟩ := law_fn (w := w) (mg := mg) (law_fd c)
  have hz : xs.length ≤ sizeLine := Nat.le_trans g7 (by decide)
  refine law_call (k := 48) (CX := C8.CX0) KX Gd.T.g Gd.T.b Gd.T.builtins Gd.T.nolimit g8 g5 g6 hz ⟨rfl, by decide, by decide⟩ (fun base h1 h2 => hF base (tx_of KX Gd.T.g c (seer_at seer KX h1 c))) hb (fun H hO hS => ?_) fun H e s' z => z
  exact ⟨rfl, xs, ⟨_, rfl, ⟨ad, _, rfl, hS, only_ints xs⟩, g7⟩, fun v H' _ hv => hv⟩
end Ar
open PySem PySem.W PySem.Calls PyProof.Rows
set_option maxHeartbeats 0 in
theorem PySem.Challenge.cw_arcmill_k76_whole_cut_strokes_wind_alike_holds : PySem.Challenge.rw_arcmill_k76_whole_cut_strokes_wind_alike.Holds := by
  w_on; o_law
  refine HandSHeadRun.head_any (r := OpenLaw.row PySem.Challenge.rw_arcmill_k76_whole_cut_strokes_wind_alike) (q := view (OpenLaw.row PySem.Challenge.rw_arcmill_k76_whole_cut_strokes_wind_alike).prog [99]) (H := Ar.hkM) (ob := Ar.obT) (M := 9000) (loose := Ar.nmAll) (d := HandSHeadRun.topDef (OpenLaw.row PySem.Challenge.rw_arcmill_k76_whole_cut_strokes_wind_alike).prog 99) (kwd := []) Ar.obT_eq
    (by kernel_rfl) (fun s => by kernel_rfl) Ar.topRun (by kernel_rfl) (by kernel_rfl) (by kernel_rfl) (by rfl) (by first | assumption | decide +kernel) (by decide +kernel) ⟨rfl, rfl, rfl, rfl, rfl, by decide +kernel⟩ ?hw ?hc
  case hw => w_witness2
  case hc => exact Ar.the_call (by kernel_rfl) (by kernel_rfl) (by kernel_rfl)
