import PyProof.Rows.All
import Wide.All
import OpenK.AllK
import Wide.FinOn
import HandS.ForMost
import HandS.Codes
import HandS.Style
import HandS.TupAny
import HandS.DictComp
import HandS.IsInst
import HandS.Strs
import HandS.Wide
import HandS.More
import HandS.Conv
import HandS.OwnEq
import HandS.Zip
import HandS.Defaults
import HandS.Walk
import PySem.Challenge.RW_nowatcher_k33_whole_lines
import HandS.HeadHook4
import HandS.Head2
import HandS.HeadEnd
import KE.KStateDown
import HandS.WideBits
import HandS.New
import HandS.SlotsOwn
import KE.GoesMore
set_option Elab.async false
set_option linter.all false
set_option maxRecDepth 100000
set_option maxHeartbeats 0
/-! ## The ground: the text by places, heaps, steps -/
namespace NW
open PySem PySem.Spec PyProof.Rows L2
def topS (i : Nat) : Stmt := PySem.Challenge.pw_nowatcher_k33_whole_lines.main.body.getD i (.Pass ⟨0, 0, 0, 0⟩)
/-- the addresses of the classes -/
structure Ad where
  Ran : Addr
  Runner : Addr
  Tells : Addr
  Still : Addr
  Laid : Addr
/-- what the names of the module stand for -/
structure Tx (mg : Str → Option Value) : Prop where
  isinstance_ : mg "isinstance" = none
  len_ : mg "len" = none
  all_ : mg "all" = none
  range_ : mg "range" = none
  tuple_ : mg "tuple" = none
  list_ : mg "list" = none
  sum_ : mg "sum" = none
  min_ : mg "min" = none
  max_ : mg "max" = none
  zip_ : mg "zip" = none
  enumerate_ : mg "enumerate" = none
  sorted_ : mg "sorted" = none
  repr_ : mg "repr" = none
  int_ : mg "int" = none
  str_ : mg "str" = none
  bool_ : mg "bool" = none
  dict_ : mg "dict" = none
  g_LETTERS : ∃ u, mg "LETTERS" = some u ∧ RelV (.str "abcdefghijklmnopqrstuvwxyz") u
  g_LONGEST : ∃ u, mg "LONGEST" = some u ∧ RelV (.int 8) u
  g_WORTHS : ∃ u, mg "WORTHS" = some u ∧ RelV (.int 256) u
  g_MOST_HANDED : ∃ u, mg "MOST_HANDED" = some u ∧ RelV (.int 6) u
  g_MOST_LISTS_programs : ∃ u, mg "MOST_LISTS_programs" = some u ∧ RelV (.int 4) u
  g_MOST_CELLS : ∃ u, mg "MOST_CELLS" = some u ∧ RelV (.int 32) u
  g_MOST_EMPTY : ∃ u, mg "MOST_EMPTY" = some u ∧ RelV (.int 15) u
  g_MOST_TOLD : ∃ u, mg "MOST_TOLD" = some u ∧ RelV (.int 6) u
  g_MOST_ROWS : ∃ u, mg "MOST_ROWS" = some u ∧ RelV (.int 400) u
  g_MOST_DEEP : ∃ u, mg "MOST_DEEP" = some u ∧ RelV (.int 5) u
  g_MOST_ROUNDS : ∃ u, mg "MOST_ROUNDS" = some u ∧ RelV (.int 20) u
  g_MOST_OPEN : ∃ u, mg "MOST_OPEN" = some u ∧ RelV (.int 64) u
  g_MOST_HIDDEN : ∃ u, mg "MOST_HIDDEN" = some u ∧ RelV (.int 256) u
  g_LINE : ∃ u, mg "LINE" = some u ∧ RelV (.int 4) u
  g_MOST_LINES : ∃ u, mg "MOST_LINES" = some u ∧ RelV (.int 8) u
  g_MOST_GAP : ∃ u, mg "MOST_GAP" = some u ∧ RelV (.int 15) u
  g_MOST_TRIED : ∃ u, mg "MOST_TRIED" = some u ∧ RelV (.int 3) u
  g_MOST_LISTS_lines : ∃ u, mg "MOST_LISTS_lines" = some u ∧ RelV (.int 3) u
/-- a def of the top -/
structure DefAt (K : PySem.W.Frag) (mg : Str → Option Value) (x : Str) (st : Stmt) : Prop where
  ex : ∃ f fd, FunD K x x (defArgs st) (defBody st) (defScope st) [] [] f fd ∧ mg x = some (.ref f)
section
variable {P : Program} {w : World} {K : PySem.W.Frag} {mg : Str → Option Value} {base : Heap}
abbrev BindW (x : Str) (st : Stmt) (ps : List Str) : Prop := ∀ (kV doc pm : Value) (an : Option Addr) (cdv ct : Value) (us : List Value), us.length = ps.length → bindArgs (PySem.W.fnOf x x (defArgs st) (defBody st) (defScope st) .none kV doc pm an cdv ct) ⟨us, []⟩ = pure (ps.zip us)
theorem DefAt.cal {x : Str} {st : Stmt} {N ps : List Str} {k : Nat} {sp : Sp} (D : DefAt K mg x st) (S : FnScope N ps (defScope st)) (hb : BindW x st ps) (len : ∀ vs H Q E, sp vs H Q E → vs.length = ps.length)
    (body : ∀ (f : Addr) (cdv : Value) (A : Around) (outer : List Env) (s : Shared) (H : Hp) (vs : List V) (Q : VK) (E : XK), Room k (A.deeper (envOfC x (defScope st) s.heap.objs.size f cdv)) → sp vs H Q E →
      ∃ t, PSs (cxOf C8.CX0 P w K mg base N x (defScope st) f cdv A outer s H E).nox (defBody st) t ∧ t { nx := fun _ H' => Q .non H', rt := Q } (start N vs) H) : C8.Cal P w K mg base (k + 1) x sp [] := by
  obtain ⟨f, fd, F, hm⟩ := D.ex
  refine ⟨f, fd, ps, [], F.ok S len fun cdv A outer s H vs Q E hr h => ?_, hm, F.kp, F.bindsN hb, .nil⟩
  obtain ⟨t, ht, q⟩ := body f cdv A outer s H vs Q E hr h
  exact ⟨t, ht.nox, q⟩
theorem DefAt.void {x : Str} {st : Stmt} {ps : List Str} {k : Nat} {sp : Sp} (D : DefAt K mg x st) (hb : BindW x st ps) (no : ∀ vs H Q E, ¬ sp vs H Q E) : C8.Cal P w K mg base k x sp [] := by
  obtain ⟨f, fd, F, hm⟩ := D.ex
  exact ⟨f, fd, ps, [], ⟨fun vs H Q E h => absurd h (no vs H Q E), fun A outer s H args us vs Q E _ _ _ _ h => absurd h (no vs H Q E)⟩, hm, F.kp, F.bindsN hb, .nil⟩
theorem Cal.imp {k : Nat} {x : Str} {sp sp' : Sp} {dvs : List V} (c : C8.Cal P w K mg base k x sp dvs) (h : ∀ vs H Q E, sp' vs H Q E → sp vs H Q E) : C8.Cal P w K mg base k x sp' dvs := by
  obtain ⟨f, fd, ps, ds, F, a, b, c, d⟩ := c.ex
  exact ⟨f, fd, ps, ds, F.imp h, a, b, c, d⟩
theorem Cal.mono {k j : Nat} {x : Str} {sp : Sp} {dvs : List V} (c : C8.Cal P w K mg base k x sp dvs) (h : k ≤ j) : C8.Cal P w K mg base j x sp dvs := by
  obtain ⟨f, fd, ps, ds, F, a, b, c, d⟩ := c.ex
  exact ⟨f, fd, ps, ds, F.mono h, a, b, c, d⟩
end
/-! ### heaps -/
theorem same_nw {H H' : Hp} {p : Addr} {o : HO} (s : Same H H') (n : H' p = none) : Same H (upd H' p o) := fun b u q => by
  have z := s b u q
  rw [upd_ne (ne_of_none z n)]
  exact z
theorem same_get {H H' : Hp} {a : Addr} {o : HO} (s : Same H H') (h : H a = some o) : H' a = some o := s a o h
theorem upd_get {H : Hp} {p a : Addr} {o u : HO} (n : H p = none) (h : H a = some u) : upd H p o a = some u := by
  rw [upd_ne (ne_of_none h n)]
  exact h
theorem upd_mut {H : Hp} {p a : Addr} {o u : HO} (n : a ≠ p) (h : H a = some u) : upd H p o a = some u := by
  rw [upd_ne n]
  exact h
theorem same_mut {H H' : Hp} {p : Addr} {o : HO} (s : Same H H') (n : H p = none) : Same H (upd H' p o) := fun b u q => by
  have z := s b u q
  rw [upd_ne (ne_of_none q n)]
  exact z
theorem sm_sz {n : Nat} (h : n ≤ 100000) : n ≤ sizeLine := Nat.le_trans h (by decide)
theorem sm_lt {n : Nat} (h : n < 100000) : n < sizeLine := Nat.lt_of_lt_of_le h (by decide)
theorem iteB {b : Bool} {A B : Prop} (e : b = true) (h : A) : if b = true then A else B := by
  subst e
  exact iteT h
theorem iteN {b : Bool} {A B : Prop} (e : b = false) (h : B) : if b = true then A else B := by
  subst e
  exact iteF h
end NW
/-! ## Rules of our own -/
namespace NW
open PySem PySem.Spec PyProof.Rows L2
/-- tuples stay -/
def TS (H H' : Hp) : Prop := ∀ a xs, H a = some (.tup xs) → H' a = some (.tup xs)
theorem TS.refl (H : Hp) : TS H H := fun _ _ h => h
theorem TS.trans {H H1 H2 : Hp} (a : TS H H1) (b : TS H1 H2) : TS H H2 := fun x o h => b x o (a x o h)
theorem same_ts {H H' : Hp} (s : Same H H') : TS H H' := fun a xs h => s a _ h
theorem ts_nw {H H' : Hp} {p : Addr} {o : HO} (s : TS H H') (n : H' p = none) : TS H (upd H' p o) := fun b u q => by
  have z := s b u q
  rw [upd_ne (ne_of_none z n)]
  exact z
theorem ts_mut {H H' : Hp} {p : Addr} {o u : HO} (s : TS H H') (n : H' p = some u) (h : ∀ ys, u ≠ .tup ys) : TS H (upd H' p o) := fun b xs q => by
  have z := s b xs q
  have ne : b ≠ p := fun e => by
    subst e
    rw [z] at n
    exact h xs (Option.some.inj n).symm
  rw [upd_ne ne]
  exact z
/-! ### isinstance -/
inductive Tk where
  | int | bool | str | tuple | list | non
  deriving DecidableEq
def Tk.nm : Tk → String
  | .int => "int" | .bool => "bool" | .str => "str" | .tuple => "tuple" | .list => "list" | .non => "NoneType"
inductive TyN (H : Hp) : V → Tk → Prop
  | int (i : Int) : TyN H (.int i) .int
  | str (x : Str) : TyN H (.str x) .str
  | non : TyN H .non .non
  | tup {a : Addr} {xs : List V} (e : H a = some (.tup xs)) : TyN H (.ref a) .tuple
  | lst {a : Addr} {xs : List V} (e : H a = some (.lst xs)) : TyN H (.ref a) .list
theorem TyN.of {K : PySem.W.Frag} {H : Hp} {x : V} {t : Tk} (h : TyN H x t) : TyOf K H x (.type t.nm) := by
  cases h with
  | int i => exact .int i
  | str x => exact .str x
  | non => exact .non
  | tup e => exact .tup e
  | lst e => exact .lst e
theorem paired_app {α β : Type} {F : α → β → Prop} : ∀ {a c : List α} {b d : List β}, Paired F a b → Paired F c d → Paired F (a ++ c) (b ++ d)
  | _, _, _, _, .nil, q => q
  | _, _, _, _, .cons r t, q => .cons r (paired_app t q)
theorem kit_nm {a k : Tk} (h : a ≠ .bool) (h' : k ≠ .non) : kitB a.nm k.nm = some (decide (a = k)) := by
  cases a <;> cases k <;> first | exact absurd rfl h | exact absurd rfl h' | decide +kernel
def rIsK (k : Tk) : List V → Hp → VK → Prop := fun xs H Q => ∃ x a, xs = [x, .ty k.nm] ∧ TyN H x a ∧ Q (.bl (decide (a = k))) H
section
variable {X : Cx}
theorem call_isK (k : Tk) (hk : k ≠ .non := by decide) : CallR X (.builtin "isinstance") (rIsK k) := by
  intro pins s σ H xs us Q I r h
  obtain ⟨x, a, rfl, t, q⟩ := h
  have na : a ≠ .bool := by intro e; subst e; cases t
  exact call_isi pins s σ H _ us Q I r ⟨x, .ty k.nm, .type a.nm, .type k.nm, _, rfl, .ty _, .base t.of, kit_ty (kit_nm na hk), q⟩
end
/-! ### comprehensions whose elements only make things -/
section
variable {J : It} {n : Nat} {G : Hp → Prop} {Y : Nat → Hp → V → Hp → Prop}
abbrev LcW (J : It) (g : TG) (tt : TT) (te : TE) (vs : List Nat) (σ : L2.St) (H1 : Hp) (D : Addr) (Qd : Hp → Prop) : Prop := ∃ W : Nat → Nat → Hp → Prop, (∃ m, W 0 m (upd H1 D (.lst []))) ∧ ∀ i m H, W i m H →
  (J.stop i H ∧ Qd H) ∨ (J.go i H ∧ ∃ Nx : Hp → Prop, (∀ H', Nx H' → ∃ m', m' < m ∧ W (i + 1) m' H') ∧ ∀ x H', J.yld i H x H' → g x (wipe σ vs) H' fun σ2 H2 => wipe σ2 vs = wipe σ vs ∧ tt σ2 H2 fun b H3 =>
    if b = true then te σ2 H3 fun y H4 => ∃ acc, H4 D = some (.lst acc) ∧ acc.length < sizeLine ∧ Nx (upd H4 D (.lst (acc ++ [y]))) else Nx H3)
theorem lc_inv (w : Walk J n G Y) {g : TG} {tt : TT} {te : TE} {vs : List Nat} {σ : L2.St} {H1 : Hp} {D : Addr} {Qd : Hp → Prop} (hD : H1 D = none) (hn : n ≤ 100000) (R : Nat → List V → Hp → Prop)
    (hR : ∀ i acc H H', TS H H' → R i acc H → R i acc H') (h0 : R 0 [] H1) (hG : ∀ H, Same H1 H → G H)
    (hs : ∀ i x H H' acc (Kf : V → Hp → Prop) (Kn : Hp → Prop), (∀ y H4, Same H H4 → R (i + 1) (acc ++ [y]) H4 → Kf y H4) → (∀ H3, Same H H3 → R (i + 1) acc H3 → Kn H3) → i < n → Same H1 H → R i acc H → Y i H x H' →
      g x (wipe σ vs) H' fun σ2 H2 => wipe σ2 vs = wipe σ vs ∧ tt σ2 H2 fun b H3 => if b = true then te σ2 H3 Kf else Kn H3)
    (hd : ∀ H acc, Same H1 H → H D = some (.lst acc) → acc.length ≤ n → R n acc H → Qd H) : LcW J g tt te vs σ H1 D Qd := by
  have e0 : Same H1 (upd H1 D (.lst [])) := same_nw (Same.refl _) hD
  refine lc_it w (fun i H => Same H1 H ∧ ∃ acc, H D = some (.lst acc) ∧ acc.length ≤ i ∧ R i acc H) ⟨e0, [], upd_same, Nat.le_refl _, hR _ _ _ _ (same_ts e0) h0⟩ (fun i H _ p => hG H p.1) ?_ ?_
  · rintro i x H H' hi ⟨s, acc, hacc, hl, r⟩ y
    have ts1 : ∀ (H4 : Hp) (v : V), H4 D = some (.lst acc) → TS H4 (upd H4 D (.lst (acc ++ [v]))) := fun H4 v e => ts_mut (TS.refl _) e (fun _ z => nomatch z)
    refine hs i x H H' acc _ _ (fun v H4 s4 r4 => ?_) (fun H3 s3 r3 => ?_) hi s r y
    · have e4 := s4 _ _ hacc
      refine ⟨acc, e4, sm_lt (by omega), fun b u q => ?_, acc ++ [v], upd_same, by rw [List.length_append, List.length_singleton]; omega, hR _ _ _ _ (ts1 H4 v e4) r4⟩
      rw [upd_ne (ne_of_none q hD)]
      exact s4 _ _ (s _ _ q)
    · exact ⟨s.trans s3, acc, s3 _ _ hacc, by omega, r3⟩
  · rintro H ⟨s, acc, hacc, hl, r⟩
    exact hd H acc s hacc hl r
/-- .. without a test -/
theorem lc_each (w : Walk J n G Y) {g : TG} {te : TE} {vs : List Nat} {σ : L2.St} {H1 : Hp} {D : Addr} {Qd : Hp → Prop} (hD : H1 D = none) (hn : n ≤ 100000) (R : Nat → List V → Hp → Prop)
    (hR : ∀ i acc H H', TS H H' → R i acc H → R i acc H') (h0 : R 0 [] H1) (hG : ∀ H, Same H1 H → G H)
    (hs : ∀ i x H H' acc (Kf : V → Hp → Prop), (∀ y H4, Same H H4 → R (i + 1) (acc ++ [y]) H4 → Kf y H4) → i < n → Same H1 H → R i acc H → Y i H x H' →
      g x (wipe σ vs) H' fun σ2 H2 => wipe σ2 vs = wipe σ vs ∧ te σ2 H2 Kf)
    (hd : ∀ H acc, Same H1 H → H D = some (.lst acc) → acc.length ≤ n → R n acc H → Qd H) : LcW J g tYes te vs σ H1 D Qd :=
  lc_inv w hD hn R hR h0 hG (fun i x H H' acc Kf _ k _ hi s r y => hs i x H H' acc Kf k hi s r y) hd
/-- .. each element is True -/
theorem lc_true (w : Walk J n G Y) {g : TG} {te : TE} {vs : List Nat} {σ : L2.St} {H1 : Hp} {D : Addr} {Qd : Hp → Prop} (hD : H1 D = none) (hn : n ≤ 100000) (hG : ∀ H, Same H1 H → G H)
    (hs : ∀ i x H H' (Kf : V → Hp → Prop), (∀ H4, Same H H4 → Kf (.bl true) H4) → i < n → Same H1 H → Y i H x H' →
      g x (wipe σ vs) H' fun σ2 H2 => wipe σ2 vs = wipe σ vs ∧ te σ2 H2 Kf)
    (hd : ∀ H, Same H1 H → H D = some (.lst ((List.replicate n true).map V.bl)) → Qd H) : LcW J g tYes te vs σ H1 D Qd := by
  refine lc_each w hD hn (fun i acc _ => acc = (List.replicate i true).map V.bl) (fun _ _ _ _ _ h => h) rfl hG (fun i x H H' acc Kf k hi s r y => hs i x H H' Kf (fun H4 s4 => k _ H4 s4 ?_) hi s y) (fun H acc s h _ r => hd H s (r ▸ h))
  rw [r, List.replicate_succ', List.map_append]
  rfl
/-- .. the elements are told, one by one -/
theorem lc_vals (w : Walk J n G Y) {g : TG} {te : TE} {vs : List Nat} {σ : L2.St} {H1 : Hp} {D : Addr} {Qd : Hp → Prop} (f : Nat → V) (hD : H1 D = none) (hn : n ≤ 100000) (hG : ∀ H, Same H1 H → G H)
    (hs : ∀ i x H H' (Kf : V → Hp → Prop), (∀ H4, Same H H4 → Kf (f i) H4) → i < n → Same H1 H → Y i H x H' →
      g x (wipe σ vs) H' fun σ2 H2 => wipe σ2 vs = wipe σ vs ∧ te σ2 H2 Kf)
    (hd : ∀ H, Same H1 H → H D = some (.lst ((List.range n).map f)) → Qd H) : LcW J g tYes te vs σ H1 D Qd := by
  refine lc_each w hD hn (fun i acc _ => acc = (List.range i).map f) (fun _ _ _ _ _ h => h) rfl hG (fun i x H H' acc Kf k hi s r y => hs i x H H' Kf (fun H4 s4 => k _ H4 s4 ?_) hi s y) (fun H acc s h _ r => hd H s (r ▸ h))
  rw [r, List.range_succ, List.map_append]
  rfl
/-- .. each element stands for the item at its place -/
theorem lc_rel {α : Type} {xs : List α} (w : Walk J xs.length G Y) {g : TG} {te : TE} {vs : List Nat} {σ : L2.St} {H1 : Hp} {D : Addr} {Qd : Hp → Prop} (F : Hp → α → V → Prop) (hF : ∀ H H' a v, TS H H' → F H a v → F H' a v) (hD : H1 D = none) (hn : xs.length ≤ 100000) (hG : ∀ H, Same H1 H → G H)
    (hs : ∀ i x H H' a (Kf : V → Hp → Prop), (∀ v H4, Same H H4 → F H4 a v → Kf v H4) → xs[i]? = some a → Same H1 H → Y i H x H' →
      g x (wipe σ vs) H' fun σ2 H2 => wipe σ2 vs = wipe σ vs ∧ te σ2 H2 Kf)
    (hd : ∀ H acc, Same H1 H → H D = some (.lst acc) → Paired (F H) xs acc → Qd H) : LcW J g tYes te vs σ H1 D Qd := by
  refine lc_each w hD hn (fun i acc H => Paired (F H) (xs.take i) acc) (fun i acc H H' t h => Paired.mapP h fun a v q => hF _ _ _ _ t q) .nil hG (fun i x H H' acc Kf k hi s r y => ?_) (fun H acc s h _ r => hd H acc s h (by rw [List.take_length] at r; exact r))
  refine hs i x H H' xs[i] Kf (fun v H4 s4 q => k v H4 s4 ?_) (List.getElem?_eq_getElem hi) s y
  rw [List.take_succ_eq_append_getElem hi]
  have r4 : Paired (F H4) (xs.take i) acc := Paired.mapP r fun a v q => hF _ _ _ _ (same_ts s4) q
  exact paired_app r4 (.cons q .nil)
end
/-! ### a list, a tuple beside the empty one -/
def rNeNilL : R2 := fun x y H Q => ∃ a b xs, x = .ref a ∧ y = .ref b ∧ H a = some (.lst xs) ∧ H b = some (.lst []) ∧ Q (.bl (!xs.isEmpty)) H
def rNeNilT : R2 := fun x y H Q => ∃ a b xs, x = .ref a ∧ y = .ref b ∧ H a = some (.tup xs) ∧ H b = some (.tup []) ∧ Q (.bl (!xs.isEmpty)) H
def rEqNilT : R2 := fun x y H Q => ∃ a b xs, x = .ref a ∧ y = .ref b ∧ H a = some (.tup xs) ∧ H b = some (.tup []) ∧ Q (.bl xs.isEmpty) H
section
variable {X : Cx}
theorem op_neNilL (hu : X.A.units + 64 < cLine) : OpR X (compareOp .NotEq) rNeNilL := by
  intro pins s σ H x y v u Q I rx ry h
  obtain ⟨a, b, xs, rfl, rfl, ha, hb, q⟩ := h
  cases rx
  cases ry
  obtain ⟨its, rv, pl, _⟩ := I.list (SqL.of ha)
  obtain ⟨its2, rv2, pl2, _⟩ := I.list (SqL.of hb)
  cases rv2
  cases rv with
  | nil => exact PySem.SeqAt.RcNeAt.lists (e := fun _ => true) pl.isList pl2.isList rfl (by omega) (fun j h1 _ => absurd h1 (Nat.not_lt_zero _)) _ _ _ _ ⟨.bl _, H, I, rfl, q⟩
  | cons r t => exact PySem.SeqAt.RcNeAt.lists_lengths pl.isList pl2.isList (by simp) (by omega) _ _ _ _ ⟨.bl _, H, I, rfl, q⟩
theorem op_neNilT (hu : X.A.units + 64 < cLine) : OpR X (compareOp .NotEq) rNeNilT := by
  intro pins s σ H x y v u Q I rx ry h
  obtain ⟨a, b, xs, rfl, rfl, ha, hb, q⟩ := h
  cases rx
  cases ry
  obtain ⟨its, rv, pl, _⟩ := I.tuple (SqT.of ha)
  obtain ⟨its2, rv2, pl2, _⟩ := I.tuple (SqT.of hb)
  cases rv2
  refine PySem.SeqAt.RcNeAt.tuples (e := fun _ => true) pl pl2 (by omega) (fun j _ h1 => absurd h1 (Nat.not_lt_zero _)) _ _ _ _ ⟨.bl _, H, I, ?_, q⟩
  cases rv with
  | nil => rfl
  | cons r t => first | rfl | simp [L2.RelV]
theorem op_eqNilT (hu : X.A.units + 64 < cLine) : OpR X (compareOp .Eq) rEqNilT := by
  intro pins s σ H x y v u Q I rx ry h
  obtain ⟨a, b, xs, rfl, rfl, ha, hb, q⟩ := h
  cases rx
  cases ry
  obtain ⟨its, rv, pl, _⟩ := I.tuple (SqT.of ha)
  obtain ⟨its2, rv2, pl2, _⟩ := I.tuple (SqT.of hb)
  cases rv2
  refine PySem.SeqAt.RcAt.tuples (e := fun _ => true) pl pl2 (by omega) (fun j _ h1 => absurd h1 (Nat.not_lt_zero _)) _ _ _ _ ⟨.bl _, H, I, ?_, q⟩
  cases rv with
  | nil => rfl
  | cons r t => first | rfl | simp [L2.RelV]
end
/-! ### what is walked: a list or a tuple -/
theorem PI.or {X : Cx} {tg l : Expr} {w1 w2 : TI} (h1 : PI X tg l w1) (h2 : PI X tg l w2) : PI X tg l (fun σ H R => w1 σ H R ∨ w2 σ H R) :=
  ⟨fun pins s σ H R I h => h.elim (h1.run pins s σ H R I) (h2.run pins s σ H R I)⟩
theorem pi_seq {X : Cx} {tg l : Expr} {tl : TE} (hl : PE X l tl) : PI X tg l (fun σ H R => iList X.K tl σ H R ∨ iTup X.K tl σ H R) := PI.or (pi_list hl) (pi_tup hl)
theorem ite_b {b : Bool} {A B : Prop} (h1 : b = true → A) (h2 : b = false → B) : if b = true then A else B := by
  cases b with
  | true => exact iteT (h1 rfl)
  | false => exact iteF (h2 rfl)
/-! ### within a comprehension: the written part by its name -/
section
variable {X : Cx} {K : PySem.W.Frag} {tg l : Expr} {tl : TE}
theorem ix_tupK (h : X.K = K) : IxR X (rIxT K) := by
  subst h
  exact ix_tup
theorem ix_listK (h : X.K = K) : IxR X (rIxL K) := by
  subst h
  exact ix_list
theorem op_notIn_seqK (h : X.K = K) : OpR X (compareOp .NotIn) (rIn K true) := by
  subst h
  exact op_notIn_seq
theorem op_catAK (h : X.K = K) : OpR X (binaryOp .Add) (rCatA K) := by
  subst h
  exact op_catA
theorem sl_tupAK (h : X.K = K) : SlR X (rSlA K) := by
  subst h
  exact sl_tupA
theorem cr_sumK (h : X.K = K) (hc : X.calm = true) : CallR X (.builtin "sum") (rSum K) := by
  subst h
  exact cr_sum hc
theorem cr_allK (h : X.K = K) (hc : X.calm = true) : CallR X (.builtin "all") (rAll K) := by
  subst h
  exact cr_all hc
def rLen (K : PySem.W.Frag) : List V → Hp → VK → Prop := fun xs H Q => ∃ p ys, xs = [.ref p] ∧ (SqL K H p ys ∨ SqT K H p ys) ∧ Q (.int ys.length) H
theorem call_len_seqK (h : X.K = K) : CallR X (.builtin "len") (rLen K) := by
  subst h
  exact call_len_seq
theorem pi_listK (h : X.K = K) (hl : PE X l tl) : PI X tg l (iList K tl) := by
  subst h
  exact pi_list hl
theorem pi_tupK (h : X.K = K) (hl : PE X l tl) : PI X tg l (iTup K tl) := by
  subst h
  exact pi_tup hl
end
/-! ### a dict comprehension over any walk -/
theorem dc_it {J : It} {n : Nat} {G : Hp → Prop} {Y : Nat → Hp → V → Hp → Prop} (w : Walk J n G Y) {g : TG} {tt : TT} {tk tv : TE} {vs : List Nat} {σ : L2.St} {H1 : Hp} {D : Addr} {Qd : Hp → Prop} (Pv : Nat → Hp → Prop) (h0 : Pv 0 (upd H1 D (.dK []))) (hG : ∀ i H, i ≤ n → Pv i H → G H)
    (hs : ∀ i x H H', i < n → Pv i H → Y i H x H' → g x (wipe σ vs) H' fun σ2 H2 => wipe σ2 vs = wipe σ vs ∧ tt σ2 H2 fun b H3 =>
      if b = true then tk σ2 H3 fun y H4 => tv σ2 H4 fun z H5 => ∃ kvs k, y = kV k ∧ H5 D = some (.dK kvs) ∧ kvs.length < sizeLine ∧ Pv (i + 1) (upd H5 D (.dK (putK kvs k z))) else Pv (i + 1) H3) (hd : ∀ H, Pv n H → Qd H) :
    ∃ W : Nat → Nat → Hp → Prop, (∃ m, W 0 m (upd H1 D (.dK []))) ∧ ∀ i m H, W i m H →
      (J.stop i H ∧ Qd H) ∨ (J.go i H ∧ ∃ Nx : Hp → Prop, (∀ H', Nx H' → ∃ m', m' < m ∧ W (i + 1) m' H') ∧ ∀ x H', J.yld i H x H' → g x (wipe σ vs) H' fun σ2 H2 => wipe σ2 vs = wipe σ vs ∧ tt σ2 H2 fun b H3 =>
        if b = true then tk σ2 H3 fun y H4 => tv σ2 H4 fun z H5 => ∃ kvs k, y = kV k ∧ H5 D = some (.dK kvs) ∧ kvs.length < sizeLine ∧ Nx (upd H5 D (.dK (putK kvs k z))) else Nx H3) := by
  refine ⟨fun i m H => m = n - i ∧ i ≤ n ∧ Pv i H, ⟨n, (Nat.sub_zero n).symm, Nat.zero_le _, h0⟩, fun i m H ⟨em, hi, p⟩ => ?_⟩
  rcases Nat.lt_or_eq_of_le hi with lt | e
  · exact .inr ⟨w.goes i H lt (hG i H hi p), Pv (i + 1), fun H' p' => ⟨n - (i + 1), by omega, rfl, lt, p'⟩, fun x H' y => hs i x H H' lt p (w.yields i H x H' lt (hG i H hi p) y)⟩
  · subst e
    exact .inl ⟨w.stops H (hG i H hi p), hd H p⟩
end NW
/-! ## The data: programs, handings; how they lie in a heap -/
namespace NW
open PySem PySem.Spec PyProof.Rows L2
inductive Opd where
  | n (i : Int) | s (x : Str)
  deriving DecidableEq
def Opd.v : Opd → V
  | .n i => .int i
  | .s x => .str x
mutual
inductive Row where
  | set (x d : Str) (a b : Opd)
  | get (x l : Str) (a : Opd)
  | put (l : Str) (a b : Opd)
  | pick (x : Str) (a b c : Opd)
  | lt (a : Opd)
  | ite (a : Opd) (t e : Rows)
  | whl (a : Opd) (n : Int) (b : Rows)
inductive Rows where
  | nil
  | cons (r : Row) (rs : Rows)
end
def Rows.list : Rows → List Row
  | .nil => []
  | .cons r rs => r :: rs.list
def Rows.len : Rows → Nat
  | .nil => 0
  | .cons _ rs => rs.len + 1
theorem Rows.list_len : ∀ rs : Rows, rs.list.length = rs.len
  | .nil => rfl
  | .cons _ rs => congrArg (· + 1) rs.list_len
mutual
/-- the row r lies at v -/
def RowAt (H : Hp) : Row → V → Prop
  | .set x d a b, v => ∃ p, v = .ref p ∧ H p = some (.tup [.str "set", .str x, .str d, a.v, b.v])
  | .get x l a, v => ∃ p, v = .ref p ∧ H p = some (.tup [.str "get", .str x, .str l, a.v])
  | .put l a b, v => ∃ p, v = .ref p ∧ H p = some (.tup [.str "put", .str l, a.v, b.v])
  | .pick x a b c, v => ∃ p, v = .ref p ∧ H p = some (.tup [.str "pick", .str x, a.v, b.v, c.v])
  | .lt a, v => ∃ p, v = .ref p ∧ H p = some (.tup [.str "let", a.v])
  | .ite a t e, v => ∃ p pt pe ts es, v = .ref p ∧ H p = some (.tup [.str "if", a.v, .ref pt, .ref pe]) ∧ H pt = some (.tup ts) ∧ H pe = some (.tup es) ∧ RowsL H t ts ∧ RowsL H e es
  | .whl a n b, v => ∃ p pb bs, v = .ref p ∧ H p = some (.tup [.str "while", a.v, .int n, .ref pb]) ∧ H pb = some (.tup bs) ∧ RowsL H b bs
def RowsL (H : Hp) : Rows → List V → Prop
  | .nil, vs => vs = []
  | .cons r rs, vs => ∃ v ws, vs = v :: ws ∧ RowAt H r v ∧ RowsL H rs ws
end
/-- a block of rows -/
def RowsAt (H : Hp) (rs : Rows) (v : V) : Prop := ∃ p vs, v = .ref p ∧ H p = some (.tup vs) ∧ RowsL H rs vs
mutual
theorem RowAt.ts {H H' : Hp} (s : TS H H') : ∀ {r : Row} {v : V}, RowAt H r v → RowAt H' r v
  | .set .., _, h => by
    obtain ⟨p, e, h⟩ := h
    exact ⟨p, e, s _ _ h⟩
  | .get .., _, h => by
    obtain ⟨p, e, h⟩ := h
    exact ⟨p, e, s _ _ h⟩
  | .put .., _, h => by
    obtain ⟨p, e, h⟩ := h
    exact ⟨p, e, s _ _ h⟩
  | .pick .., _, h => by
    obtain ⟨p, e, h⟩ := h
    exact ⟨p, e, s _ _ h⟩
  | .lt .., _, h => by
    obtain ⟨p, e, h⟩ := h
    exact ⟨p, e, s _ _ h⟩
  | .ite .., _, h => by
    obtain ⟨p, pt, pe, ts, es, e, h, h1, h2, h3, h4⟩ := h
    exact ⟨p, pt, pe, ts, es, e, s _ _ h, s _ _ h1, s _ _ h2, h3.ts s, h4.ts s⟩
  | .whl .., _, h => by
    obtain ⟨p, pb, bs, e, h, h1, h2⟩ := h
    exact ⟨p, pb, bs, e, s _ _ h, s _ _ h1, h2.ts s⟩
theorem RowsL.ts {H H' : Hp} (s : TS H H') : ∀ {rs : Rows} {vs : List V}, RowsL H rs vs → RowsL H' rs vs
  | .nil, _, h => h
  | .cons .., _, h => by
    obtain ⟨v, ws, e, h1, h2⟩ := h
    exact ⟨v, ws, e, h1.ts s, h2.ts s⟩
end
theorem RowsAt.ts {H H' : Hp} (s : TS H H') {rs : Rows} {v : V} (h : RowsAt H rs v) : RowsAt H' rs v := by
  obtain ⟨p, vs, e, h1, h2⟩ := h
  exact ⟨p, vs, e, s _ _ h1, h2.ts s⟩
theorem RowsL.len {H : Hp} : ∀ {rs : Rows} {vs : List V}, RowsL H rs vs → vs.length = rs.len
  | .nil, _, h => by rw [h]; rfl
  | .cons .., _, h => by
    obtain ⟨v, ws, e, h1, h2⟩ := h
    rw [e]
    exact congrArg (· + 1) h2.len
/-- the i-th row -/
theorem RowsL.at {H : Hp} : ∀ {rs : Rows} {vs : List V} {i : Nat} {v : V}, RowsL H rs vs → vs[i]? = some v → ∃ r, rs.list[i]? = some r ∧ RowAt H r v
  | .nil, _, _, _, h, e => by
    rw [h] at e
    cases e
  | .cons r rs, _, 0, _, h, e => by
    obtain ⟨v, ws, rfl, h1, h2⟩ := h
    cases e
    exact ⟨r, rfl, h1⟩
  | .cons r rs, _, i + 1, _, h, e => by
    obtain ⟨v, ws, rfl, h1, h2⟩ := h
    obtain ⟨r', e', q⟩ := h2.at e
    exact ⟨r', e', q⟩
/-- a parameter, a list, a program -/
structure PD where
  nm : Str
  so : Str
  sz : Int
structure LD where
  nm : Str
  so : Str
  cells : Int
  wo : Int
  em : Int
structure Prog where
  handed : List PD
  lists : List LD
  rows : Rows
  told : List Str
def PD.vs (d : PD) : List V := [.str d.nm, .str d.so, .int d.sz]
def LD.vs (d : LD) : List V := [.str d.nm, .str d.so, .int d.cells, .int d.wo, .int d.em]
/-- tuples of such values, one behind another -/
def TupsL (H : Hp) (xss : List (List V)) (vs : List V) : Prop := Paired (fun xs v => ∃ p, v = .ref p ∧ H p = some (.tup xs)) xss vs
theorem TupsL.ts {H H' : Hp} (s : TS H H') {xss : List (List V)} {vs : List V} (h : TupsL H xss vs) : TupsL H' xss vs :=
  Paired.mapP h fun _ _ ⟨p, e, q⟩ => ⟨p, e, s _ _ q⟩
theorem Paired.at {α β : Type} {F : α → β → Prop} : ∀ {l₁ : List α} {l₂ : List β} {i : Nat} {b : β}, Paired F l₁ l₂ → l₂[i]? = some b → ∃ a, l₁[i]? = some a ∧ F a b
  | _, _, _, _, .nil, e => by cases e
  | _, _, 0, _, .cons r _, e => by
    cases e
    exact ⟨_, rfl, r⟩
  | _, _, _ + 1, _, .cons _ t, e => by
    obtain ⟨a, e', q⟩ := Paired.at t e
    exact ⟨a, e', q⟩
theorem TupsL.at {α : Type} {f : α → List V} {H : Hp} {ds : List α} {vs : List V} {i : Nat} {v : V} (h : TupsL H (ds.map f) vs) (e : vs[i]? = some v) : ∃ d p, ds[i]? = some d ∧ v = .ref p ∧ H p = some (.tup (f d)) := by
  obtain ⟨xs, ex, p, ev, q⟩ := Paired.at h e
  rw [List.getElem?_map] at ex
  cases q2 : ds[i]? with
  | none =>
    rw [q2] at ex
    cases ex
  | some d =>
    rw [q2] at ex
    cases ex
    exact ⟨d, p, rfl, ev, q⟩
theorem TupsL.len {α : Type} {f : α → List V} {H : Hp} {ds : List α} {vs : List V} (h : TupsL H (ds.map f) vs) : ds.length = vs.length := by
  have e := Paired.length h
  rw [List.length_map] at e
  exact e
theorem TupsL.walk {α : Type} {f : α → List V} {H : Hp} {ds : List α} {vs : List V} {K : PySem.W.Frag} {a : Addr} (h : TupsL H (ds.map f) vs) : Walk (Itt K a) ds.length (fun H => SqT K H a vs) (YAt vs) := by
  rw [h.len]
  exact walk_tup
theorem foldl_take {α β : Type} {g : β → α → β} {b : β} {xs : List α} {i : Nat} {x : α} (h : xs[i]? = some x) : (xs.take (i + 1)).foldl g b = g ((xs.take i).foldl g b) x := by
  obtain ⟨hi, e⟩ := List.getElem?_eq_some_iff.mp h
  rw [List.take_succ_eq_append_getElem hi, List.foldl_append, e]
  rfl
/-- the program p lies at v -/
def ProgAt (H : Hp) (p : Prog) (v : V) : Prop := ∃ a ah al ar at_ hs ls rs, v = .ref a ∧ H a = some (.tup [.ref ah, .ref al, .ref ar, .ref at_]) ∧ H ah = some (.tup hs) ∧ TupsL H (p.handed.map PD.vs) hs ∧
  H al = some (.tup ls) ∧ TupsL H (p.lists.map LD.vs) ls ∧ H ar = some (.tup rs) ∧ RowsL H p.rows rs ∧ H at_ = some (.tup (p.told.map .str))
theorem ProgAt.ts {H H' : Hp} (s : TS H H') {p : Prog} {v : V} (h : ProgAt H p v) : ProgAt H' p v := by
  obtain ⟨a, ah, al, ar, at_, hs, ls, rs, e, h0, h1, h2, h3, h4, h5, h6, h7⟩ := h
  exact ⟨a, ah, al, ar, at_, hs, ls, rs, e, s _ _ h0, s _ _ h1, h2.ts s, s _ _ h3, h4.ts s, s _ _ h5, h6.ts s, s _ _ h7⟩
/-! ### programs that the law draws -/
def okN (x : Str) : Prop := x = "h" ∨ x = "a" ∨ x = "x" ∨ x = "y"
def okO : Opd → Prop
  | .n i => 0 ≤ i ∧ i ≤ 255
  | .s x => okN x
def okD (d : Str) : Prop := d = "add" ∨ d = "sub" ∨ d = "mul" ∨ d = "and" ∨ d = "or" ∨ d = "xor" ∨ d = "less" ∨ d = "same" ∨ d = "right"
mutual
/-- a row that at most k blocks stand within, one in another -/
def okRow (ls : List Str) : Nat → Row → Prop
  | _, .set x d a b => okN x ∧ okD d ∧ okO a ∧ okO b
  | _, .get x l a => okN x ∧ l ∈ ls ∧ okO a
  | _, .put l a b => l ∈ ls ∧ okO a ∧ okO b
  | _, .pick x a b c => okN x ∧ okO a ∧ okO b ∧ okO c
  | _, .lt a => okO a
  | k, .ite a t e => 0 < k ∧ okO a ∧ t.len ≤ 2 ∧ e.len ≤ 1 ∧ okRows ls (k - 1) t ∧ okRows ls (k - 1) e
  | k, .whl a n b => 0 < k ∧ okO a ∧ 0 ≤ n ∧ n ≤ 20 ∧ b.len ≤ 2 ∧ okRows ls (k - 1) b
def okRows (ls : List Str) : Nat → Rows → Prop
  | _, .nil => True
  | k, .cons r rs => okRow ls k r ∧ okRows ls k rs
end
theorem okRows.at {ls : List Str} {k : Nat} : ∀ {rs : Rows} {i : Nat} {r : Row}, okRows ls k rs → rs.list[i]? = some r → okRow ls k r
  | .nil, _, _, _, e => by cases e
  | .cons .., 0, _, h, e => by
    cases e
    exact h.1
  | .cons r rs, i + 1, _, h, e => okRows.at (rs := rs) (i := i) h.2 e
theorem okRows.mem {ls : List Str} {k : Nat} : ∀ {rs : Rows} {r : Row}, okRows ls k rs → r ∈ rs.list → okRow ls k r
  | .nil, _, _, e => by cases e
  | .cons .., _, h, e => by
    rcases List.mem_cons.mp e with e | e
    · rw [e]
      exact h.1
    · exact okRows.mem h.2 e
/-! ### names -/
def LET : Str := "abcdefghijklmnopqrstuvwxyz"
def okNm (z : Str) : Prop := 1 ≤ z.length ∧ z.length ≤ 8 ∧ ∀ c ∈ z.cps.toList, c ∈ LET.cps.toList
def okLs (ls : List Str) : Prop := ∀ x ∈ ls, x = "t" ∨ x = "u"
theorem okNm_of {z : Str} (h : okN z) : okNm z := by
  rcases h with rfl | rfl | rfl | rfl <;> (unfold okNm; decide +kernel)
theorem okNm_ls {ls : List Str} (h : okLs ls) {z : Str} (m : z ∈ ls) : okNm z := by
  rcases h z m with rfl | rfl <;> (unfold okNm; decide +kernel)
theorem okN_ls {ls : List Str} (h : okLs ls) {z : Str} (n : okN z) : z ∉ ls := fun m => by
  rcases h z m with rfl | rfl <;> rcases n with n | n | n | n <;> exact absurd n (by decide +kernel)
theorem eqV_strs (y z : Str) (e : z = y) : eqV (.str y) (.str z) = true := by
  subst e
  exact decide_eq_true rfl
theorem eqV_strs' (y z : Str) (e : ¬ z = y) : eqV (.str y) (.str z) = false := decide_eq_false fun q => e q.symm
theorem inV_strs (z : Str) : ∀ ls : List Str, inV (.str z) (ls.map .str) = decide (z ∈ ls)
  | [] => rfl
  | y :: ls => by
    have ih := inV_strs z ls
    show (eqV (.str y) (.str z) || inV (.str z) (ls.map .str)) = _
    rw [ih]
    have e : eqV (.str y) (.str z) = decide (z = y) := by
      by_cases q : z = y
      · subst q
        rw [decide_eq_true rfl]
        exact eqV_strs _ _ rfl
      · rw [decide_eq_false q]
        exact eqV_strs' _ _ q
    rw [e]
    by_cases q : z = y
    · have m : z ∈ y :: ls := by
        rw [q]
        exact List.mem_cons_self
      rw [decide_eq_true q, decide_eq_true m, Bool.true_or]
    · rw [decide_eq_false q, Bool.false_or]
      exact decide_eq_decide.mpr ⟨fun m => List.mem_cons_of_mem _ m, fun m => (List.mem_cons.mp m).resolve_left q⟩
theorem flat_strs (ls : List Str) : (ls.map V.str).all flatV = true := by
  rw [List.all_map]
  exact List.all_eq_true.mpr fun _ _ => rfl
/-! ### rows counted -/
mutual
def Row.cnt : Row → Int
  | .ite _ t e => 1 + (t.cnt + e.cnt)
  | .whl _ _ b => 1 + b.cnt
  | _ => 1
def Rows.cnt : Rows → Int
  | .nil => 0
  | .cons r rs => r.cnt + rs.cnt
end
def Row.parts : Row → List Rows
  | .ite _ t e => [t, e]
  | .whl _ _ b => [b]
  | _ => []
theorem Rows.cnt_sum : ∀ rs : Rows, rs.cnt = (rs.list.map Row.cnt).sum
  | .nil => rfl
  | .cons r rs => by
    show r.cnt + rs.cnt = (r.cnt :: rs.list.map Row.cnt).sum
    rw [List.sum_cons, rs.cnt_sum]
theorem Row.cnt_parts (r : Row) : r.cnt = 1 + (r.parts.map Rows.cnt).sum := by
  cases r <;> simp [Row.cnt, Row.parts]
theorem okRow.parts {ls : List Str} {k : Nat} {r : Row} {p : Rows} (h : okRow ls k r) (m : p ∈ r.parts) : 0 < k ∧ okRows ls (k - 1) p ∧ p.len ≤ 2 := by
  cases r <;> simp only [Row.parts, List.mem_cons, List.not_mem_nil, or_false] at m
  · obtain ⟨h0, _, h1, h2, h3, h4⟩ := h
    rcases m with rfl | rfl
    · exact ⟨h0, h3, h1⟩
    · exact ⟨h0, h4, by omega⟩
  · obtain ⟨h0, _, _, _, h1, h2⟩ := h
    subst m
    exact ⟨h0, h2, h1⟩
def cb : Nat → Int
  | 0 => 1
  | k + 1 => 1 + 3 * cb k
theorem cb_pos : ∀ k, 1 ≤ cb k
  | 0 => Int.le_refl 1
  | k + 1 => by
    have h := cb_pos k
    show 1 ≤ 1 + 3 * cb k
    omega
theorem cb_mul {j n m : Nat} (h : n ≤ m) : cb j * (n : Int) ≤ cb j * (m : Int) := Int.mul_le_mul_of_nonneg_left (by omega) (by have := cb_pos j; omega)
mutual
theorem Row.cnt_le {ls : List Str} : ∀ (r : Row) (k : Nat), okRow ls k r → 1 ≤ r.cnt ∧ r.cnt ≤ cb k
  | .set .., k, _ => ⟨Int.le_refl 1, cb_pos k⟩
  | .get .., k, _ => ⟨Int.le_refl 1, cb_pos k⟩
  | .put .., k, _ => ⟨Int.le_refl 1, cb_pos k⟩
  | .pick .., k, _ => ⟨Int.le_refl 1, cb_pos k⟩
  | .lt .., k, _ => ⟨Int.le_refl 1, cb_pos k⟩
  | .ite a t e, 0, h => absurd h.1 (Nat.lt_irrefl 0)
  | .ite a t e, k + 1, h => by
    obtain ⟨_, _, h1, h2, h3, h4⟩ := h
    have a1 := Rows.cnt_le t k h3
    have a2 := Rows.cnt_le e k h4
    have b1 : cb k * (t.len : Int) ≤ cb k * ((2 : Nat) : Int) := cb_mul h1
    have b2 : cb k * (e.len : Int) ≤ cb k * ((1 : Nat) : Int) := cb_mul h2
    show 1 ≤ 1 + (t.cnt + e.cnt) ∧ 1 + (t.cnt + e.cnt) ≤ 1 + 3 * cb k
    omega
  | .whl a n b, 0, h => absurd h.1 (Nat.lt_irrefl 0)
  | .whl a n b, k + 1, h => by
    obtain ⟨_, _, _, _, h1, h2⟩ := h
    have a1 := Rows.cnt_le b k h2
    have b1 : cb k * (b.len : Int) ≤ cb k * ((2 : Nat) : Int) := cb_mul h1
    have := cb_pos k
    show 1 ≤ 1 + b.cnt ∧ 1 + b.cnt ≤ 1 + 3 * cb k
    omega
theorem Rows.cnt_le {ls : List Str} : ∀ (rs : Rows) (k : Nat), okRows ls k rs → 0 ≤ rs.cnt ∧ rs.cnt ≤ cb k * (rs.len : Int)
  | .nil, k, _ => by
    show 0 ≤ (0 : Int) ∧ (0 : Int) ≤ cb k * ((0 : Nat) : Int)
    simp
  | .cons r rs, k, h => by
    have a1 := Row.cnt_le r k h.1
    have a2 := Rows.cnt_le rs k h.2
    show 0 ≤ r.cnt + rs.cnt ∧ r.cnt + rs.cnt ≤ cb k * ((rs.len + 1 : Nat) : Int)
    rw [Int.natCast_add, Int.mul_add]
    simp only [Int.natCast_one, Int.mul_one]
    omega
end
/-- what stands at a pair of lists, one by one -/
theorem paired_map {α : Type} {f : α → V} : ∀ {xs : List α} {vs : List V}, Paired (fun a v => v = f a) xs vs → vs = xs.map f
  | _, _, .nil => rfl
  | _, _, .cons r t => by rw [r, paired_map t]; rfl
/-! ### the tables of the module -/
def shapes : List (Str × Int × Int) := [("set", 5, 3), ("get", 4, 3), ("put", 4, 2), ("pick", 5, 2), ("let", 2, 1)]
def deeds : List Str := ["add", "sub", "mul", "and", "or", "xor", "less", "same", "right"]
structure Tabs (K : PySem.W.Frag) (w : World) (mg : Str → Option Value) (aS aD : Addr) (es : Array DictEntry) (n : Nat) : Prop where
  gS : mg "SHAPES" = some (.ref aS)
  kd : KDict K w aS es n
  sh : ∀ x i j, (x, i, j) ∈ shapes → ∃ p, KDct K w aS x (.ref p) ∧ ∀ H, SqT K H p [.int i, .int j]
  ni : PySem.W.nsIn K aS "if" = some none
  nw : PySem.W.nsIn K aS "while" = some none
  gD : mg "DEEDS" = some (.ref aD)
  de : ∀ H, SqT K H aD (deeds.map .str)
end NW
/-! ## The head: what stands behind the top -/
namespace NW
open PySem PySem.Spec PyProof.Rows L2
def dd (x : Str) (st : Stmt) : He.DefD := ⟨(x, none), x, x, defArgs st, defBody st, defScope st, [], []⟩
def dm (C m q : Str) (st : Stmt) : He.DefD := ⟨(C, some m), m, q, defArgs st, defBody st, defScope st, [], []⟩
def hLoose0 : List Str := [("WatchError" : Str), ("BadProgram" : Str), ("BadNumber" : Str), ("TooMany" : Str), ("BadLay" : Str), ("LETTERS" : Str), ("LONGEST" : Str), ("WORTHS" : Str), ("MOST_HANDED" : Str), ("MOST_LISTS_programs" : Str), ("MOST_CELLS" : Str), ("MOST_EMPTY" : Str), ("MOST_TOLD" : Str), ("MOST_ROWS" : Str), ("MOST_DEEP" : Str), ("MOST_ROUNDS" : Str), ("MOST_OPEN" : Str), ("MOST_HIDDEN" : Str), ("DEEDS" : Str), ("SHAPES" : Str), ("is_whole" : Str), ("is_name" : Str), ("is_handed" : Str), ("is_list" : Str), ("are_unlike" : Str), ("handings_of" : Str), ("is_operand" : Str), ("is_plain_row" : Str), ("is_row" : Str), ("are_rows" : Str), ("parts_of" : Str), ("many_rows" : Str), ("is_program" : Str), ("check_program" : Str), ("parts_handed" : Str), ("all_tuples" : Str)]
def hLoose1 : List Str := [("all_parts" : Str), ("handing_of" : Str), ("cell_begins" : Str), ("placed" : Str), ("bits_of" : Str), ("deed_of" : Str), ("Ran" : Str), ("Runner" : Str), ("run_of" : Str), ("MOST_WINDOW" : Str), ("TESTS" : Str), ("check_window" : Str), ("Speculation" : Str), ("speculative_items" : Str), ("only_steps" : Str), ("run_ahead_of" : Str), ("LINE" : Str), ("MOST_LINES" : Str), ("Tells" : Str), ("Still" : Str), ("line_of" : Str), ("stored" : Str), ("sight" : Str), ("check_many" : Str), ("first_unlike" : Str), ("step_of" : Str), ("learnt_at" : Str), ("learnt_of" : Str), ("MOST_GAP" : Str), ("MOST_TRIED" : Str), ("MOST_LISTS_lines" : Str), ("Laid" : Str), ("with_layout" : Str), ("moved" : Str), ("permutations_of" : Str), ("gap_lists" : Str)]
def hLoose2 : List Str := [("laid" : Str), ("_law_cell_at" : Str), ("_law_draw" : Str), ("_law_number" : Str), ("_law_next" : Str), ("_law_operand" : Str), ("_law_row" : Str), ("_law_rows" : Str), ("_law_program" : Str), ("_law_handings" : Str), ("_law_longer" : Str), ("_law_part" : Str), ("_law_many" : Str), ("_law_todo" : Str), ("_law_begun" : Str), ("_law_worth" : Str), ("_law_due" : Str), ("_law_turn" : Str), ("_law_cell" : Str), ("_law_deed" : Str), ("_law_done" : Str), ("_law_ahead" : Str), ("_law_run" : Str), ("_law_moved" : Str), ("_law_is_short" : Str), ("_law_is_still" : Str), ("_law_lays" : Str)]
def hLoose : List Str := hLoose0 ++ hLoose1 ++ hLoose2
def hFa0 : List He.Fa := [.free "isinstance", .free "len", .free "all", .free "range", .free "tuple", .free "list", .free "sum", .free "min", .free "max", .free "zip", .free "enumerate", .free "sorted", .free "repr", .free "int", .free "str", .free "bool", .free "dict", .int "LONGEST" 8, .int "WORTHS" 256, .int "MOST_HANDED" 6, .int "MOST_LISTS_programs" 4, .int "MOST_CELLS" 32, .int "MOST_EMPTY" 15, .int "MOST_TOLD" 6, .int "MOST_ROWS" 400, .int "MOST_DEEP" 5, .int "MOST_ROUNDS" 20, .int "MOST_OPEN" 64, .int "MOST_HIDDEN" 256, .int "MOST_WINDOW" 12, .int "LINE" 4, .int "MOST_LINES" 8, .int "MOST_GAP" 15, .int "MOST_TRIED" 3, .int "MOST_LISTS_lines" 3, .str "LETTERS" "abcdefghijklmnopqrstuvwxyz"]
def hFa1 : List He.Fa := [.glo "is_whole", .glo "is_name", .glo "is_handed", .glo "is_list", .glo "are_unlike", .glo "handings_of", .glo "is_operand", .glo "is_plain_row", .glo "is_row", .glo "are_rows", .glo "parts_of", .glo "many_rows", .glo "is_program", .glo "check_program", .glo "parts_handed", .glo "all_tuples", .glo "all_parts", .glo "handing_of", .glo "cell_begins", .glo "placed", .glo "bits_of", .glo "deed_of", .glo "run_of", .glo "line_of", .glo "stored", .glo "sight", .glo "check_many", .glo "step_of", .glo "learnt_at", .glo "learnt_of", .glo "with_layout", .glo "moved", .glo "permutations_of", .glo "gap_lists", .glo "laid", .glo "_law_cell_at"]
def hFa2 : List He.Fa := [.glo "_law_draw", .glo "_law_number", .glo "_law_next", .glo "_law_operand", .glo "_law_row", .glo "_law_rows", .glo "_law_program", .glo "_law_handings", .glo "_law_longer", .glo "_law_part", .glo "_law_many", .glo "_law_todo", .glo "_law_begun", .glo "_law_worth", .glo "_law_due", .glo "_law_turn", .glo "_law_cell", .glo "_law_deed", .glo "_law_done", .glo "_law_ahead", .glo "_law_run", .glo "_law_moved", .glo "_law_is_short", .glo "_law_is_still", .glo "_law_lays", .glo "law", .glo "Ran", .glo "Runner", .glo "Tells", .glo "Still", .glo "Laid", .glo "SHAPES", .glo "DEEDS", .cls "Ran", .cls "Runner", .cls "Tells"]
def hFa3 : List He.Fa := [.cls "Still", .cls "Laid", .noat "Runner" "held", .noat "Runner" "cells", .noat "Runner" "begins", .noat "Runner" "many", .noat "Runner" "lets", .noat "Runner" "waiting", .noat "Ran" "told", .noat "Ran" "cells", .noat "Ran" "out", .noat "Ran" "steps", .noat "Tells" "opened", .noat "Tells" "one", .noat "Tells" "other", .noat "Tells" "step", .noat "Laid" "order", .noat "Laid" "gaps", .mkr "Ran", .mkr "Runner", .meth "Runner" "worth", .meth "Runner" "cell", .meth "Runner" "push", .meth "Runner" "next_one", .meth "Runner" "done_one", .meth "Runner" "touch", .meth "Runner" "ended", .mkr "Tells", .meth "Tells" "__eq__", .meth "Still" "__eq__", .mkr "Laid", .meth "Laid" "__eq__"]
def hFa : List He.Fa := hFa0 ++ hFa1 ++ hFa2 ++ hFa3
def hFn0 : List He.DefD := [dd "is_whole" (topS 22), dd "is_name" (topS 23), dd "is_handed" (topS 24), dd "is_list" (topS 25), dd "are_unlike" (topS 26), dd "handings_of" (topS 27), dd "is_operand" (topS 28), dd "is_plain_row" (topS 29), dd "is_row" (topS 30), dd "are_rows" (topS 31), dd "parts_of" (topS 32), dd "many_rows" (topS 33), dd "is_program" (topS 34), dd "check_program" (topS 35), dd "parts_handed" (topS 36), dd "all_tuples" (topS 37), dd "all_parts" (topS 38), dd "handing_of" (topS 39), dd "cell_begins" (topS 40), dd "placed" (topS 41), dd "bits_of" (topS 43), dd "deed_of" (topS 44), dd "run_of" (topS 47), dd "line_of" (topS 61), dd "stored" (topS 62), dd "sight" (topS 63), dd "check_many" (topS 64), dd "step_of" (topS 66), dd "learnt_at" (topS 67), dd "learnt_of" (topS 68), dd "with_layout" (topS 74), dd "moved" (topS 75), dd "permutations_of" (topS 76), dd "gap_lists" (topS 77), dd "laid" (topS 78), dd "_law_cell_at" (topS 80)]
def hFn1 : List He.DefD := [dd "_law_draw" (topS 81), dd "_law_number" (topS 82), dd "_law_next" (topS 83), dd "_law_operand" (topS 84), dd "_law_row" (topS 85), dd "_law_rows" (topS 86), dd "_law_program" (topS 87), dd "_law_handings" (topS 88), dd "_law_longer" (topS 89), dd "_law_part" (topS 90), dd "_law_many" (topS 91), dd "_law_todo" (topS 92), dd "_law_begun" (topS 93), dd "_law_worth" (topS 94), dd "_law_due" (topS 95), dd "_law_turn" (topS 96), dd "_law_cell" (topS 97), dd "_law_deed" (topS 98), dd "_law_done" (topS 99), dd "_law_ahead" (topS 100), dd "_law_run" (topS 101), dd "_law_moved" (topS 102), dd "_law_is_short" (topS 103), dd "_law_is_still" (topS 104), dd "_law_lays" (topS 105), dd "law" (topS 106), dm "Ran" "__init__" "Ran.__init__" (inClass (topS 45) 0), dm "Runner" "__init__" "Runner.__init__" (inClass (topS 46) 0), dm "Runner" "worth" "Runner.worth" (inClass (topS 46) 1), dm "Runner" "cell" "Runner.cell" (inClass (topS 46) 2), dm "Runner" "push" "Runner.push" (inClass (topS 46) 3), dm "Runner" "next_one" "Runner.next_one" (inClass (topS 46) 4), dm "Runner" "done_one" "Runner.done_one" (inClass (topS 46) 5), dm "Runner" "touch" "Runner.touch" (inClass (topS 46) 6), dm "Runner" "ended" "Runner.ended" (inClass (topS 46) 7), dm "Tells" "__init__" "Tells.__init__" (inClass (topS 59) 0)]
def hFn2 : List He.DefD := [dm "Tells" "__eq__" "Tells.__eq__" (inClass (topS 59) 1), dm "Still" "__eq__" "Still.__eq__" (inClass (topS 60) 0), dm "Laid" "__init__" "Laid.__init__" (inClass (topS 73) 0), dm "Laid" "__eq__" "Laid.__eq__" (inClass (topS 73) 1)]
def hFn : List He.DefD := hFn0 ++ hFn1 ++ hFn2
def hTs : List He.Tab := [(fun K => He.ga K "SHAPES", ["set", "get", "put", "pick", "let", "fence"])]
def insB (K : PySem.W.Frag) (C : Addr) : Bool := He.eqO (PySem.W.findIn K (.ref C) "__class__") (some (some (.builtin "object.__class__"))) && (He.eqO (PySem.W.specialIn K (.builtin "object.__class__") "__get__") (some (some (.builtin "getset_descriptor.__get__"))) && (decide (PySem.W.takesIn K (.builtin "object.__class__") = some true) && (decide (PySem.W.mroIn K C (.type "object") = some true) && decide (PySem.W.kitOne K (.ref C) (.ref C) = some true))))
def mk0B (K : PySem.W.Frag) (C : Addr) : Bool := PySem.W.makesIn K C && (He.eqO (PySem.W.findIn K (.ref C) "__init__") (some (some (.builtin "object.__init__"))) && (decide (PySem.W.mroIn K C (.type "object") = some true) && PySem.W.keepIn K (.ref C)))
def twoB (K : PySem.W.Frag) (p : Addr) (i j : Int) : Bool := match K.lookup p with
  | some ⟨.type c, _, .seq its _, _⟩ => decide (c = "tuple") && (decide (its.size ≤ sizeLine) && He.relAll [.int i, .int j] its.toList)
  | _ => false
def shB (K : PySem.W.Frag) : Bool := shapes.all fun q => match PySem.W.nsIn K (He.ga K "SHAPES") q.1 with
  | some (some (.ref p)) => twoB K p q.2.1 q.2.2
  | _ => false
def hEx (K : PySem.W.Frag) : Bool := He.tupB K "DEEDS" (deeds.map .str) && (shB K && (He.eqO (PySem.W.nsIn K (He.ga K "SHAPES") "if") (some none) && (He.eqO (PySem.W.nsIn K (He.ga K "SHAPES") "while") (some none) && (insB K (He.ga K "Still") && (insB K (He.ga K "Laid") && (mk0B K (He.ga K "Still") && (decide (PySem.W.kitOne K (.ref (He.ga K "Still")) (.ref (He.ga K "Tells")) = some false) && (PySem.W.notFirst K (He.ga K "Still") (.ref (He.ga K "Still")) && (PySem.W.notFirst K (He.ga K "Tells") (.ref (He.ga K "Still")) && PySem.W.notFirst K (He.ga K "Laid") (.ref (He.ga K "Laid")))))))))))
abbrev hR : PySem.W.OpenRow := PySem.W.OpenLaw.row PySem.Challenge.rw_nowatcher_k33_whole_lines
/-! ### what is looked at: a small part of the heap -/
def rfs (o : Obj) : List Addr := match o.data with
  | .dict es _ => es.toList.flatMap fun e => He.refV e.val
  | .func fd => He.refV fd.code
  | .cls cd => [cd.ns]
  | _ => []
def lvl (g : Addr → Option Obj) (as : List Addr) : List Addr := as.flatMap fun a => match g a with
  | some o => rfs o
  | none => []
def hAs (g : Addr → Option Obj) : List Addr :=
  [mainGlobals] ++ (lvl g [mainGlobals] ++ (lvl g (lvl g [mainGlobals]) ++ (lvl g (lvl g (lvl g [mainGlobals])) ++ lvl g (lvl g (lvl g (lvl g [mainGlobals]))))))
def hK (g : Addr → Option Obj) : PySem.W.Frag := He.frG g (hAs g)
/-- a part of the facts -/
structure Pt2 where
  fa : List He.Fa
  fn : List He.DefD
  ts : List He.Tab
  ex : PySem.W.Frag → Bool
abbrev AlP : Type := He.AlT × Bool
def Pt2.ob (p : Pt2) (K : PySem.W.Frag) : AlP := (He.obsT p.fa p.fn p.ts K, p.ex K)
def Pt2.va (p : Pt2) (w : World) : AlP := (He.valT p.fn p.ts w, true)
def hookP (p : Pt2) : PySem.W.Hook where
  α := AlP
  obs := fun s => p.ob (hK s.heap.get?)
  val := fun w => p.va w
  says := fun w h => ∃ K : PySem.W.Frag, K.In h ∧ p.ob K = p.va w
  of := fun _ _ e => ⟨_, He.frG_in, e⟩
  keeps := fun _ _ _ ⟨K, hK, c⟩ k => ⟨K, PySem.W.Frag.In.keeps hK k, c⟩
def obP (p : Pt2) (s : PySem.W.SharedT) : AlP := p.ob (hK (HandSHeadRun.getT s))
end NW
/-! ## The head: the run, once for each answer of the world -/
namespace NW
open PySem PySem.Spec PyProof.Rows L2
def hPt : Pt2 := ⟨hFa, hFn, hTs, hEx⟩
abbrev hRunW (w : World) : Prop := HandSHeadRun.RunEq hR (PySem.W.view hR.prog [106]) (hookP hPt) (obP hPt) 20000 hLoose w
theorem hRun0 (w : World) : hRunW (w.withFollow "special-get-raises" false) := by
  intro os
  kernel_rfl
theorem hRun1 (w : World) : hRunW (w.withFollow "special-get-raises" true) := by
  intro os
  kernel_rfl
theorem hRun (w : World) : hRunW w := PySem.W.byRow2 "special-get-raises" (P := hRunW) hRun0 hRun1 w
theorem obP_eq (p : Pt2) (s : PySem.W.SharedT) : obP p s = (hookP p).obs s.abs := by
  have e : HandSHeadRun.getT s = s.abs.heap.get? := funext (HandSHeadRun.getT_eq s)
  unfold obP
  rw [e]
  rfl
end NW
/-! ## What a whole program must be -/
namespace NW
open PySem PySem.Spec PyProof.Rows L2
def okSo (x : Str) : Prop := x = "open" ∨ x = "hidden" ∨ x = "own"
def okLD (d : LD) : Prop := okNm d.nm ∧ okSo d.so ∧ 1 ≤ d.cells ∧ d.cells ≤ 32 ∧ 1 ≤ d.wo ∧ d.wo ≤ 256 ∧ (d.so = "own" → d.wo = 1) ∧ 0 ≤ d.em ∧ d.em ≤ 15
def hofP (hs : List PD) (k : Str) : Int := hs.foldl (fun f d => f * (if d.so = k then d.sz else 1)) 1
def hofC (f m : Int) : Nat → Int
  | 0 => f
  | n + 1 => if 257 < hofC f m n * m then 257 else hofC f m n * m
def hofL (f : Int) (ls : List LD) (k : Str) : Int := ls.foldl (fun f d => hofC f d.wo (if d.so = k then d.cells.toNat else 0)) f
def hof (p : Prog) (k : Str) : Int := hofL (hofP p.handed k) p.lists k
def okPD (d : PD) : Prop := okNm d.nm ∧ (d.so = "open" ∨ d.so = "hidden") ∧ 1 ≤ d.sz ∧ d.sz ≤ 256

/-- what is_program asks -/
structure okProg (p : Prog) : Prop where
  nh : p.handed.length ≤ 6
  nl : p.lists.length ≤ 4
  nt : p.told.length ≤ 6
  ph : ∀ d ∈ p.handed, okPD d
  pl : ∀ d ∈ p.lists, okLD d
  nd : (p.handed.map PD.nm ++ p.lists.map LD.nm).Nodup
  ls : okLs (p.lists.map LD.nm)
  rw : okRows (p.lists.map LD.nm) 3 p.rows
  rl : p.rows.len ≤ 5
  tn : ∀ x ∈ p.told, okN x
  td : p.told.Nodup
  ho : hof p "open" ≤ 64
  hh : hof p "hidden" ≤ 256
def sp_parts_of : Sp := fun vs H Q _ => ∃ (r : Row) (v : V), vs = [v] ∧ RowAt H r v ∧ ∀ H' p ws, Same H H' → H' p = some (.tup ws) → Paired (RowsAt H') r.parts ws → Q (.ref p) H'
def sp_many_rows (n : Nat) : Sp := fun vs H Q _ => ∃ (rows : Rows) (p : Addr) (ws : List V) (ls : List Str), vs = [.ref p] ∧ 0 < n ∧ H p = some (.tup ws) ∧ RowsL H rows ws ∧ okRows ls (n - 1) rows ∧ rows.len ≤ 5 ∧ ∀ H', Same H H' → Q (.int rows.cnt) H'
end NW
/-! ## The mirror: the machine, handings, sights; how they lie in a heap -/
namespace NW
open PySem PySem.Spec PyProof.Rows L2
abbrev EnvM := List (Str × Int)
def envK (e : EnvM) : List (Key × V) := e.map fun p => ((Sum.inr p.1 : Key), V.int p.2)
def getE (e : EnvM) (x : Str) : Option Int := (e.find? fun p => decide (p.1 = x)).map (·.2)
def putE (e : EnvM) (x : Str) (i : Int) : EnvM := if (e.any fun p => decide (p.1 = x)) = true then e.map (fun p => if p.1 = x then (p.1, i) else p) else e ++ [(x, i)]
theorem valV_env (e : EnvM) (x : Str) : valV (envK e) (Sum.inr x) = (getE e x).map V.int := by
  unfold valV getE envK
  induction e with
  | nil => rfl
  | cons p e ih =>
    rw [List.map_cons, List.find?_cons, List.find?_cons]
    by_cases h : p.1 = x
    · rw [decide_eq_true h, decide_eq_true (show (Sum.inr p.1 : Key) = Sum.inr x by rw [h])]
      rfl
    · rw [decide_eq_false h, decide_eq_false (show ¬ (Sum.inr p.1 : Key) = Sum.inr x from fun q => h (Sum.inr.inj q))]
      exact ih
theorem putK_env (e : EnvM) (x : Str) (i : Int) : putK (envK e) (Sum.inr x) (V.int i) = envK (putE e x i) := by
  unfold putK putE envK
  have a : ((e.map fun p => ((Sum.inr p.1 : Key), V.int p.2)).any fun kv => decide (kv.1 = Sum.inr x)) = e.any fun p => decide (p.1 = x) := by
    rw [List.any_map]
    congr 1
    funext p
    exact decide_eq_decide.mpr ⟨fun q => Sum.inr.inj q, fun q => congrArg Sum.inr q⟩
  rw [a]
  split
  · rw [List.map_map, List.map_map]
    congr 1
    funext p
    show (if (Sum.inr p.1 : Key) = Sum.inr x then ((Sum.inr p.1 : Key), V.int i) else (Sum.inr p.1, V.int p.2)) = _
    by_cases h : p.1 = x
    · rw [if_pos (congrArg Sum.inr h)]
      show _ = ((Sum.inr (if p.1 = x then (p.1, i) else p).1 : Key), V.int (if p.1 = x then (p.1, i) else p).2)
      rw [if_pos h]
    · rw [if_neg (fun q => h (Sum.inr.inj q))]
      show _ = ((Sum.inr (if p.1 = x then (p.1, i) else p).1 : Key), V.int (if p.1 = x then (p.1, i) else p).2)
      rw [if_neg h]
  · rw [List.map_append]
    rfl
theorem envK_len (e : EnvM) : (envK e).length = e.length := List.length_map _
theorem putE_len (e : EnvM) (x : Str) (i : Int) : (putE e x i).length ≤ e.length + 1 := by
  unfold putE
  split
  · rw [List.length_map]
    omega
  · rw [List.length_append]
    exact Nat.le_refl _
/-! ### the machine -/
def wor (e : EnvM) : Opd → Int
  | .n i => i
  | .s x => (getE e x).getD 0
def deed (d : Str) (a b : Int) : Int :=
  if d = "less" then (if a < b then 1 else 0) else if d = "same" then (if a = b then 1 else 0) else if d = "right" then a / 2 ^ b.toNat
  else if d = "and" then Builtin.bitAnd a b else if d = "or" then Builtin.bitOr a b else if d = "xor" then Builtin.bitXor a b
  else if d = "add" then (a + b) % 256 else if d = "sub" then (a - b) % 256 else (a * b) % 256
abbrev Cel := Option (Str × Nat)
structure Mc where
  env : EnvM
  mem : Str → List Int
  out : List Int
  stk : List Row
def cel (s : Mc) (l : Str) (a : Opd) : Cel := if wor s.env a < ((s.mem l).length : Int) then some (l, (wor s.env a).toNat) else none
def memGet (m : Str → List Int) : Cel → Int
  | none => 0
  | some (l, i) => (m l).getD i 0
def memSet (m : Str → List Int) (c : Cel) (v : Int) : Str → List Int := match c with
  | none => m
  | some (l, i) => fun k => if k = l then (m l).set i v else m k
def due : List Row → Option (Row × List Row)
  | [] => none
  | .whl a n b :: s => if 0 < n then some (.whl a n b, s) else due s
  | r :: s => some (r, s)
/-- one row done; the rest of the stack is that of s -/
def exec (s : Mc) : Row → Cel × Mc
  | .ite a t e => (none, { s with stk := (if wor s.env a = 0 then e.list else t.list) ++ s.stk })
  | .whl a n b => (none, { s with stk := if wor s.env a = 0 then s.stk else b.list ++ .whl a (n - 1) b :: s.stk })
  | .set x d a b => (none, { s with env := putE s.env x (deed d (wor s.env a) (wor s.env b)) })
  | .pick x a b c => (none, { s with env := putE s.env x (if wor s.env a = 0 then wor s.env c else wor s.env b) })
  | .lt a => (none, { s with out := s.out ++ [wor s.env a] })
  | .get x l a => (cel s l a, { s with env := putE s.env x (memGet s.mem (cel s l a)) })
  | .put l a b => (cel s l a, { s with mem := memSet s.mem (cel s l a) (wor s.env b) })
def runF : Nat → Mc → Option (List Cel × List Int)
  | 0, _ => none
  | k + 1, s => match due s.stk with
    | none => some ([], s.out)
    | some (r, rest) => (runF k (exec { s with stk := rest } r).2).map fun x => ((exec { s with stk := rest } r).1 :: x.1, x.2)
/-! ### what holds of a machine's state -/
def okV (i : Int) : Prop := 0 ≤ i ∧ i ≤ 255
structure okM (ls : List LD) (s : Mc) : Prop where
  env : ∀ p ∈ s.env, okV p.2
  mem : ∀ l, ∀ i ∈ s.mem l, okV i
  len : ∀ d ∈ ls, (s.mem d.nm).length = d.cells.toNat
  stk : ∀ r ∈ s.stk, ∃ k, okRow (ls.map LD.nm) k r
theorem bitAnd_nat (a b : Nat) : Builtin.bitAnd a b = ((a &&& b : Nat) : Int) := rfl
theorem bitNot_neg (n : Nat) : decide (0 ≤ Builtin.bitNot (n : Int)) = false := decide_eq_false (by unfold Builtin.bitNot; omega)
theorem bitNot_not (n : Nat) : (Builtin.bitNot (Builtin.bitNot (n : Int))).toNat = n := by unfold Builtin.bitNot; omega
theorem bitOr_nat (a b : Nat) : Builtin.bitOr (a : Int) (b : Int) = ((a ||| b : Nat) : Int) := by
  have e : Builtin.bitAnd (Builtin.bitNot (a : Int)) (Builtin.bitNot (b : Int)) = Builtin.bitNot ((a ||| b : Nat) : Int) := by
    unfold Builtin.bitAnd
    rw [bitNot_neg, bitNot_neg]
    show Builtin.bitNot (((Builtin.bitNot (Builtin.bitNot (a : Int))).toNat ||| (Builtin.bitNot (Builtin.bitNot (b : Int))).toNat : Nat) : Int) = _
    rw [bitNot_not, bitNot_not]
  unfold Builtin.bitOr
  rw [e]
  unfold Builtin.bitNot
  omega
theorem okV_nat {i : Int} (h : okV i) : ∃ n : Nat, i = n ∧ n < 2 ^ 8 := ⟨i.toNat, (Int.toNat_of_nonneg h.1).symm, by have := h.1; have := h.2; omega⟩
theorem getE_ok {e : EnvM} (h : ∀ p ∈ e, okV p.2) (x : Str) : okV ((getE e x).getD 0) := by
  unfold getE
  cases q : e.find? fun p => decide (p.1 = x) with
  | none => exact ⟨Int.le_refl 0, by decide⟩
  | some p => exact h p (List.mem_of_find?_eq_some q)
theorem wor_ok {e : EnvM} (h : ∀ p ∈ e, okV p.2) {a : Opd} (ha : okO a) : okV (wor e a) := by
  cases a with
  | n i => exact ha
  | s x => exact getE_ok h x
theorem putE_ok {e : EnvM} (h : ∀ p ∈ e, okV p.2) {x : Str} {i : Int} (hi : okV i) : ∀ p ∈ putE e x i, okV p.2 := by
  unfold putE
  split
  · intro p m
    obtain ⟨q, mq, e⟩ := List.mem_map.mp m
    subst e
    by_cases c : q.1 = x
    · rw [if_pos c]
      exact hi
    · rw [if_neg c]
      exact h q mq
  · intro p m
    rcases List.mem_append.mp m with m | m
    · exact h p m
    · rw [List.mem_singleton.mp m]
      exact hi
theorem deed_ok {d : Str} {a b : Int} (ha : okV a) (hb : okV b) : okV (deed d a b) := by
  obtain ⟨n, rfl, hn⟩ := okV_nat ha
  obtain ⟨m, rfl, hm⟩ := okV_nat hb
  have hn' : n < 256 := hn
  have nat : ∀ k : Nat, k < 2 ^ 8 → okV (k : Int) := fun k hk => ⟨Int.natCast_nonneg k, by have : k < 256 := hk; omega⟩
  have md : ∀ i : Int, okV (i % 256) := fun i => ⟨Int.emod_nonneg i (by decide), by have := Int.emod_lt_of_pos i (show (0 : Int) < 256 by decide); omega⟩
  unfold deed
  split
  · split <;> (constructor <;> decide)
  split
  · split <;> (constructor <;> decide)
  split
  · rw [Int.toNat_natCast]
    have e : ((n : Int) / 2 ^ m) = ((n / 2 ^ m : Nat) : Int) := by
      rw [Int.natCast_ediv]
      norm_cast
    rw [e]
    exact nat _ (Nat.lt_of_le_of_lt (Nat.div_le_self _ _) hn)
  split
  · exact nat _ (Nat.lt_of_le_of_lt Nat.and_le_left hn)
  split
  · rw [bitOr_nat]
    exact nat _ (Nat.or_lt_two_pow hn hm)
  split
  · have e : Builtin.bitXor (n : Int) (m : Int) = ((n ||| m : Nat) : Int) - ((n &&& m : Nat) : Int) := by
      unfold Builtin.bitXor
      rw [bitOr_nat, bitAnd_nat]
    rw [e]
    have h1 : n &&& m ≤ n := Nat.and_le_left
    have h2 : n ≤ n ||| m := Nat.left_le_or
    have h3 : n ||| m < 256 := Nat.or_lt_two_pow (n := 8) hn hm
    constructor <;> omega
  split
  · exact md _
  split
  · exact md _
  · exact md _
theorem memGet_ok {m : Str → List Int} (h : ∀ l, ∀ i ∈ m l, okV i) (c : Cel) : okV (memGet m c) := by
  cases c with
  | none => exact ⟨Int.le_refl (0 : Int), show (0 : Int) ≤ 255 by decide⟩
  | some p =>
    show okV ((m p.1).getD p.2 0)
    rw [List.getD_eq_getElem?_getD]
    cases q : (m p.1)[p.2]? with
    | none => exact ⟨Int.le_refl 0, by decide⟩
    | some i => exact h _ _ (List.mem_of_getElem? q)
theorem memSet_len {m : Str → List Int} {c : Cel} {v : Int} (l : Str) : (memSet m c v l).length = (m l).length := by
  cases c with
  | none => rfl
  | some p =>
    show (if l = p.1 then (m p.1).set p.2 v else m l).length = _
    by_cases q : l = p.1
    · rw [if_pos q, List.length_set, q]
    · rw [if_neg q]
theorem memSet_ok {m : Str → List Int} (h : ∀ l, ∀ i ∈ m l, okV i) {c : Cel} {v : Int} (hv : okV v) : ∀ l, ∀ i ∈ memSet m c v l, okV i := by
  intro l i mi
  cases c with
  | none => exact h l i mi
  | some p =>
    have mi : i ∈ (if l = p.1 then (m p.1).set p.2 v else m l) := mi
    by_cases q : l = p.1
    · rw [if_pos q] at mi
      rcases List.mem_or_eq_of_mem_set mi with a | a
      · exact h _ i a
      · rw [a]
        exact hv
    · rw [if_neg q] at mi
      exact h l i mi
theorem due_some : ∀ {s : List Row} {r : Row} {t : List Row}, due s = some (r, t) → r ∈ s ∧ (∀ q ∈ t, q ∈ s) ∧ t.length < s.length ∧ (∀ a n b, r = .whl a n b → 0 < n)
  | [], _, _, h => by cases h
  | .whl a n b :: s, r, t, h => by
    have h : (if 0 < n then some (Row.whl a n b, s) else due s) = some (r, t) := h
    by_cases c : 0 < n
    · rw [if_pos c] at h
      cases h
      exact ⟨List.mem_cons_self, fun q m => List.mem_cons_of_mem _ m, Nat.lt_succ_self _, fun _ _ _ e => by cases e; exact c⟩
    · rw [if_neg c] at h
      obtain ⟨a1, a2, a3, a4⟩ := due_some h
      exact ⟨List.mem_cons_of_mem _ a1, fun q m => List.mem_cons_of_mem _ (a2 q m), Nat.lt_succ_of_lt a3, a4⟩
  | .set .. :: s, r, t, h => by
    cases h
    exact ⟨List.mem_cons_self, fun q m => List.mem_cons_of_mem _ m, Nat.lt_succ_self _, fun _ _ _ e => by cases e⟩
  | .get .. :: s, r, t, h => by
    cases h
    exact ⟨List.mem_cons_self, fun q m => List.mem_cons_of_mem _ m, Nat.lt_succ_self _, fun _ _ _ e => by cases e⟩
  | .put .. :: s, r, t, h => by
    cases h
    exact ⟨List.mem_cons_self, fun q m => List.mem_cons_of_mem _ m, Nat.lt_succ_self _, fun _ _ _ e => by cases e⟩
  | .pick .. :: s, r, t, h => by
    cases h
    exact ⟨List.mem_cons_self, fun q m => List.mem_cons_of_mem _ m, Nat.lt_succ_self _, fun _ _ _ e => by cases e⟩
  | .lt .. :: s, r, t, h => by
    cases h
    exact ⟨List.mem_cons_self, fun q m => List.mem_cons_of_mem _ m, Nat.lt_succ_self _, fun _ _ _ e => by cases e⟩
  | .ite .. :: s, r, t, h => by
    cases h
    exact ⟨List.mem_cons_self, fun q m => List.mem_cons_of_mem _ m, Nat.lt_succ_self _, fun _ _ _ e => by cases e⟩
/-- a row of the stack that is due -/
def okD1 (ls : List LD) (s : Mc) (r : Row) : Prop := okM ls s ∧ (∃ k, okRow (ls.map LD.nm) k r) ∧ ∀ a n b, r = .whl a n b → 0 < n
theorem okM.due {ls : List LD} {s : Mc} {r : Row} {t : List Row} (h : okM ls s) (e : due s.stk = some (r, t)) : okD1 ls { s with stk := t } r := by
  obtain ⟨a1, a2, a3, a4⟩ := due_some e
  exact ⟨⟨h.env, h.mem, h.len, fun q m => h.stk q (a2 q m)⟩, h.stk r a1, a4⟩
theorem okRows.list {ls : List Str} {k : Nat} {rs : Rows} (h : okRows ls k rs) : ∀ r ∈ rs.list, ∃ k, okRow ls k r := fun _ m => ⟨k, okRows.mem h m⟩
theorem exec_ok {ls : List LD} {s : Mc} {r : Row} (h : okD1 ls s r) : okM ls (exec s r).2 := by
  obtain ⟨m, ⟨k, ok⟩, n0⟩ := h
  cases r with
  | set x d a b => exact ⟨putE_ok m.env (deed_ok (wor_ok m.env ok.2.2.1) (wor_ok m.env ok.2.2.2)), m.mem, m.len, m.stk⟩
  | get x l a => exact ⟨putE_ok m.env (memGet_ok m.mem _), m.mem, m.len, m.stk⟩
  | put l a b => exact ⟨m.env, memSet_ok m.mem (wor_ok m.env ok.2.2), fun d md => (memSet_len _).trans (m.len d md), m.stk⟩
  | pick x a b c =>
    refine ⟨putE_ok m.env ?_, m.mem, m.len, m.stk⟩
    split
    · exact wor_ok m.env ok.2.2.2
    · exact wor_ok m.env ok.2.2.1
  | lt a => exact ⟨m.env, m.mem, m.len, m.stk⟩
  | ite a t e =>
    obtain ⟨_, _, _, _, h3, h4⟩ := ok
    refine ⟨m.env, m.mem, m.len, fun q mq => ?_⟩
    rcases List.mem_append.mp mq with z | z
    · split at z
      · exact okRows.list h4 q z
      · exact okRows.list h3 q z
    · exact m.stk q z
  | whl a n b =>
    have n1 := n0 a n b rfl
    obtain ⟨h0, h1, h2, h3, h4, h5⟩ := ok
    refine ⟨m.env, m.mem, m.len, fun q mq => ?_⟩
    have mq : q ∈ (if wor s.env a = 0 then s.stk else b.list ++ .whl a (n - 1) b :: s.stk) := mq
    split at mq
    · exact m.stk q mq
    · rcases List.mem_append.mp mq with z | z
      · exact okRows.list h5 q z
      · rcases List.mem_cons.mp z with z | z
        · rw [z]
          exact ⟨k, h0, h1, by omega, by omega, h4, h5⟩
        · exact m.stk q z
/-! ### how large it grows -/
structure Fz (k : Nat) (s : Mc) : Prop where
  stk : s.stk.length + 3 * k ≤ 2990
  env : s.env.length + k ≤ 1000
  out : s.out.length + k ≤ 1000
theorem okRow.len2 {ls : List Str} {k : Nat} {r : Row} (h : okRow ls k r) : ∀ p ∈ r.parts, p.len ≤ 2 := fun p m => (h.parts m).2.2
theorem Fz.step {ls : List LD} {k : Nat} {s : Mc} {r : Row} {t : List Row} (f : Fz (k + 1) s) (e : due s.stk = some (r, t)) (ok : okM ls s) : Fz k (exec { s with stk := t } r).2 := by
  obtain ⟨a1, a2, a3, a4⟩ := due_some e
  obtain ⟨j, okr⟩ := ok.stk r a1
  have l2 := okr.len2
  have h1 := f.stk
  have h2 := f.env
  have h3 := f.out
  cases r with
  | set x d a b => exact ⟨by show t.length + _ ≤ _; omega, by have := putE_len s.env x (deed d (wor s.env a) (wor s.env b)); show (putE s.env x (deed d (wor s.env a) (wor s.env b))).length + _ ≤ _; omega, by show s.out.length + _ ≤ _; omega⟩
  | get x l a => exact ⟨by show t.length + _ ≤ _; omega, by have := putE_len s.env x (memGet s.mem (cel s l a)); show (putE s.env x (memGet s.mem (cel s l a))).length + _ ≤ _; omega, by show s.out.length + _ ≤ _; omega⟩
  | put l a b => exact ⟨by show t.length + _ ≤ _; omega, by show s.env.length + _ ≤ _; omega, by show s.out.length + _ ≤ _; omega⟩
  | pick x a b c => exact ⟨by show t.length + _ ≤ _; omega, by have := putE_len s.env x (if wor s.env a = 0 then wor s.env c else wor s.env b); show (putE s.env x (if wor s.env a = 0 then wor s.env c else wor s.env b)).length + _ ≤ _; omega, by show s.out.length + _ ≤ _; omega⟩
  | lt a => exact ⟨by show t.length + _ ≤ _; omega, by show s.env.length + _ ≤ _; omega, by show (s.out ++ [_]).length + _ ≤ _; rw [List.length_append, List.length_singleton]; omega⟩
  | ite a tt ee =>
    have p1 := l2 tt (by simp [Row.parts])
    have p2 := l2 ee (by simp [Row.parts])
    refine ⟨?_, by show s.env.length + _ ≤ _; omega, by show s.out.length + _ ≤ _; omega⟩
    show ((if wor s.env a = 0 then ee.list else tt.list) ++ t).length + _ ≤ _
    rw [List.length_append]
    split <;> rw [Rows.list_len] <;> omega
  | whl a n b =>
    have p1 := l2 b (by simp [Row.parts])
    refine ⟨?_, by show s.env.length + _ ≤ _; omega, by show s.out.length + _ ≤ _; omega⟩
    show (if wor s.env a = 0 then t else b.list ++ .whl a (n - 1) b :: t).length + _ ≤ _
    split
    · omega
    · rw [List.length_append, Rows.list_len, List.length_cons]
      omega
theorem runF_len : ∀ {k : Nat} {s : Mc} {cs : List Cel} {os : List Int}, runF k s = some (cs, os) → cs.length ≤ k
  | 0, _, _, _, h => by cases h
  | k + 1, s, cs, os, h => by
    have h : (match due s.stk with
      | none => some ([], s.out)
      | some (r, rest) => (runF k (exec { s with stk := rest } r).2).map fun x => ((exec { s with stk := rest } r).1 :: x.1, x.2)) = some (cs, os) := h
    cases e : due s.stk with
    | none =>
      rw [e] at h
      cases h
      exact Nat.zero_le _
    | some p =>
      obtain ⟨r, rest⟩ := p
      rw [e] at h
      obtain ⟨⟨cs2, os2⟩, h2, e2⟩ := Option.map_eq_some_iff.mp h
      cases e2
      exact Nat.succ_le_succ (runF_len h2)
/-! ### cells in a row -/
def firstOf : List LD → Int → Str → Option Int
  | [], _, _ => none
  | d :: r, f, l => if d.nm = l then some (f + d.em) else firstOf r (f + d.em + d.cells) l
def flat (ls : List LD) (m : Str → List Int) : List Int := ls.flatMap fun d => List.replicate d.em.toNat 0 ++ m d.nm
/-- the place of a cell -/
def plc (ls : List LD) : Cel → Option Int
  | none => none
  | some (l, i) => (firstOf ls 0 l).map (· + (i : Int))
theorem flatMap_eq {α β : Type} {f g : α → List β} : ∀ {xs : List α}, (∀ x ∈ xs, f x = g x) → xs.flatMap f = xs.flatMap g
  | [], _ => rfl
  | x :: xs, h => by
    rw [List.flatMap_cons, List.flatMap_cons, h x List.mem_cons_self, flatMap_eq fun y m => h y (List.mem_cons_of_mem _ m)]
theorem flat_at : ∀ {ls : List LD} {m : Str → List Int} {f : Int} {l : Str} {i : Nat}, (∀ d ∈ ls, 0 ≤ d.em ∧ 0 ≤ d.cells ∧ (m d.nm).length = d.cells.toNat) → l ∈ ls.map LD.nm → i < (m l).length →
    ∃ p : Nat, firstOf ls f l = some (f + p) ∧ (flat ls m)[p + i]? = (m l)[i]? ∧ ∀ v, (ls.map LD.nm).Nodup → flat ls (memSet m (some (l, i)) v) = (flat ls m).set (p + i) v
  | [], m, f, l, i, h, hl, hi => by cases hl
  | d :: ls, m, f, l, i, h, hl, hi => by
    obtain ⟨e0, c0, len⟩ := h d List.mem_cons_self
    by_cases c : d.nm = l
    · refine ⟨d.em.toNat, ?_, ?_, fun v nd => ?_⟩
      · show (if d.nm = l then some (f + d.em) else _) = _
        rw [if_pos c, Int.toNat_of_nonneg e0]
      · show ((List.replicate d.em.toNat 0 ++ m d.nm) ++ flat ls m)[_]? = _
        rw [List.append_assoc, List.getElem?_append_right (by rw [List.length_replicate]; omega), List.length_replicate, Nat.add_sub_cancel_left, List.getElem?_append_left (by rw [c]; exact hi), c]
      · show (List.replicate d.em.toNat 0 ++ (if d.nm = l then (m l).set i v else m d.nm)) ++ flat ls (memSet m (some (l, i)) v) = ((List.replicate d.em.toNat 0 ++ m d.nm) ++ flat ls m).set _ v
        have rest : flat ls (memSet m (some (l, i)) v) = flat ls m := by
          unfold flat
          refine flatMap_eq fun d' md => ?_
          show _ ++ (if d'.nm = l then (m l).set i v else m d'.nm) = _
          rw [if_neg]
          intro z
          have nd := List.nodup_cons.mp nd
          exact nd.1 (by rw [c, ← z]; exact List.mem_map_of_mem md)
        rw [if_pos c, rest, List.append_assoc, List.append_assoc, List.set_append_right _ _ (by rw [List.length_replicate]; omega), List.length_replicate, Nat.add_sub_cancel_left, List.set_append_left _ _ (by rw [c]; exact hi), c]
    · have hl' : l ∈ ls.map LD.nm := (List.mem_cons.mp hl).resolve_left fun z => c z.symm
      obtain ⟨p, a1, a2, a3⟩ := flat_at (f := f + d.em + d.cells) (i := i) (fun d' m' => h d' (List.mem_cons_of_mem _ m')) hl' hi
      refine ⟨d.em.toNat + d.cells.toNat + p, ?_, ?_, fun v nd => ?_⟩
      · show (if d.nm = l then some (f + d.em) else firstOf ls (f + d.em + d.cells) l) = _
        rw [if_neg c, a1]
        congr 1
        omega
      · show ((List.replicate d.em.toNat 0 ++ m d.nm) ++ flat ls m)[_]? = _
        rw [List.getElem?_append_right (by rw [List.length_append, List.length_replicate, len]; omega), ← a2]
        congr 1
        rw [List.length_append, List.length_replicate, len]
        omega
      · show (List.replicate d.em.toNat 0 ++ (if d.nm = l then (m l).set i v else m d.nm)) ++ flat ls (memSet m (some (l, i)) v) = ((List.replicate d.em.toNat 0 ++ m d.nm) ++ flat ls m).set _ v
        rw [if_neg c, a3 v (List.nodup_cons.mp nd).2, List.set_append_right _ _ (by rw [List.length_append, List.length_replicate, len]; omega)]
        congr 2
        rw [List.length_append, List.length_replicate, len]
        omega
end NW
/-! ## How nodes, handings, runners lie in a heap; what is promised of the program's defs -/
namespace NW
open PySem PySem.Spec PyProof.Rows L2
mutual
def NodeAt (H : Hp) : Row → V → Prop
  | .ite a t e, v => ∃ p i vr pp v1 v2, v = .ref p ∧ H p = some (.tup [.int i, vr, .ref pp]) ∧ RowAt H (.ite a t e) vr ∧ H pp = some (.tup [v1, v2]) ∧ NodesAt H t v1 ∧ NodesAt H e v2
  | .whl a n b, v => ∃ p i vr pp v1, v = .ref p ∧ H p = some (.tup [.int i, vr, .ref pp]) ∧ RowAt H (.whl a n b) vr ∧ H pp = some (.tup [v1]) ∧ NodesAt H b v1
  | .set x d a b, v => ∃ p i vr pp, v = .ref p ∧ H p = some (.tup [.int i, vr, .ref pp]) ∧ RowAt H (.set x d a b) vr ∧ H pp = some (.tup [])
  | .get x l a, v => ∃ p i vr pp, v = .ref p ∧ H p = some (.tup [.int i, vr, .ref pp]) ∧ RowAt H (.get x l a) vr ∧ H pp = some (.tup [])
  | .put l a b, v => ∃ p i vr pp, v = .ref p ∧ H p = some (.tup [.int i, vr, .ref pp]) ∧ RowAt H (.put l a b) vr ∧ H pp = some (.tup [])
  | .pick x a b c, v => ∃ p i vr pp, v = .ref p ∧ H p = some (.tup [.int i, vr, .ref pp]) ∧ RowAt H (.pick x a b c) vr ∧ H pp = some (.tup [])
  | .lt a, v => ∃ p i vr pp, v = .ref p ∧ H p = some (.tup [.int i, vr, .ref pp]) ∧ RowAt H (.lt a) vr ∧ H pp = some (.tup [])
def NodesAt (H : Hp) : Rows → V → Prop
  | .nil, v => ∃ p, v = .ref p ∧ H p = some (.tup [])
  | .cons r rs, v => ∃ p w ws, v = .ref p ∧ H p = some (.tup (w :: ws)) ∧ NodeAt H r w ∧ NodesL H rs ws
def NodesL (H : Hp) : Rows → List V → Prop
  | .nil, vs => vs = []
  | .cons r rs, vs => ∃ w ws, vs = w :: ws ∧ NodeAt H r w ∧ NodesL H rs ws
end
/-- a row at v, its node's parts at q -/
def PartsN (H : Hp) : Row → List V → Prop
  | .ite _ t e, ws => ∃ v1 v2, ws = [v1, v2] ∧ NodesAt H t v1 ∧ NodesAt H e v2
  | .whl _ _ b, ws => ∃ v1, ws = [v1] ∧ NodesAt H b v1
  | _, ws => ws = []
theorem nodeAt_iff {H : Hp} {r : Row} {v : V} : NodeAt H r v ↔ ∃ p i vr pp ws, v = .ref p ∧ H p = some (.tup [.int i, vr, .ref pp]) ∧ RowAt H r vr ∧ H pp = some (.tup ws) ∧ PartsN H r ws := by
  cases r with
  | ite a t e =>
    constructor
    · rintro ⟨p, i, vr, pp, v1, v2, e, h1, h2, h3, h4, h5⟩
      exact ⟨p, i, vr, pp, _, e, h1, h2, h3, v1, v2, rfl, h4, h5⟩
    · rintro ⟨p, i, vr, pp, ws, e, h1, h2, h3, v1, v2, rfl, h4, h5⟩
      exact ⟨p, i, vr, pp, v1, v2, e, h1, h2, h3, h4, h5⟩
  | whl a n b =>
    constructor
    · rintro ⟨p, i, vr, pp, v1, e, h1, h2, h3, h4⟩
      exact ⟨p, i, vr, pp, _, e, h1, h2, h3, v1, rfl, h4⟩
    · rintro ⟨p, i, vr, pp, ws, e, h1, h2, h3, v1, rfl, h4⟩
      exact ⟨p, i, vr, pp, v1, e, h1, h2, h3, h4⟩
  | _ =>
    constructor
    · rintro ⟨p, i, vr, pp, e, h1, h2, h3⟩
      exact ⟨p, i, vr, pp, _, e, h1, h2, h3, rfl⟩
    · rintro ⟨p, i, vr, pp, ws, e, h1, h2, h3, rfl⟩
      exact ⟨p, i, vr, pp, e, h1, h2, h3⟩
theorem nodesAt_iff {H : Hp} {rs : Rows} {v : V} : NodesAt H rs v ↔ ∃ p ws, v = .ref p ∧ H p = some (.tup ws) ∧ NodesL H rs ws := by
  cases rs with
  | nil =>
    constructor
    · rintro ⟨p, e, h⟩
      exact ⟨p, _, e, h, rfl⟩
    · rintro ⟨p, ws, e, h, rfl⟩
      exact ⟨p, e, h⟩
  | cons r rs =>
    constructor
    · rintro ⟨p, w, ws, e, h, h1, h2⟩
      exact ⟨p, _, e, h, w, ws, rfl, h1, h2⟩
    · rintro ⟨p, ws, e, h, w, ws', rfl, h1, h2⟩
      exact ⟨p, w, ws', e, h, h1, h2⟩
mutual
theorem NodeAt.ts {H H' : Hp} (s : TS H H') : ∀ {r : Row} {v : V}, NodeAt H r v → NodeAt H' r v
  | .ite a t e, v, h => by
    obtain ⟨p, i, vr, pp, v1, v2, e, h1, h2, h3, h4, h5⟩ := h
    exact ⟨p, i, vr, pp, v1, v2, e, s _ _ h1, h2.ts s, s _ _ h3, h4.ts s, h5.ts s⟩
  | .whl a n b, v, h => by
    obtain ⟨p, i, vr, pp, v1, e, h1, h2, h3, h4⟩ := h
    exact ⟨p, i, vr, pp, v1, e, s _ _ h1, h2.ts s, s _ _ h3, h4.ts s⟩
  | .set .., v, h => by
    obtain ⟨p, i, vr, pp, e, h1, h2, h3⟩ := h
    exact ⟨p, i, vr, pp, e, s _ _ h1, h2.ts s, s _ _ h3⟩
  | .get .., v, h => by
    obtain ⟨p, i, vr, pp, e, h1, h2, h3⟩ := h
    exact ⟨p, i, vr, pp, e, s _ _ h1, h2.ts s, s _ _ h3⟩
  | .put .., v, h => by
    obtain ⟨p, i, vr, pp, e, h1, h2, h3⟩ := h
    exact ⟨p, i, vr, pp, e, s _ _ h1, h2.ts s, s _ _ h3⟩
  | .pick .., v, h => by
    obtain ⟨p, i, vr, pp, e, h1, h2, h3⟩ := h
    exact ⟨p, i, vr, pp, e, s _ _ h1, h2.ts s, s _ _ h3⟩
  | .lt .., v, h => by
    obtain ⟨p, i, vr, pp, e, h1, h2, h3⟩ := h
    exact ⟨p, i, vr, pp, e, s _ _ h1, h2.ts s, s _ _ h3⟩
theorem NodesAt.ts {H H' : Hp} (s : TS H H') : ∀ {rs : Rows} {v : V}, NodesAt H rs v → NodesAt H' rs v
  | .nil, _, h => by
    obtain ⟨p, e, h⟩ := h
    exact ⟨p, e, s _ _ h⟩
  | .cons .., _, h => by
    obtain ⟨p, w, ws, e, h, h1, h2⟩ := h
    exact ⟨p, w, ws, e, s _ _ h, h1.ts s, h2.ts s⟩
theorem NodesL.ts {H H' : Hp} (s : TS H H') : ∀ {rs : Rows} {vs : List V}, NodesL H rs vs → NodesL H' rs vs
  | .nil, _, h => h
  | .cons .., _, h => by
    obtain ⟨w, ws, e, h1, h2⟩ := h
    exact ⟨w, ws, e, h1.ts s, h2.ts s⟩
end
theorem PartsN.ts {H H' : Hp} (s : TS H H') {r : Row} {ws : List V} (h : PartsN H r ws) : PartsN H' r ws := by
  cases r with
  | ite a t e =>
    obtain ⟨v1, v2, e, h1, h2⟩ := h
    exact ⟨v1, v2, e, h1.ts s, h2.ts s⟩
  | whl a n b =>
    obtain ⟨v1, e, h1⟩ := h
    exact ⟨v1, e, h1.ts s⟩
  | _ => exact h
theorem NodesL.pair {H : Hp} : ∀ {rs : Rows} {vs : List V}, NodesL H rs vs → Paired (NodeAt H) rs.list vs
  | .nil, _, h => by rw [h]; exact .nil
  | .cons .., _, h => by
    obtain ⟨w, ws, e, h1, h2⟩ := h
    rw [e]
    exact .cons h1 h2.pair
theorem NodesL.of {H : Hp} : ∀ {rs : Rows} {vs : List V}, Paired (NodeAt H) rs.list vs → NodesL H rs vs
  | .nil, _, .nil => rfl
  | .cons .., _, .cons h t => ⟨_, _, rfl, h, NodesL.of t⟩
/-! ### handings -/
inductive Part where
  | w (i : Int) | cs (ws : List Int)
  deriving DecidableEq
def PartAt (H : Hp) : Part → V → Prop
  | .w i, v => v = .int i
  | .cs ws, v => ∃ p, v = .ref p ∧ H p = some (.tup (ws.map .int))
theorem PartAt.ts {H H' : Hp} (s : TS H H') {x : Part} {v : V} (h : PartAt H x v) : PartAt H' x v := by
  cases x with
  | w i => exact h
  | cs ws =>
    obtain ⟨p, e, h⟩ := h
    exact ⟨p, e, s _ _ h⟩
def longer {α : Type} (found : List (List α)) (some : List α) : List (List α) := found.flatMap fun o => some.map fun x => o ++ [x]
def prodL {α : Type} (os : List (List α)) : List (List α) := os.foldl longer [[]]
def rng (n : Int) : List Int := (List.range n.toNat).map fun i => Int.ofNat i
def tups (many cells : Int) : List (List Int) := prodL (List.replicate cells.toNat (rng many))
def nonown (ls : List LD) : List LD := ls.filter fun d => decide (d.so ≠ "own")
def PD.opts (d : PD) : List Part := (rng d.sz).map .w
def LD.opts (d : LD) : List Part := (tups d.wo d.cells).map .cs
def partsP (p : Prog) : List (Str × List Part) := p.handed.map (fun d => (d.so, d.opts)) ++ (nonown p.lists).map fun d => (d.so, d.opts)
def hands (p : Prog) : List (List Part) := prodL ((partsP p).map (·.2))
def partsK (p : Prog) (k : Str) : List (List Part) := prodL (((partsP p).filter fun x => decide (x.1 = k)).map (·.2))
/-- one handing from its open and its hidden part -/
def weave : List Str → List Part → List Part → Option (List Part)
  | [], _, _ => some []
  | s :: r, o, h => if s = "open" then (match o with
      | [] => none
      | x :: o => (weave r o h).map (x :: ·)) else match h with
      | [] => none
      | x :: h => (weave r o h).map (x :: ·)
def HandAt (H : Hp) (g : List Part) (v : V) : Prop := ∃ p vs, v = .ref p ∧ H p = some (.tup vs) ∧ Paired (PartAt H) g vs
theorem HandAt.ts {H H' : Hp} (s : TS H H') {g : List Part} {v : V} (h : HandAt H g v) : HandAt H' g v := by
  obtain ⟨p, vs, e, h1, h2⟩ := h
  exact ⟨p, vs, e, s _ _ h1, Paired.mapP h2 fun _ _ q => q.ts s⟩
/-- where it starts -/
def envG : List PD → List Part → EnvM → EnvM
  | [], _, e => e
  | d :: r, .w i :: g, e => envG r g (putE e d.nm i)
  | _ :: _, _, e => e
def memG : List LD → List Part → Str → List Int
  | [], _, _ => []
  | d :: r, g, l => if d.so = "own" then (if d.nm = l then List.replicate d.cells.toNat 0 else memG r g l) else match g with
    | .cs ws :: g => if d.nm = l then ws else memG r g l
    | _ => []
def mc0 (p : Prog) (g : List Part) : Mc := ⟨envG p.handed g [], memG p.lists (g.drop p.handed.length), [], p.rows.list⟩
def runP (p : Prog) (g : List Part) : Option (List Cel × List Int) := runF 400 (mc0 p g)
/-- what a handing is -/
inductive GoodL : List LD → List Part → Prop
  | nil : GoodL [] []
  | own {d : LD} {r : List LD} {g : List Part} (h : d.so = "own") (t : GoodL r g) : GoodL (d :: r) g
  | cs {d : LD} {r : List LD} {g : List Part} {ws : List Int} (h : ¬ d.so = "own") (l : ws.length = d.cells.toNat) (b : ∀ i ∈ ws, 0 ≤ i ∧ i < d.wo) (t : GoodL r g) : GoodL (d :: r) (.cs ws :: g)
inductive GoodP : List PD → List LD → List Part → Prop
  | nil {ls : List LD} {g : List Part} (t : GoodL ls g) : GoodP [] ls g
  | w {d : PD} {r : List PD} {ls : List LD} {g : List Part} {i : Int} (b : 0 ≤ i ∧ i < d.sz) (t : GoodP r ls g) : GoodP (d :: r) ls (.w i :: g)
theorem memG_own {d : LD} {r : List LD} {g : List Part} {l : Str} (h : d.so = "own") : memG (d :: r) g l = if d.nm = l then List.replicate d.cells.toNat 0 else memG r g l := if_pos h
theorem memG_cs {d : LD} {r : List LD} {g : List Part} {ws : List Int} {l : Str} (h : ¬ d.so = "own") : memG (d :: r) (.cs ws :: g) l = if d.nm = l then ws else memG r g l := if_neg h
theorem memG_len {ls : List LD} {g : List Part} (h : GoodL ls g) : (ls.map LD.nm).Nodup → ∀ d ∈ ls, (memG ls g d.nm).length = d.cells.toNat := by
  induction h with
  | nil => exact fun _ _ m => nomatch m
  | @own d r g h t ih =>
    intro nd d' m
    have nd := List.nodup_cons.mp nd
    show (if d.so = "own" then (if d.nm = d'.nm then List.replicate d.cells.toNat 0 else memG r g d'.nm) else _).length = _
    rw [if_pos h]
    rcases List.mem_cons.mp m with m | m
    · rw [m, if_pos rfl, List.length_replicate]
    · rw [if_neg fun e => nd.1 (by rw [e]; exact List.mem_map_of_mem m)]
      exact ih nd.2 d' m
  | @cs d r g ws h l b t ih =>
    intro nd d' m
    have nd := List.nodup_cons.mp nd
    show (if d.so = "own" then _ else if d.nm = d'.nm then ws else memG r g d'.nm).length = _
    rw [if_neg h]
    rcases List.mem_cons.mp m with m | m
    · rw [m, if_pos rfl, l]
    · rw [if_neg fun e => nd.1 (by rw [e]; exact List.mem_map_of_mem m)]
      exact ih nd.2 d' m
theorem memG_ok {ls : List LD} {g : List Part} (h : GoodL ls g) : (∀ d ∈ ls, d.wo ≤ 256) → ∀ l, ∀ i ∈ memG ls g l, okV i := by
  induction h with
  | nil => exact fun _ _ _ m => nomatch m
  | @own d r g h t ih =>
    intro hw l i m
    rw [memG_own h] at m
    split at m
    · rw [(List.mem_replicate.mp m).2]
      exact ⟨Int.le_refl (0 : Int), show (0 : Int) ≤ 255 by decide⟩
    · exact ih (fun d m => hw d (List.mem_cons_of_mem _ m)) l i m
  | @cs d r g ws h l b t ih =>
    intro hw k i m
    have m : i ∈ (if d.so = "own" then (if d.nm = k then List.replicate d.cells.toNat 0 else memG r (.cs ws :: g) k) else if d.nm = k then ws else memG r g k) := m
    rw [if_neg h] at m
    split at m
    · have := b i m
      have := hw d List.mem_cons_self
      exact ⟨by omega, by omega⟩
    · exact ih (fun d m => hw d (List.mem_cons_of_mem _ m)) k i m
abbrev Good (p : Prog) (g : List Part) : Prop := GoodP p.handed p.lists g
/-! ### the runner -/
def optV : Option Int → V
  | none => .non
  | some i => .int i
def begK : List LD → Int → List (Key × V)
  | [], _ => []
  | d :: r, f => ((Sum.inr d.nm : Key), V.int (f + d.em)) :: begK r (f + d.em + d.cells)
def manyK (ls : List LD) : List (Key × V) := ls.map fun d => ((Sum.inr d.nm : Key), V.int d.cells)
theorem atI_nat {xs : List V} {p : Nat} {v : V} (h : xs[p]? = some v) : atI xs (p : Int) = some v := by
  have hp : p < xs.length := (List.getElem?_eq_some_iff.mp h).1
  unfold atI ixN
  rw [if_pos (Int.natCast_nonneg p)]
  simp [hp, h]
  exact (List.getElem?_eq_some_iff.mp h).2
theorem drop_cons {α : Type} {xs : List α} {i : Nat} {x : α} (e : xs[i]? = some x) : xs.drop i = x :: xs.drop (i + 1) := by
  obtain ⟨hi, ex⟩ := List.getElem?_eq_some_iff.mp e
  rw [List.drop_eq_getElem_cons hi, ex]
theorem Paired.snoc {α β : Type} {F : α → β → Prop} : ∀ {xs : List α} {x : α} {ws : List β}, Paired F (xs ++ [x]) ws → ∃ us v, ws = us ++ [v] ∧ Paired F xs us ∧ F x v
  | [], x, _, .cons h .nil => ⟨[], _, rfl, .nil, h⟩
  | y :: xs, x, _, .cons h t => by
    obtain ⟨us, v, e, a, b⟩ := Paired.snoc t
    exact ⟨_ :: us, v, by rw [e]; rfl, .cons h a, b⟩
theorem Paired.rev {α β : Type} {F : α → β → Prop} : ∀ {xs : List α} {ws : List β}, Paired F xs ws → Paired F xs.reverse ws.reverse
  | _, _, .nil => .nil
  | _, _, .cons h t => by
    rw [List.reverse_cons, List.reverse_cons]
    exact paired_app (Paired.rev t) (.cons h .nil)
/-- a row's tuple begins with its word -/
def Row.word : Row → Str
  | .set .. => "set"
  | .get .. => "get"
  | .put .. => "put"
  | .pick .. => "pick"
  | .lt .. => "let"
  | .ite .. => "if"
  | .whl .. => "while"
theorem RowAt.word {H : Hp} {r : Row} {v : V} (h : RowAt H r v) : ∃ p xs, v = .ref p ∧ H p = some (.tup (.str r.word :: xs)) := by
  cases r with
  | ite a t e =>
    obtain ⟨p, pt, pe, ts, es, e, h, _⟩ := h
    exact ⟨p, _, e, h⟩
  | whl a n b =>
    obtain ⟨p, pb, bs, e, h, _⟩ := h
    exact ⟨p, _, e, h⟩
  | _ =>
    obtain ⟨p, e, h⟩ := h
    exact ⟨p, _, e, h⟩
theorem due_skip {a : Opd} {n : Int} {b : Rows} {s : List Row} (h : ¬ 0 < n) : due (.whl a n b :: s) = due s := if_neg h
theorem due_take {r : Row} {s : List Row} (h : ∀ a n b, r = .whl a n b → 0 < n) : due (r :: s) = some (r, s) := by
  cases r with
  | whl a n b => exact if_pos (h a n b rfl)
  | _ => rfl
theorem valV_beg : ∀ (ls : List LD) (f : Int) (l : Str), valV (begK ls f) (Sum.inr l) = (firstOf ls f l).map V.int
  | [], _, _ => rfl
  | d :: r, f, l => by
    show valV (((Sum.inr d.nm : Key), V.int (f + d.em)) :: begK r (f + d.em + d.cells)) (Sum.inr l) = (if d.nm = l then some (f + d.em) else firstOf r (f + d.em + d.cells) l).map V.int
    by_cases c : d.nm = l
    · rw [valV_pos (congrArg Sum.inr c), if_pos c]
      rfl
    · rw [valV_neg (fun z => c (Sum.inr.inj z)), if_neg c]
      exact valV_beg r _ l
theorem valV_many : ∀ (ls : List LD) (l : Str), l ∈ ls.map LD.nm → ∃ d ∈ ls, d.nm = l ∧ valV (manyK ls) (Sum.inr l) = some (.int d.cells)
  | [], _, h => nomatch h
  | d :: r, l, h => by
    show ∃ d' ∈ d :: r, d'.nm = l ∧ valV (((Sum.inr d.nm : Key), V.int d.cells) :: manyK r) (Sum.inr l) = _
    by_cases c : d.nm = l
    · exact ⟨d, List.mem_cons_self, c, valV_pos (congrArg Sum.inr c)⟩
    · obtain ⟨d', m, e, v⟩ := valV_many r l ((List.mem_cons.mp h).resolve_left fun z => c z.symm)
      exact ⟨d', List.mem_cons_of_mem _ m, e, by rw [valV_neg (fun z => c (Sum.inr.inj z))]; exact v⟩
theorem firstOf_some : ∀ (ls : List LD) (f : Int) (l : Str), l ∈ ls.map LD.nm → ∃ p, firstOf ls f l = some p
  | [], _, _, h => nomatch h
  | d :: r, f, l, h => by
    by_cases c : d.nm = l
    · exact ⟨_, if_pos c⟩
    · obtain ⟨p, e⟩ := firstOf_some r (f + d.em + d.cells) l ((List.mem_cons.mp h).resolve_left fun z => c z.symm)
      exact ⟨p, (if_neg c).trans e⟩
structure RunA where
  r : Addr
  dx : Addr
  D : Addr
  C : Addr
  G : Addr
  M : Addr
  L : Addr
  W : Addr
structure RunAt (cR : Addr) (Hb H : Hp) (a : RunA) (ls : List LD) (s : Mc) : Prop where
  sm : Same Hb H
  hr : H a.r = some (.ins cR a.dx [("held", .ref a.D), ("cells", .ref a.C), ("begins", .ref a.G), ("many", .ref a.M), ("lets", .ref a.L), ("waiting", .ref a.W)])
  hD : H a.D = some (.dK (envK s.env))
  hC : H a.C = some (.lst ((flat ls s.mem).map .int))
  hG : H a.G = some (.dK (begK ls 0))
  hM : H a.M = some (.dK (manyK ls))
  hL : H a.L = some (.lst (s.out.map .int))
  hW : ∃ ws, H a.W = some (.lst ws) ∧ Paired (NodeAt H) s.stk.reverse ws
  fD : Hb a.D = none
  fC : Hb a.C = none
  fL : Hb a.L = none
  fW : Hb a.W = none
  dG : a.D ≠ a.G
  dM : a.D ≠ a.M
  cL : a.C ≠ a.L
  cW : a.C ≠ a.W
  lW : a.L ≠ a.W
section
variable {cR : Addr} {Hb H H' : Hp} {a : RunA} {ls : List LD} {s : Mc}
theorem RunAt.same (h : RunAt cR Hb H a ls s) (t : Same H H') : RunAt cR Hb H' a ls s := by
  obtain ⟨ws, h1, h2⟩ := h.hW
  exact ⟨h.sm.trans t, t _ _ h.hr, t _ _ h.hD, t _ _ h.hC, t _ _ h.hG, t _ _ h.hM, t _ _ h.hL, ⟨ws, t _ _ h1, Paired.mapP h2 fun _ _ q => q.ts (same_ts t)⟩, h.fD, h.fC, h.fL, h.fW, h.dG, h.dM, h.cL, h.cW, h.lW⟩
theorem RunAt.nw {p : Addr} {o : HO} (h : RunAt cR Hb H a ls s) (n : H p = none) : RunAt cR Hb (upd H p o) a ls s := h.same (same_nw (Same.refl _) n)
theorem RunAt.putD (h : RunAt cR Hb H a ls s) (e : EnvM) : RunAt cR Hb (upd H a.D (.dK (envK e))) a ls { s with env := e } ∧ TS H (upd H a.D (.dK (envK e))) := by
  obtain ⟨ws, h1, h2⟩ := h.hW
  have t : TS H (upd H a.D (.dK (envK e))) := ts_mut (TS.refl _) h.hD (fun _ z => nomatch z)
  have k : ∀ {b : Addr} {u : HO}, H b = some u → u ≠ .dK (envK s.env) → upd H a.D (.dK (envK e)) b = some u := fun hb ne => upd_mut (ne_of hb h.hD ne) hb
  refine ⟨⟨same_mut h.sm h.fD, k h.hr (fun z => nomatch z), upd_same, k h.hC (fun z => nomatch z), upd_mut (Ne.symm h.dG) h.hG, upd_mut (Ne.symm h.dM) h.hM, k h.hL (fun z => nomatch z), ⟨ws, k h1 (fun z => nomatch z), Paired.mapP h2 fun _ _ q => q.ts t⟩, h.fD, h.fC, h.fL, h.fW, h.dG, h.dM, h.cL, h.cW, h.lW⟩, t⟩
theorem RunAt.setC (h : RunAt cR Hb H a ls s) {m : Str → List Int} {xs : List V} (e : xs = (flat ls m).map .int) : RunAt cR Hb (upd H a.C (.lst xs)) a ls { s with mem := m } ∧ TS H (upd H a.C (.lst xs)) := by
  obtain ⟨ws, h1, h2⟩ := h.hW
  have t : TS H (upd H a.C (.lst xs)) := ts_mut (TS.refl _) h.hC (fun _ z => nomatch z)
  have k : ∀ {b : Addr} {u : HO}, H b = some u → (∀ zs, u ≠ .lst zs) → upd H a.C (.lst xs) b = some u := fun hb ne => upd_mut (ne_of hb h.hC (ne _)) hb
  refine ⟨⟨same_mut h.sm h.fC, k h.hr (fun _ z => nomatch z), k h.hD (fun _ z => nomatch z), by rw [e]; exact upd_same, k h.hG (fun _ z => nomatch z), k h.hM (fun _ z => nomatch z), upd_mut (Ne.symm h.cL) h.hL, ⟨ws, upd_mut (Ne.symm h.cW) h1, Paired.mapP h2 fun _ _ q => q.ts t⟩, h.fD, h.fC, h.fL, h.fW, h.dG, h.dM, h.cL, h.cW, h.lW⟩, t⟩
theorem RunAt.setL (h : RunAt cR Hb H a ls s) {o : List Int} {xs : List V} (e : xs = o.map .int) : RunAt cR Hb (upd H a.L (.lst xs)) a ls { s with out := o } ∧ TS H (upd H a.L (.lst xs)) := by
  obtain ⟨ws, h1, h2⟩ := h.hW
  have t : TS H (upd H a.L (.lst xs)) := ts_mut (TS.refl _) h.hL (fun _ z => nomatch z)
  have k : ∀ {b : Addr} {u : HO}, H b = some u → (∀ zs, u ≠ .lst zs) → upd H a.L (.lst xs) b = some u := fun hb ne => upd_mut (ne_of hb h.hL (ne _)) hb
  refine ⟨⟨same_mut h.sm h.fL, k h.hr (fun _ z => nomatch z), k h.hD (fun _ z => nomatch z), upd_mut h.cL h.hC, k h.hG (fun _ z => nomatch z), k h.hM (fun _ z => nomatch z), by rw [e]; exact upd_same, ⟨ws, upd_mut (Ne.symm h.lW) h1, Paired.mapP h2 fun _ _ q => q.ts t⟩, h.fD, h.fC, h.fL, h.fW, h.dG, h.dM, h.cL, h.cW, h.lW⟩, t⟩
theorem RunAt.setW (h : RunAt cR Hb H a ls s) {st : List Row} {xs : List V} (e : Paired (NodeAt H) st.reverse xs) : RunAt cR Hb (upd H a.W (.lst xs)) a ls { s with stk := st } ∧ TS H (upd H a.W (.lst xs)) := by
  obtain ⟨ws, h1, h2⟩ := h.hW
  have t : TS H (upd H a.W (.lst xs)) := ts_mut (TS.refl _) h1 (fun _ z => nomatch z)
  have k : ∀ {b : Addr} {u : HO}, H b = some u → (∀ zs, u ≠ .lst zs) → upd H a.W (.lst xs) b = some u := fun hb ne => upd_mut (ne_of hb h1 (ne _)) hb
  refine ⟨⟨same_mut h.sm h.fW, k h.hr (fun _ z => nomatch z), k h.hD (fun _ z => nomatch z), upd_mut h.cW h.hC, k h.hG (fun _ z => nomatch z), k h.hM (fun _ z => nomatch z), upd_mut h.lW h.hL, ⟨xs, upd_same, Paired.mapP e fun _ _ q => q.ts t⟩, h.fD, h.fC, h.fL, h.fW, h.dG, h.dM, h.cL, h.cW, h.lW⟩, t⟩
end
/-! ### what is promised -/
def sp_bits_of : Sp := fun vs H Q _ => ∃ i, vs = [.int i] ∧ okV i ∧ ∀ j, Q (.int j) H
def sp_deed_of : Sp := fun vs H Q _ => ∃ (d : Str) (a b : Int), vs = [.str d, .int a, .int b] ∧ okD d ∧ okV a ∧ okV b ∧ ∀ H', Same H H' → Q (.int (deed d a b)) H'
def sp_line_of : Sp := fun vs H Q _ => ∃ c : Option Int, vs = [optV c] ∧ Q (optV (c.map (· / 4))) H
def sp_worth (cR : Addr) : Sp := fun vs H Q _ => ∃ (Hb : Hp) (a : RunA) (ls : List LD) (s : Mc) (o : Opd), vs = [.ref a.r, o.v] ∧ RunAt cR Hb H a ls s ∧ Q (.int (wor s.env o)) H
def sp_cell (cR : Addr) : Sp := fun vs H Q _ => ∃ (Hb : Hp) (a : RunA) (ls : List LD) (s : Mc) (l : Str) (i : Int), vs = [.ref a.r, .str l, .int i] ∧ RunAt cR Hb H a ls s ∧ l ∈ ls.map LD.nm ∧ (∀ d ∈ ls, (s.mem d.nm).length = d.cells.toNat ∧ 0 ≤ d.cells ∧ 0 ≤ d.em) ∧ 0 ≤ i ∧
  Q (optV (plc ls (if i < ((s.mem l).length : Int) then some (l, i.toNat) else none))) H
def sp_push (cR : Addr) : Sp := fun vs H Q _ => ∃ (Hb : Hp) (a : RunA) (ls : List LD) (s : Mc) (rs : Rows) (v : V), vs = [.ref a.r, v] ∧ RunAt cR Hb H a ls s ∧ NodesAt H rs v ∧ s.stk.length ≤ 3000 ∧ rs.len ≤ 2 ∧
  ∀ H', TS H H' → RunAt cR Hb H' a ls { s with stk := rs.list ++ s.stk } → Q .non H'
def sp_next_one (cR : Addr) : Sp := fun vs H Q _ => ∃ (Hb : Hp) (a : RunA) (ls : List LD) (s : Mc), vs = [.ref a.r] ∧ RunAt cR Hb H a ls s ∧ s.stk.length ≤ 3000 ∧ (∀ r ∈ s.stk, ∃ k, okRow (ls.map LD.nm) k r) ∧
  (due s.stk = none → ∀ H', TS H H' → RunAt cR Hb H' a ls { s with stk := [] } → Q .non H') ∧
  (∀ r t, due s.stk = some (r, t) → ∀ H' v, TS H H' → RunAt cR Hb H' a ls { s with stk := t } → NodeAt H' r v → Q v H')
structure okL (ls : List LD) : Prop where
  len : ls.length ≤ 2
  ok : ∀ d ∈ ls, 0 ≤ d.em ∧ d.em ≤ 15 ∧ 1 ≤ d.cells ∧ d.cells ≤ 9
  nd : (ls.map LD.nm).Nodup
  nm : okLs (ls.map LD.nm)
  sm : ∀ d ∈ ls, d.wo = 1 ∨ (d.wo = 2 ∧ d.cells ≤ 2)
def sp_touch (cR : Addr) : Sp := fun vs H Q _ => ∃ (Hb : Hp) (a : RunA) (ls : List LD) (s : Mc) (r : Row) (v : V), vs = [.ref a.r, v] ∧ RunAt cR Hb H a ls s ∧ okL ls ∧ okD1 ls s r ∧ s.env.length ≤ 1000 ∧ RowAt H r v ∧ ((∃ x l o, r = .get x l o) ∨ ∃ l o u, r = .put l o u) ∧
  ∀ H', TS H H' → RunAt cR Hb H' a ls (exec s r).2 → Q (optV (plc ls (exec s r).1)) H'
def sp_done_one (cR : Addr) : Sp := fun vs H Q _ => ∃ (Hb : Hp) (a : RunA) (ls : List LD) (s : Mc) (k : Nat), vs = [.ref a.r] ∧ RunAt cR Hb H a ls s ∧ okL ls ∧ okM ls s ∧ Fz (k + 1) s ∧
  (due s.stk = none → ∀ H', TS H H' → RunAt cR Hb H' a ls { s with stk := [] } → Q .non H') ∧
  (∀ r t, due s.stk = some (r, t) → ∀ H' p i j, TS H H' → RunAt cR Hb H' a ls (exec { s with stk := t } r).2 → H' p = some (.tup [.int i, .int j, optV (plc ls (exec { s with stk := t } r).1)]) → Q (.ref p) H')
def sp_placed (n : Nat) : Sp := fun vs H Q _ => ∃ (rows : Rows) (v : V) (f : Int) (ls : List Str), vs = [v, .int f] ∧ 0 < n ∧ RowsAt H rows v ∧ okRows ls (n - 1) rows ∧ rows.len ≤ 5 ∧ ∀ H' v', Same H H' → NodesAt H' rows v' → Q v' H'
def sp_cell_begins : Sp := fun vs H Q _ => ∃ (p : Prog) (v : V), vs = [v] ∧ ProgAt H p v ∧ okL p.lists ∧ ∀ H' q, Same H H' → H q = none → H' q = some (.dK (begK p.lists 0)) → Q (.ref q) H'
def sp_init (cR : Addr) : Sp := fun vs H Q _ => ∃ (p : Prog) (v : V) (Hb : Hp) (x dx : Addr) (g : List Part) (vg : V), vs = [.ref x, v, vg] ∧ H x = some (.ins cR dx []) ∧ ProgAt H p v ∧ okProg p ∧ okL p.lists ∧ HandAt H g vg ∧ Good p g ∧ Same Hb H ∧ Hb x = none ∧
  ∀ H' a, a.r = x → RunAt cR Hb H' a p.lists (mc0 p g) → Q .non H'
end NW
/-! ## Methods and classes of the text -/
namespace NW
open PySem PySem.Spec PyProof.Rows L2
theorem hu_of {k : Nat} {A : Around} (hr : Room k A) : A.units + 1 < cLine := by
  have := hr.units
  omega
/-- a method of the text -/
structure MetAt (K : PySem.W.Frag) (C : Addr) (m q : Str) (st : Stmt) : Prop where
  ex : ∃ f fd, FunD K m q (defArgs st) (defBody st) (defScope st) [] [] f fd ∧ Cls K C ∧ Meth K C m f
/-- a class with an __init__ of the text -/
structure MakAt (K : PySem.W.Frag) (mg : Str → Option Value) (x : Str) (C : Addr) (q : Str) (st : Stmt) : Prop where
  ex : ∃ f fd, FunD K "__init__" q (defArgs st) (defBody st) (defScope st) [] [] f fd ∧ Mk K C f ∧ mg x = some (.ref C)
section
variable {P : Program} {w : World} {K : PySem.W.Frag} {mg : Str → Option Value} {base : Heap}
abbrev BindM (x q : Str) (st : Stmt) (ps : List Str) : Prop := ∀ (kV doc pm : Value) (an : Option Addr) (cdv ct : Value) (us : List Value), us.length = ps.length → bindArgs (PySem.W.fnOf x q (defArgs st) (defBody st) (defScope st) .none kV doc pm an cdv ct) ⟨us, []⟩ = pure (ps.zip us)
theorem MetAt.met {C : Addr} {m q : Str} {st : Stmt} {N ps : List Str} {k : Nat} {sp : Sp} (D : MetAt K C m q st) (S : FnScope N ps (defScope st)) (hb : BindM m q st ps) (len : ∀ vs H Q E, sp vs H Q E → vs.length = ps.length)
    (body : ∀ (f : Addr) (cdv : Value) (A : Around) (outer : List Env) (s : Shared) (H : Hp) (vs : List V) (Q : VK) (E : XK), Room k (A.deeper (envOfC q (defScope st) s.heap.objs.size f cdv)) → sp vs H Q E →
      ∃ t, PSs (cxOf C8.CX0 P w K mg base N q (defScope st) f cdv A outer s H E).nox (defBody st) t ∧ t { nx := fun _ H' => Q .non H', rt := Q } (start N vs) H) : C8.Met P w K mg base (k + 1) C m sp [] := by
  obtain ⟨f, fd, F, hc, hm⟩ := D.ex
  refine ⟨f, fd, ps, [], hc, hm, F.ok S len fun cdv A outer s H vs Q E hr h => ?_, F.bindsN hb, .nil⟩
  obtain ⟨t, ht, q⟩ := body f cdv A outer s H vs Q E hr h
  exact ⟨t, ht.nox, q⟩
theorem MakAt.mak {x : Str} {C : Addr} {q : Str} {st : Stmt} {N ps : List Str} {k : Nat} {sp : Sp} (D : MakAt K mg x C q st) (S : FnScope N ps (defScope st)) (hb : BindM "__init__" q st ps) (len : ∀ vs H Q E, sp vs H Q E → vs.length = ps.length)
    (body : ∀ (f : Addr) (cdv : Value) (A : Around) (outer : List Env) (s : Shared) (H : Hp) (vs : List V) (Q : VK) (E : XK), Room k (A.deeper (envOfC q (defScope st) s.heap.objs.size f cdv)) → sp vs H Q E →
      ∃ t, PSs (cxOf C8.CX0 P w K mg base N q (defScope st) f cdv A outer s H E).nox (defBody st) t ∧ t { nx := fun _ H' => Q .non H', rt := Q } (start N vs) H) : C8.Mak P w K mg base (k + 1) x C sp [] := by
  obtain ⟨f, fd, F, hM, hm⟩ := D.ex
  refine ⟨f, fd, ps, [], hM, F.ok S len fun cdv A outer s H vs Q E hr h => ?_, hm, F.bindsN hb, .nil⟩
  obtain ⟨t, ht, q⟩ := body f cdv A outer s H vs Q E hr h
  exact ⟨t, ht.nox, q⟩
end
structure RunnerC (K : PySem.W.Frag) (cR : Addr) : Prop where
  cl : Cls K cR
  held : NoAttr K cR "held"
  cells : NoAttr K cR "cells"
  begins : NoAttr K cR "begins"
  many : NoAttr K cR "many"
  lets : NoAttr K cR "lets"
  waiting : NoAttr K cR "waiting"
end NW
/-! ## Rules for classes of the text -/
namespace NW
open PySem PySem.Spec PyProof.Rows L2
/-- a class without an __init__ of its own -/
structure Mk0 (K : PySem.W.Frag) (C : Addr) : Prop where
  makes : PySem.W.makesIn K C = true
  init : PySem.W.findIn K (.ref C) "__init__" = some (some (.builtin "object.__init__"))
  top : PySem.W.mroIn K C (.type "object") = some true
  kp : PySem.W.keepIn K (.ref C) = true
section
variable {X : Cx} {pins : List (Addr × Obj)} {σ : L2.St} {H : Hp} {s : Shared} {Q : VK} {C : Addr}
theorem run_make0 (M : Mk0 X.K C) (I : Inv X pins σ H s) (h : ∀ x dx, H x = none → H dx = none → dx ≠ x → Q (.ref x) (upd (upd H dx (.own x)) x (.ins C dx []))) :
    wpAny (model X.prog X.w) X.A (call (.ref C) []) (EP X pins σ Q) X.xe s := by
  have hq := h (s.heap.objs.size + 1) s.heap.objs.size (I.hok.fresh (Nat.le_succ _)) (I.hok.fresh (Nat.le_refl _)) (Nat.ne_of_lt (Nat.lt_succ_self _))
  have I2 := Inv.made (C := C) I
  refine wpAny_call (make_map0 I.kIn M.makes M.init (fun self => PySem.W.Looks.of_pure (PySem.W.oi_bind self)) ?_)
  have ho := Heap.get?_push_size (s.heap.push PySem.W.emptyDict) (o := PySem.W.instObj C s.heap.objs.size) rfl
  rw [show (s.heap.push PySem.W.emptyDict).objs.size = s.heap.objs.size + 1 by simp [Heap.push]] at ho
  have t1 : PySem.W.Looks (model X.prog X.w) ((s.heap.push PySem.W.emptyDict).push (PySem.W.instObj C s.heap.objs.size)) (typeOf (.ref (s.heap.objs.size + 1))) (.ref C) := (PySem.W.Looks.ld ho).andThen .now
  have t2 : PySem.W.Looks (model X.prog X.w) ((s.heap.push PySem.W.emptyDict).push (PySem.W.instObj C s.heap.objs.size)) (isInstance (.ref (s.heap.objs.size + 1)) (.type "object")) true := t1.andThen (PySem.W.looks_mroIn I2.kIn M.top)
  refine codeAny_call_builtin PySem.W.oi_plain PySem.W.entry_oi (@PySem.W.check_slot (model X.prog X.w) _ _ _ "object.__init__" "object" "__init__" (.ref (s.heap.objs.size + 1)) [] [] _ PySem.W.oi_kind PySem.W.oi_split t2 (NwA.oi_args_any (.ref (s.heap.objs.size + 1)) [] []) ?_)
  rw [PySem.W.oi_run]
  exact wpAny_pure (And.intro rfl ⟨.ref (s.heap.objs.size + 1), _, I2, rfl, hq⟩)
end
def tMk0 (C : Addr) : TE := fun _ H Q => ∀ x dx, H x = none → H dx = none → dx ≠ x → Q (.ref x) (upd (upd H dx (.own x)) x (.ins C dx []))
section
variable {X : Cx} {C C' : Addr} {x : Str} {p pos : Pos}
theorem pe_mk0 (M : Mk0 X.K C) (hg : Gl X x) (hm : X.mg x = some (.ref C)) (hdb : (x == ("__debug__" : Str)) = false := by decide) : PE X (.Call (.Name x p) [] [] pos) (tMk0 C) := by
  refine ⟨fun pins s σ H Q I h => ?_⟩
  refine wpAny_Call_Name_kw (ld_glob I hg hm ?_ hdb)
  exact PySem.W.callWith_K0 I.kIn M.kp (run_make0 M I h)
/-- an expression that no run comes to -/
theorem pe_no {e : Expr} : PE X e (fun _ _ _ => False) := ⟨fun _ _ _ _ _ _ h => h.elim⟩
/-- isinstance(x, C), x an instance of the text's class C' -/
def rIsO (K : PySem.W.Frag) (C : Addr) : List V → Hp → VK → Prop := fun xs H Q => ∃ a C' dx fs b, xs = [.ref a, .ref C] ∧ H a = some (.ins C' dx fs) ∧ C8.InsC K C' ∧ PySem.W.kitOne K (.ref C') (.ref C) = some b ∧ Q (.bl b) H
theorem call_isO : CallR X (.builtin "isinstance") (rIsO X.K C) := by
  intro pins s σ H xs us Q I r h
  obtain ⟨a, C', dx, fs, b, rfl, ha, c, hk, q⟩ := h
  obtain ⟨u, w', rfl, ru, rw'⟩ := vals2 r
  cases rw'
  exact isinst_ok I ru (TyOf.ins ha c.cl c.ha c.hn c.htk c.hm) hk fun tk => ⟨.bl b, H, I.tok _, rfl, q⟩
/-- x == y by the == of x's class -/
def rOwnI (C C' : Addr) (sp : Sp) : R2 := fun x y H Q => ∃ a dx fs b dy gs, x = .ref a ∧ y = .ref b ∧ H a = some (.ins C dx fs) ∧ H b = some (.ins C' dy gs) ∧ sp [x, y] H Q C8.E0
theorem op_eqI {sp : Sp} {k j : Nat} (c : C8.Met X.prog X.w X.K X.mg X.base k C "__eq__" sp []) (hn : PySem.W.notFirst X.K C (.ref C') = true) (hr : Room j X.A) (hk : k ≤ j) : OpR X (compareOp .Eq) (rOwnI C C' sp) := by
  intro pins s σ H x y v u Q I rx ry h
  obtain ⟨a, dx, fs, b, dy, gs, rfl, rfl, ha, hb, q⟩ := h
  cases (show v = Value.ref a from rx)
  cases (show u = Value.ref b from ry)
  obtain ⟨f, fd, ps, ds, hc, hm, F, bd, vd⟩ := c.ex
  cases vd
  obtain ⟨mA, J, _⟩ := ins_get I.hok ha
  obtain ⟨mB, J', _⟩ := ins_get I.hok hb
  obtain ⟨od, J, _⟩ := J.look
  obtain ⟨od', J', _⟩ := J'.look
  obtain ⟨m, hF⟩ := I.fr
  show wpAny (model X.prog X.w) X.A (richCompare .Eq (.ref a) (.ref b)) (EP X pins σ Q) X.xe s
  refine PySem.W.cmp_K (op := .Eq) (tb := .ref C') (hr.mono hk).units0 hF I.ok.mod.kin J J'.type hn hm.at_ hm.fn ?_
  refine wpAny_mono (run_fn (us := [.ref a, .ref b]) (vs := [.ref a, .ref b]) F (hr.mono hk) bd .nil C8.pass0 I (.cons rfl (.cons rfl .nil)) q) (fun w s' z => ?_) fun _ _ x => x
  obtain ⟨z', H', I', rz, qz⟩ := z
  exact SlX.cmpback rz ⟨z', H', I', rz, qz⟩
theorem OpR.or {op : Value → Value → Sem Value} {r1 r2 : R2} (h1 : OpR X op r1) (h2 : OpR X op r2) : OpR X op (fun x y H Q => r1 x y H Q ∨ r2 x y H Q) :=
  fun pins s σ H x y v u Q I rx ry h => h.elim (h1 pins s σ H x y v u Q I rx ry) (h2 pins s σ H x y v u Q I rx ry)
/-- isinstance(x, (list, tuple)) -/
def rIsLT : List V → Hp → VK → Prop := fun xs H Q => ∃ a tp, xs = [.ref a, .ref tp] ∧ H tp = some (.tup [.ty "list", .ty "tuple"]) ∧ ((∃ ys, H a = some (.lst ys)) ∨ ∃ ys, H a = some (.tup ys)) ∧ Q (.bl true) H
theorem call_isT : CallR X (.builtin "isinstance") rIsLT := by
  intro pins s σ H xs us Q I r h
  obtain ⟨a, tp, rfl, htp, hx, q⟩ := h
  rcases hx with ⟨ys, hx⟩ | ⟨ys, hx⟩
  · exact call_isiT pins s σ H _ us Q I r ⟨.ref a, tp, _, .type "list", _, true, rfl, htp, .cons (.ty "list") (.cons (.ty "tuple") .nil), .base (.lst hx), kitAny_cons (b := true) (kit_ty (by decide +kernel)) (fun e => absurd e (by decide)) (fun _ => rfl), q⟩
  · exact call_isiT pins s σ H _ us Q I r ⟨.ref a, tp, _, .type "tuple", _, true, rfl, htp, .cons (.ty "list") (.cons (.ty "tuple") .nil), .base (.tup hx), kitAny_cons (b := false) (kit_ty (by decide +kernel)) (fun _ => kitAny_cons (b := true) (kit_ty (by decide +kernel)) (fun e => absurd e (by decide)) (fun _ => rfl)) (fun e => absurd e (by decide)), q⟩
end
end NW
/-! ## zip of a list or a tuple with a list or a tuple -/
namespace NW
open PySem PySem.Spec PyProof.Rows L2
/-- a tuple (true) or a list (false) -/
def SqB (k : Bool) (K : PySem.W.Frag) (H : Hp) (a : Addr) (xs : List V) : Prop := match k with
  | true => SqT K H a xs
  | false => SqL K H a xs
def IsB (k : Bool) (h : Heap) (a : Addr) (vs : Array Value) : Prop := match k with
  | true => h.IsTuple a vs
  | false => h.IsList a vs
def ItB (k : Bool) (h : Heap) (it a : Addr) (i : Nat) : Prop := match k with
  | true => h.IsTupleIter it a i
  | false => h.IsListIter it a i
theorem IsB.lt {k : Bool} {h : Heap} {a : Addr} {vs : Array Value} (q : IsB k h a vs) : a < h.objs.size := by
  cases k <;> (obtain ⟨_, e, _⟩ := q; exact Heap.lt_size e)
theorem ItB.lt {k : Bool} {h : Heap} {it a : Addr} {i : Nat} (q : ItB k h it a i) : it < h.objs.size := by
  cases k <;> (obtain ⟨_, e, _⟩ := q; exact Heap.lt_size e)
theorem ItB.ob {k : Bool} {h : Heap} {it a : Addr} {i : Nat} (q : ItB k h it a i) : ∃ o, h.get? it = some o ∧ ∀ v, o.data ≠ .cell v := by
  cases k <;> (obtain ⟨o, e, _, d⟩ := q; exact ⟨o, e, fun v z => by rw [d] at z; cases z⟩)
theorem ItB.keep {k : Bool} {h h' : Heap} {it a : Addr} {i : Nat} (q : ItB k h it a i) (e : ∀ o, h.get? it = some o → h'.get? it = some o) : ItB k h' it a i := by
  cases k <;> exact q.at e
section
variable {X : Cx} {pins : List (Addr × Obj)} {σ : L2.St} {H : Hp} {s : Shared}
theorem sqB_get {k : Bool} {a : Addr} {xs : List V} (I : Inv X pins σ H s) (q : SqB k X.K H a xs) : ∃ its : List Value, Vals xs its ∧ IsB k s.heap a its.toArray := by
  cases k with
  | true =>
    obtain ⟨its, r, p, _⟩ := I.tuple q
    exact ⟨its, r, p⟩
  | false =>
    obtain ⟨its, r, p, _⟩ := I.list q
    exact ⟨its, r, p.isList⟩
theorem sqB_inj {k : Bool} {a : Addr} {xs ys : List V} (I : Inv X pins σ H s) (q : SqB k X.K H a xs) (r : SqB k X.K H a ys) : xs = ys := by
  cases k with
  | true => exact I.tuple_inj q r
  | false => exact I.list_inj q r
end
theorem drawsB {prog : Program} {w : World} {A : Around} (k : Bool) (hh : A.handled = none) (it l : Addr) (hne : l ≠ it) (vs : Array Value) :
    Draws prog w A it [it, l] vs.size (fun i v => vs[i]? = some v) (fun i h => ItB k h it l i ∧ IsB k h l vs) := by
  cases k with
  | true => exact Draws.tuple hh it l hne vs
  | false => exact Draws.list hh it l hne vs
def obB (k : Bool) (l : Addr) : Obj := match k with
  | true => { cls := .type "tuple_iterator", data := .fields #[.ref l, .int 0 0] }
  | false => { cls := .type "list_iterator", data := .fields #[.ref l, .int 0 0] }
theorem beginsB (k : Bool) (l : Addr) (vs : Array Value) : Begins (.ref l) (obB k l) fun h => IsB k h l vs := by
  cases k with
  | true => exact begins_tuple l vs
  | false => exact begins_list l vs
theorem obB_it {k : Bool} {h : Heap} {it l : Addr} (e : h.get? it = some (obB k l)) : ItB k h it l 0 := by
  cases k <;> exact ⟨_, e, rfl, rfl⟩
/-- what a zip gives -/
def ItzB (k1 k2 : Bool) (K : PySem.W.Frag) (a b : Addr) : It :=
  ⟨fun i H => ∃ (xs ys : List V) (x y : V), SqB k1 K H a xs ∧ SqB k2 K H b ys ∧ xs[i]? = some x ∧ ys[i]? = some y,
    fun i H v H' => ∃ T x y, v = .ref T ∧ H T = none ∧ H' = upd H T (.tup [x, y]) ∧ (∀ xs, SqB k1 K H a xs → xs[i]? = some x) ∧ ∀ ys, SqB k2 K H b ys → ys[i]? = some y,
    fun i H => ∃ xs ys : List V, SqB k1 K H a xs ∧ SqB k2 K H b ys ∧ i ≤ xs.length ∧ i ≤ ys.length ∧ (i = xs.length ∨ i = ys.length)⟩
theorem nen {a b : Nat} (h : a ≠ b) : (a : Addr) ≠ (b : Addr) := h
theorem nin2 {x a b : Nat} (h1 : x ≠ a) (h2 : x ≠ b) : (x : Addr) ∉ ([a, b] : List Addr) := fun m => by
  rcases List.mem_cons.mp m with e | m
  · exact h1 e
  · exact h2 (List.mem_singleton.mp m)
theorem sep_new {n l1 l2 : Nat} (h1 : l1 < n) (h2 : l2 < n) : ZipSep2 (n + 4) (n + 2) (n + 3) n (n + 1) [n, l1] [n + 1, l2] where
  TIz := nen (by omega)
  TOz := nen (by omega)
  TITO := nen (by omega)
  TIi1 := nen (by omega)
  mem1 := List.mem_cons_self
  zf1 := nin2 (by omega) (by omega)
  Tf1 := nin2 (by omega) (by omega)
  TIi2 := nen (by omega)
  mem2 := List.mem_cons_self
  zf2 := nin2 (by omega) (by omega)
  Tf2 := nin2 (by omega) (by omega)
  sep1_2 := nin2 (by omega) (by omega)
  sep2_1 := nin2 (by omega) (by omega)
theorem turn_zipB {P : Program} {w : World} {K : PySem.W.Frag} {elts : List Expr} {kk : Nat} {tpos : Pos} {k1 k2 : Bool} {a b z TI TO i1 i2 : Addr} (S : ZipSep2 z TI TO i1 i2 [i1, a] [i2, b]) (na : a ≠ i1) (nb : b ≠ i2) :
    Turn P w K (.Tuple elts kk tpos) (ItzB k1 k2 K a b) [z, TI, TO, i1, i2] z (fun i h => IsZip h z TI TO .none ∧ IsTupOf2 h TI (.ref i1) (.ref i2) ∧ (∃ x y, IsTupOf2 h TO x y) ∧ ItB k1 h i1 a i ∧ ItB k2 h i2 b i) where
  mem := by simp
  obj := fun i h st c hc => by
    obtain ⟨kz, kT, ⟨x, y, kO⟩, j1, j2⟩ := st
    simp only [List.mem_cons, List.not_mem_nil, or_false] at hc
    rcases hc with rfl | rfl | rfl | rfl | rfl
    · exact ⟨_, kz, fun v q => nomatch q⟩
    · exact ⟨_, kT, fun v q => nomatch q⟩
    · exact ⟨_, kO, fun v q => nomatch q⟩
    · exact j1.ob
    · exact j2.ob
  keep := fun i h h' st k => by
    obtain ⟨kz, kT, ⟨x, y, kO⟩, j1, j2⟩ := st
    exact ⟨k z (by simp) _ kz, k TI (by simp) _ kT, ⟨x, y, k TO (by simp) _ kO⟩, j1.keep (k i1 (by simp)), j2.keep (k i2 (by simp))⟩
  item := by
    intro X hP hw hK hc i pins s σ H E I hf st hg
    subst hP hw hK
    obtain ⟨kz, kT, ⟨x0, y0, kO⟩, j1, j2⟩ := st
    obtain ⟨xs, ys, x, y, qx, qy, ex, ey⟩ := hg
    obtain ⟨its1, r1, p1⟩ := sqB_get I qx
    obtain ⟨its2, r2, p2⟩ := sqB_get I qy
    obtain ⟨u1, eu1, ru1⟩ := r1.get ex
    obtain ⟨u2, eu2, ru2⟩ := r2.get ey
    have zlt : z < s.heap.objs.size := Heap.lt_size kz
    have hd : X.A.in1.handled = none := I.ok.hd hc
    have l1 : i < its1.toArray.size := by
      rw [List.size_toArray]
      exact (List.getElem?_eq_some_iff.mp eu1).1
    have l2 : i < its2.toArray.size := by
      rw [List.size_toArray]
      exact (List.getElem?_eq_some_iff.mp eu2).1
    refine wpAny_pyNext_zipD2_item S (drawsB k1 hd i1 a na its1.toArray) (drawsB k2 hd i2 b nb its2.toArray) kz kT kO ⟨j1, p1⟩ ⟨j2, p2⟩ l1 l2 fun v1 v2 h' tk ev1 ev2 kz' kO' j1' j2' kN hsz kp => ?_
    have v1e : v1 = u1 := Option.some.inj (ev1.symm.trans (by rw [List.getElem?_toArray]; exact eu1))
    have v2e : v2 = u2 := Option.some.inj (ev2.symm.trans (by rw [List.getElem?_toArray]; exact eu2))
    subst v1e v2e
    refine ⟨_, rfl, wpAny_letOwnedTupleGo_zip (s := { s with heap := h', toks := tk }) kz' fun h2 kz2 sb => ?_⟩
    have kN2 : h2.get? s.heap.objs.size = some { cls := .type "tuple", data := .seq #[v1, v2] } := (sb.2 _ (Nat.ne_of_gt zlt)).trans kN
    have ob : ObjOk X.prog X.w (upd H s.heap.objs.size (.tup [x, y])) h2 s.heap.objs.size (.tup [x, y]) := ⟨show 2 ≤ sizeLine by decide, [v1, v2], .cons ru1 (.cons ru2 .nil), ⟨_, kN2, rfl, _, rfl⟩⟩
    have I2 : Inv X pins σ (upd H s.heap.objs.size (.tup [x, y])) { s with heap := h2, toks := tk } := I.turnedNew (ch := [z, TI, TO, i1, i2]) (fun c o nc e => by
      simp only [List.mem_cons, List.not_mem_nil, or_false, not_or] at nc
      exact (sb.2 c nc.1).trans (kp c o nc.1 nc.2.2.1 nc.2.2.2.1 nc.2.2.2.2 e)) hf (Nat.le_refl _) ob
    refine ⟨.ref s.heap.objs.size, _, I2, rfl, ⟨_, x, y, rfl, I.hok.fresh (Nat.le_refl _), rfl, fun l ql => by rw [sqB_inj I ql qx]; exact ex, fun l ql => by rw [sqB_inj I ql qy]; exact ey⟩, ⟨kz2, (sb.2 _ S.TIz).trans (kp _ _ S.TIz S.TITO S.TIi1 S.TIi2 kT), ⟨v1, v2, (sb.2 _ S.TOz).trans kO'⟩, j1'.1.keep fun o e => (sb.2 _ (Ne.symm S.zi1)).trans e, j2'.1.keep fun o e => (sb.2 _ (Ne.symm S.zi2)).trans e⟩, fun c cm => ?_⟩
    have clt : c < s.heap.objs.size := by
      simp only [List.mem_cons, List.not_mem_nil, or_false] at cm
      rcases cm with rfl | rfl | rfl | rfl | rfl
      · exact zlt
      · exact Heap.lt_size kT
      · exact Heap.lt_size kO
      · exact j1.lt
      · exact j2.lt
    rw [upd_ne (Nat.ne_of_lt clt)]
    exact (hf c cm).1
  done := by
    intro X hP hw hK hc i pins s σ H E I hf st hg
    subst hP hw hK
    obtain ⟨kz, kT, ⟨x0, y0, kO⟩, j1, j2⟩ := st
    obtain ⟨xs, ys, qx, qy, le1, le2, he⟩ := hg
    obtain ⟨its1, r1, p1⟩ := sqB_get I qx
    obtain ⟨its2, r2, p2⟩ := sqB_get I qy
    have e1 := r1.length
    have e2 := r2.length
    have hd : X.A.in1.handled = none := I.ok.hd hc
    exact wpAny_pyNext_zipD2_end S (drawsB k1 hd i1 a na its1.toArray) (drawsB k2 hd i2 b nb its2.toArray) kz kT kO ⟨j1, p1⟩ ⟨j2, p2⟩ (by rw [List.size_toArray]; omega) (by rw [List.size_toArray]; omega) (by rw [List.size_toArray, List.size_toArray]; omega) fun h' tk kp =>
      ⟨rfl, I.turnedL (ch := [z, TI, TO, i1, i2]) (fun c o nc e => by
        simp only [List.mem_cons, List.not_mem_nil, or_false, not_or] at nc
        exact kp c o nc.1 nc.2.2.1 nc.2.2.2.1 nc.2.2.2.2 e) hf⟩
  self := fun A i s Q E st h => wpAny_pyIter_zip st.1 h
def iZipB (k1 k2 : Bool) (K : PySem.W.Frag) (ta : TA) : TI := fun σ H R => ta σ H fun vs H1 => ∃ a b xs ys, vs = [.ref a, .ref b] ∧ SqB k1 K H1 a xs ∧ SqB k2 K H1 b ys ∧ R (ItzB k1 k2 K a b) H1
theorem pi_zipB (k1 k2 : Bool) {X : Cx} {e e2 : Expr} {ta : TA} {p pos tpos : Pos} {elts : List Expr} {kk : Nat} (hg : Gl X "zip") (hm : X.mg "zip" = none) (ha : PA X [e, e2] ta)
    (hs : starEach [e, e2] X.env = (false, eval e X.env) :: starEach [e2] X.env := by rfl) (hpl : (backTo pos (starEach [e2] X.env)).any (·.1) = false := by rfl) : PI X (.Tuple elts kk tpos) (.Call (.Name "zip" p) [e, e2] [] pos) (iZipB k1 k2 X.K ta) := by
  refine ⟨fun pins s σ H R I h => Call_ (ld_blt I hg hm PyProof.Rows.boot_zip (PyProof.Rows.callWith_type1 (thn (ha.run pos pins s σ H _ I h) fun us s1 ⟨vs, H1, I1, r1, q1⟩ => ?_) hs hpl))⟩
  obtain ⟨a, b, xs, ys, rfl, qx, qy, q⟩ := q1
  obtain ⟨u1, u2, rfl, ra, rb⟩ := vals2 r1
  cases ra
  cases rb
  obtain ⟨its1, t1, p1⟩ := sqB_get I1 qx
  obtain ⟨its2, t2, p2⟩ := sqB_get I1 qy
  refine zip_begins2 (beginsB k1 a its1.toArray) (beginsB k2 b its2.toArray) p1 p2 fun h' kz kT kO g1 g2 hsz hk => wpAny_pyIter_zip kz ?_
  have I2 : Inv X pins σ H1 { s1 with heap := h' } := I1.kept (t' := s1.toks) hk
  refine ⟨s1.heap.objs.size + 4, [s1.heap.objs.size + 4, s1.heap.objs.size + 2, s1.heap.objs.size + 3, s1.heap.objs.size, s1.heap.objs.size + 1], _, _, H1, rfl, I2, turn_zipB (k1 := k1) (k2 := k2) (sep_new p1.lt p2.lt) (Nat.ne_of_lt p1.lt) (Nat.ne_of_lt (Nat.lt_succ_of_lt p2.lt)), ⟨kz, kT, ⟨_, _, kO⟩, obB_it g1, obB_it g2⟩, fun c cm => ?_, q⟩
  have cle : s1.heap.objs.size ≤ c := by
    simp only [List.mem_cons, List.not_mem_nil, or_false] at cm
    rcases cm with rfl | rfl | rfl | rfl | rfl
    · exact Nat.le_add_right _ _
    · exact Nat.le_add_right _ _
    · exact Nat.le_add_right _ _
    · exact Nat.le_refl _
    · exact Nat.le_add_right _ _
  exact I1.fpOk cle (I1.hok.fresh cle)
theorem pi_zipLX {X : Cx} {e e2 : Expr} {ta : TA} {p pos tpos : Pos} {elts : List Expr} {kk : Nat} (hg : Gl X "zip") (hm : X.mg "zip" = none) (ha : PA X [e, e2] ta)
    (hs : starEach [e, e2] X.env = (false, eval e X.env) :: starEach [e2] X.env := by rfl) (hpl : (backTo pos (starEach [e2] X.env)).any (·.1) = false := by rfl) : PI X (.Tuple elts kk tpos) (.Call (.Name "zip" p) [e, e2] [] pos) (fun σ H R => iZipB false false X.K ta σ H R ∨ iZipB false true X.K ta σ H R) :=
  PI.or (pi_zipB false false hg hm ha hs hpl) (pi_zipB false true hg hm ha hs hpl)
theorem walk_zipB {k1 k2 : Bool} {K : PySem.W.Frag} {a b : Addr} {xs ys : List V} (hl : xs.length = ys.length) : Walk (ItzB k1 k2 K a b) xs.length (fun H => SqB k1 K H a xs ∧ SqB k2 K H b ys) (YPair (fun i => xs[i]?) (fun i => ys[i]?)) := by
  refine ⟨fun i H hi q => ?_, fun H q => ⟨xs, ys, q.1, q.2, Nat.le_refl _, by omega, Or.inl rfl⟩, fun i H v H' _ q y => ?_⟩
  · exact ⟨xs, ys, _, _, q.1, q.2, List.getElem?_eq_getElem hi, List.getElem?_eq_getElem (by omega)⟩
  · obtain ⟨T, x, z, e1, e2, e3, e4, e5⟩ := y
    exact ⟨T, x, z, e1, e2, e3, e4 xs q.1, e5 ys q.2⟩
end NW
/-! ## Walks: a run -/
namespace NW
open PySem PySem.Spec PyProof.Rows L2
set_option pp.maxSteps 150
-- an object's place in a heap
local macro_rules | `(tactic| walk_at "hp") => `(tactic| (show _ = some _; first
  | assumption
  | exact upd_same
  | (refine' upd_get ?n ?h; (case n => assumption); (case h => walk_at "hp"))
  | (refine' same_get ?n ?h; (case n => assumption); (case h => walk_at "hp"))))
-- a heap that has grown
local macro_rules | `(tactic| walk_at "sm") => `(tactic| first
  | assumption
  | exact Same.refl _
  | (refine' same_nw ?n ?h; (case h => assumption); (case n => walk_at "sm"))
  | (refine' Same.trans ?n ?h; (case h => assumption); (case n => walk_at "sm")))
local macro_rules | `(tactic| walk_at "ty") => `(tactic| first
  | exact TyN.int _
  | exact TyN.str _
  | exact TyN.non
  | (refine' TyN.tup ?h; (case h => walk_at "hp"))
  | (refine' TyN.lst ?h; (case h => walk_at "hp")))
-- a test whose answer is known
local macro_rules | `(tactic| walk_at "if") => `(tactic| first
  | (refine iteB (by decide +kernel) ?_)
  | (refine iteN (by decide +kernel) ?_)
  | (refine iteB (by rfl) ?_)
  | (refine iteN (by rfl) ?_)
  | (refine iteB (decide_eq_true (by first | omega | assumption)) ?_)
  | (refine iteN (decide_eq_false (by first | omega | assumption)) ?_)
  | (refine iteB (by simp only [Bool.not_eq_true', Bool.not_eq_false', Bool.and_eq_true, Bool.and_eq_false_iff, Bool.or_eq_true, Bool.or_eq_false_iff, decide_eq_true_eq, decide_eq_false_iff_not]; omega) ?_)
  | (refine iteN (by simp only [Bool.not_eq_true', Bool.not_eq_false', Bool.and_eq_true, Bool.and_eq_false_iff, Bool.or_eq_true, Bool.or_eq_false_iff, decide_eq_true_eq, decide_eq_false_iff_not]; omega) ?_))
-- one step of a reading
local macro_rules | `(tactic| walk_at "s") => `(tactic| first
  | refine ⟨_, rfl, ?_⟩
  | refine ⟨_, _, rfl, rfl, ?_⟩
  | refine And.intro (show wipe _ _ = wipe _ _ by kernel_rfl) ?_
  | refine And.intro rfl ?_
  | (refine' ⟨_, _, _, _, rfl, rfl, SqT.of ?h, ?e, ?_⟩; (case h => walk_at "hp"); (case e => exact rfl))
  | (refine' ⟨_, _, rfl, ?t, ?_⟩; (case t => walk_at "ty"))
  | (refine' ⟨_, _, rfl, SqT.of ?h, ?e, ?_⟩; (case h => walk_at "hp"); (case e => exact rfl))
  | refine ⟨_, _, rfl, ?_⟩
  | (refine' ⟨_, _, _, rfl, rfl, ?h1, ?h2, ?_⟩; (case h1 => walk_at "hp"); (case h2 => walk_at "hp"))
  | (refine' ⟨_, _, _, _, rfl, rfl, SqL.of ?h, ?e, ?_⟩; (case h => walk_at "hp"); (case e => exact rfl))
  | (refine' ⟨_, _, rfl, Or.inr (SqT.of ?h), ?_⟩; (case h => walk_at "hp"))
  | (refine' ⟨_, _, rfl, Or.inr (SqT.of ?h), rfl, rfl, ?_⟩; (case h => walk_at "hp"))
  | (refine' ⟨_, _, rfl, Or.inl (SqL.of ?h), ?_⟩; (case h => walk_at "hp"))
  | refine And.intro (flat_strs _) ?_
  | (refine And.intro (sm_sz (Nat.le_of_ble_eq_true rfl)) ?_; intro p np)
  | walk_at "if"
  | (refine' And.intro ?a ?_; (case a => first | assumption | exact sm_sz (by omega) | omega | exact Or.inr ⟨by omega, by omega⟩ | exact Or.inl ⟨by omega, by omega⟩ | exact ⟨by omega, by omega⟩))
  | refine Or.inl ⟨_, _, _, rfl, ?_⟩
  | refine Or.inr ⟨_, _, _, rfl, ?_⟩
  | (intro Hn sn))
local macro_rules | `(tactic| walk_at "go") => `(tactic| repeat (walk_at "s"))

abbrev s_RanU_initU : Stmt := inClass (topS 45) 0
abbrev N_RanU_initU : List Str := ["self", "told", "cells", "out", "steps"]
abbrev P_RanU_initU : List Str := ["self", "told", "cells", "out", "steps"]
theorem sc_RanU_initU : FnScope N_RanU_initU P_RanU_initU (defScope s_RanU_initU) := ⟨rfl, rfl, rfl, by decide +kernel, rfl, by decide +kernel, by decide +kernel⟩

abbrev s_Runner_ended : Stmt := inClass (topS 46) 7
abbrev N_Runner_ended : List Str := ["self", "program", "steps", "name"]
abbrev P_Runner_ended : List Str := ["self", "program", "steps"]
theorem sc_Runner_ended : FnScope N_Runner_ended P_Runner_ended (defScope s_Runner_ended) := ⟨rfl, rfl, rfl, by decide +kernel, rfl, by decide +kernel, by decide +kernel⟩

abbrev s_run_of : Stmt := topS 47
abbrev N_run_of : List Str := ["program", "handing", "runner", "steps", "step"]
abbrev P_run_of : List Str := ["program", "handing"]
theorem sc_run_of : FnScope N_run_of P_run_of (defScope s_run_of) := ⟨rfl, rfl, rfl, by decide +kernel, rfl, by decide +kernel, by decide +kernel⟩

structure RanC (K : PySem.W.Frag) (cN : Addr) : Prop where
  cl : Cls K cN
  told : NoAttr K cN "told"
  cells : NoAttr K cN "cells"
  out : NoAttr K cN "out"
  steps : NoAttr K cN "steps"
def RanAt (cN : Addr) (H0 H : Hp) (r : Addr) (os : List Int) (ss : List V) : Prop := ∃ dx t c p1 p2, H0 p1 = none ∧ H r = some (.ins cN dx [("told", t), ("cells", c), ("out", .ref p1), ("steps", .ref p2)]) ∧ H p1 = some (.lst (os.map .int)) ∧ H p2 = some (.lst ss)
def sp_ran (cN : Addr) : Sp := fun vs H Q _ => ∃ (x dx : Addr) (t c : V) (po ps : Addr) (os ss : List V), vs = [.ref x, t, c, .ref po, .ref ps] ∧ H x = some (.ins cN dx []) ∧ H po = some (.lst os) ∧ H ps = some (.lst ss) ∧
  ∀ H' p1 p2, (∀ b u, b ≠ x → H b = some u → H' b = some u) → H' x = some (.ins cN dx [("told", t), ("cells", c), ("out", .ref p1), ("steps", .ref p2)]) → H' p1 = some (.lst os) → H' p2 = some (.lst ss) → H p1 = none → Q .non H'
def sp_ended (cR cN : Addr) : Sp := fun vs H Q _ => ∃ (Hb : Hp) (a : RunA) (ls : List LD) (s : Mc) (p : Prog) (v : V) (S : Addr) (ss : List V), vs = [.ref a.r, v, .ref S] ∧ RunAt cR Hb H a ls s ∧ ProgAt H p v ∧ okProg p ∧ H S = some (.lst ss) ∧
  ∀ H' r, Same H H' → RanAt cN H H' r s.out ss → Q (.ref r) H'
theorem nn_of {H H' : Hp} {p : Addr} (k : ∀ u, H p = some u → H' p = some u) (n : H' p = none) : H p = none := by
  cases e : H p with
  | none => rfl
  | some u =>
    rw [k u e] at n
    cases n
def StepAt (H : Hp) (c : Option Int) (v : V) : Prop := ∃ p i j, v = .ref p ∧ H p = some (.tup [.int i, .int j, optV c])
theorem StepAt.ts {H H' : Hp} (s : TS H H') {c : Option Int} {v : V} (h : StepAt H c v) : StepAt H' c v := by
  obtain ⟨p, i, j, e, q⟩ := h
  exact ⟨p, i, j, e, s _ _ q⟩
def sp_run_of (cN : Addr) : Sp := fun vs H Q _ => ∃ (p : Prog) (v : V) (g : List Part) (vg : V) (cs : List Cel) (os : List Int), vs = [v, vg] ∧ ProgAt H p v ∧ okProg p ∧ okL p.lists ∧ HandAt H g vg ∧ Good p g ∧ runP p g = some (cs, os) ∧
  ∀ H' r ss, Same H H' → RanAt cN H H' r os ss → Paired (StepAt H') (cs.map (plc p.lists)) ss → Q (.ref r) H'
theorem RunAt.reb {cR : Addr} {Hb B H : Hp} {a : RunA} {ls : List LD} {s : Mc} (h : RunAt cR Hb H a ls s) (sm : Same B H) (d : B a.D = none) (c : B a.C = none) (l : B a.L = none) (w : B a.W = none) : RunAt cR B H a ls s :=
  ⟨sm, h.hr, h.hD, h.hC, h.hG, h.hM, h.hL, h.hW, d, c, l, w, h.dG, h.dM, h.cL, h.cW, h.lW⟩
/-- a list of the frame is written -/
theorem RunAt.frame {cR : Addr} {Hb H : Hp} {a : RunA} {ls : List LD} {s : Mc} {S : Addr} {us xs : List V} (h : RunAt cR Hb H a ls s) (hS : Hb S = some (.lst us)) : RunAt cR (upd Hb S (.lst xs)) (upd H S (.lst xs)) a ls s ∧ TS H (upd H S (.lst xs)) := by
  obtain ⟨ws, h1, h2⟩ := h.hW
  have hH := h.sm _ _ hS
  have t : TS H (upd H S (.lst xs)) := ts_mut (TS.refl _) hH (fun _ z => nomatch z)
  have k : ∀ {b : Addr} {u : HO}, H b = some u → (∀ zs, u ≠ .lst zs) → upd H S (.lst xs) b = some u := fun hb ne => upd_mut (ne_of hb hH (ne _)) hb
  have nS : ∀ {b : Addr}, Hb b = none → b ≠ S := fun n => Ne.symm (ne_of_none hS n)
  refine ⟨⟨fun b u q => ?_, k h.hr (fun _ z => nomatch z), k h.hD (fun _ z => nomatch z), upd_mut (nS h.fC) h.hC, k h.hG (fun _ z => nomatch z), k h.hM (fun _ z => nomatch z), upd_mut (nS h.fL) h.hL, ⟨ws, upd_mut (nS h.fW) h1, Paired.mapP h2 fun _ _ q => q.ts t⟩,
    by rw [upd_ne (nS h.fD)]; exact h.fD, by rw [upd_ne (nS h.fC)]; exact h.fC, by rw [upd_ne (nS h.fL)]; exact h.fL, by rw [upd_ne (nS h.fW)]; exact h.fW, h.dG, h.dM, h.cL, h.cW, h.lW⟩, t⟩
  by_cases e : b = S
  · subst e
    rw [upd_same] at q ⊢
    exact q
  · rw [upd_ne e] at q ⊢
    exact h.sm _ _ q
theorem envG_ok {hs : List PD} {ls : List LD} {g : List Part} (h : GoodP hs ls g) : (∀ d ∈ hs, d.sz ≤ 256) → ∀ e : EnvM, (∀ p ∈ e, okV p.2) → (∀ p ∈ envG hs g e, okV p.2) ∧ (envG hs g e).length ≤ e.length + hs.length ∧ GoodL ls (g.drop hs.length) := by
  induction h with
  | nil t => exact fun _ e he => ⟨he, Nat.le_refl _, t⟩
  | @w d r ls g i b t ih =>
    intro hs e he
    have := hs d List.mem_cons_self
    obtain ⟨h1, h2, h3⟩ := ih (fun d m => hs d (List.mem_cons_of_mem _ m)) (putE e d.nm i) (putE_ok he ⟨b.1, by omega⟩)
    have := putE_len e d.nm i
    exact ⟨h1, by show (envG r g (putE e d.nm i)).length ≤ e.length + (r.length + 1); omega, h3⟩
theorem mc0_ok {p : Prog} {g : List Part} (o : okProg p) (hL : okL p.lists) (h : Good p g) : okM p.lists (mc0 p g) ∧ Fz 400 (mc0 p g) := by
  obtain ⟨h1, h2, h3⟩ := envG_ok h (fun d m => (o.ph d m).2.2.2) [] (fun _ m => nomatch m)
  have l := o.rl
  have n := o.nh
  refine ⟨⟨h1, memG_ok h3 fun d m => (o.pl d m).2.2.2.2.2.1, memG_len h3 hL.nd, fun r m => ⟨3, okRows.mem o.rw m⟩⟩, ⟨?_, ?_, ?_⟩⟩
  · show p.rows.list.length + _ ≤ _
    rw [Rows.list_len]
    omega
  · show (envG p.handed g []).length + 400 ≤ 1000
    have h2 : (envG p.handed g []).length ≤ 0 + p.handed.length := h2
    omega
  · exact Nat.le_of_ble_eq_true rfl
section
variable {P : Program} {w : World} {K : PySem.W.Frag} {mg : Str → Option Value} {base : Heap} {cR cN : Addr}
theorem ok_ran (T : Tx mg) (R : RanC K cN) (D : MakAt K mg "Ran" cN "Ran.__init__" s_RanU_initU) : C8.Mak P w K mg base 1 "Ran" cN (sp_ran cN) [] := by
  refine D.mak (k := 0) sc_RanU_initU (fun _ _ _ _ _ _ us hl => match us, hl with | [_, _, _, _, _], _ => rfl) (fun vs H Q E h => ?_) (fun f cdv A outer s H vs Q E hr h => ⟨_, (pss_cons (ps_fld (pv 0) (pv 1) rfl)
    (pss_cons (ps_fld (pv 0) (pv 2) rfl)
    (pss_cons (ps_fld (pv 0) (pe_callTy call_list_of (by rfl) T.list_ (by decide +kernel) (pa_cons (pv 3) pa_nil)) rfl)
    (pss_one (ps_fld (pv 0) (pe_callTy call_list_of (by rfl) T.list_ (by decide +kernel) (pa_cons (pv 4) pa_nil)) rfl))))), ?_⟩)
  · obtain ⟨x, dx, t, c, po, ps, os, ss, rfl, _⟩ := h
    rfl
  · obtain ⟨x, dx, t, c, po, ps, os, ss, rfl, hx, h1, h2, q⟩ := h
    have n1 : po ≠ x := ne_of h1 hx (fun z => nomatch z)
    have n2 : ps ≠ x := ne_of h2 hx (fun z => nomatch z)
    refine ⟨_, rfl, _, rfl, x, cN, dx, _, rfl, hx, R.cl, R.told, Nat.le_of_ble_eq_true rfl, ?_⟩
    refine ⟨_, rfl, _, rfl, x, cN, dx, _, rfl, upd_same, R.cl, R.cells, Nat.le_of_ble_eq_true rfl, ?_⟩
    rw [upd_upd]
    have h1' : (upd H x (.ins cN dx [("told", t), ("cells", c)])) po = _ := upd_mut n1 h1
    refine ⟨_, rfl, _, _, rfl, Or.inl (SqL.of h1'), fun p1 m1 => ?_⟩
    refine ⟨_, rfl, x, cN, dx, _, rfl, upd_get m1 upd_same, R.cl, R.out, Nat.le_of_ble_eq_true rfl, ?_⟩
    have x1 := Ne.symm (ne_of_none (upd_same (o := .ins cN dx [("told", t), ("cells", c)]) (H := H)) m1)
    have h2' : (upd (upd (upd H x (.ins cN dx [("told", t), ("cells", c)])) p1 (.lst os)) x (.ins cN dx [("told", t), ("cells", c), ("out", .ref p1)])) ps = _ := upd_mut n2 (upd_get m1 (upd_mut n2 h2))
    refine ⟨_, rfl, _, _, rfl, Or.inl (SqL.of h2'), fun p2 m2 => ?_⟩
    refine ⟨_, rfl, x, cN, dx, _, rfl, upd_get m2 upd_same, R.cl, R.steps, Nat.le_of_ble_eq_true rfl, ?_⟩
    have x2 := Ne.symm (ne_of_none (upd_same (o := .ins cN dx [("told", t), ("cells", c), ("out", .ref p1)]) (H := upd (upd H x (.ins cN dx [("told", t), ("cells", c)])) p1 (.lst os))) m2)
    refine q _ p1 p2 (fun b u nb e => upd_mut nb (upd_get m2 (upd_mut nb (upd_get m1 (upd_mut nb e))))) upd_same (upd_mut x1 (upd_get m2 (upd_mut x1 upd_same))) (upd_mut x2 upd_same) (by rw [upd_ne x1] at m1; exact m1)
theorem ok_ended (T : Tx mg) (R : RunnerC K cR) (D : MetAt K cR "ended" "Runner.ended" s_Runner_ended) (c_Runner_worth : C8.Met P w K mg base 1 cR "worth" (sp_worth cR) []) (c_Ran : C8.Mak P w K mg base 1 "Ran" cN (sp_ran cN) []) : C8.Met P w K mg base 3 cR "ended" (sp_ended cR cN) [] := by
  refine D.met (k := 2) sc_Runner_ended (fun _ _ _ _ _ _ us hl => match us, hl with | [_, _, _], _ => rfl) (fun vs H Q E h => ?_) (fun f cdv A outer s H vs Q E hr h => ⟨_, (pss_one (ps_ret (C8.pe_mk c_Ran hr (by omega) (by rfl) (pa_cons (pe_callTy call_tuple_of (by rfl) T.tuple_ (by decide +kernel) (pa_cons (pe_lc (own := [("name", 3)]) (g := (gName 3)) (tt := tYes) rfl sc_Runner_ended.nd (pi_tup (pe_ix ix_tup (pv 1) pe_int (fun _ _ => rfl))) (blkOk_by (own := [("name", 3)]) (N := N_Runner_ended) (sc := defScope s_Runner_ended) (by decide +kernel)) (fun _ _ _ _ _ => (pg_name (i := 3) sc_Runner_ended.nd rfl (Or.inl rfl))) (fun _ _ _ _ _ => pts_nil) (fun _ _ _ _ _ => (C8.pe_mt c_Runner_worth hr (by omega) (pv 0) (pa_cons (pv 3) pa_nil)))) pa_nil)) (pa_cons (pe_callTy call_tuple_of (by rfl) T.tuple_ (by decide +kernel) (pa_cons (pe_fld (pv 0) rfl) pa_nil)) (pa_cons (pe_fld (pv 0) rfl) (pa_cons (pv 2) pa_nil))))))), ?_⟩)
  · obtain ⟨Hb, a, ls, s, p, v, S, ss, rfl, _⟩ := h
    rfl
  · obtain ⟨Hb, a, ls, s, p, v, S, ss, rfl, hR, ⟨ap, ah, al, ar, at_, hs, ls2, rs, rfl, h0, h1, h2, h3, h4, h5, h6, h7⟩, ho, hS, q⟩ := h
    walk_at "go"
    refine ⟨⟨_, SqT.of h7⟩, fun D nD => ?_⟩
    refine lc_each (walk_tup (a := at_) (xs := p.told.map .str)) nD (by rw [List.length_map]; have := ho.nt; omega) (fun i acc _ => True) (fun _ _ _ _ _ h => h) True.intro (fun _ s2 => SqT.of (s2 _ _ h7)) (fun i x H2 H3 acc Kf k hi s2 _ y => ?_) (fun H2 acc s2 e2 _ _ => ?_)
    · obtain ⟨rfl, e'⟩ := y
      rw [List.getElem?_map] at e'
      cases e4 : p.told[i]? with
      | none =>
        rw [e4] at e'
        cases e'
      | some z =>
        rw [e4] at e'
        cases e'
        refine ⟨rfl, _, rfl, _, _, _, rfl, (hR.same s2).hr, rfl, _, rfl, ?_⟩
        exact ⟨Hb, a, ls, s, .s z, rfl, hR.same s2, k _ _ (Same.refl _) True.intro⟩
    · refine ⟨_, acc, rfl, .inl ⟨SqL.of e2, fun p3 n3 => ?_⟩⟩
      have hR2 := hR.same s2
      have hR3 := hR2.nw (o := .tup acc) n3
      refine ⟨_, rfl, a.r, cR, a.dx, _, _, rfl, hR3.hr, R.cl, R.cells, rfl, ?_⟩
      refine ⟨_, _, rfl, .inl ⟨SqL.of hR3.hC, fun p4 n4 => ?_⟩⟩
      have hR4 := hR3.nw (o := .tup ((flat ls s.mem).map V.int)) n4
      refine ⟨_, rfl, a.r, cR, a.dx, _, _, rfl, hR4.hr, R.cl, R.lets, rfl, ?_⟩
      walk_at "go"
      have s4 : Same H (upd (upd H2 p3 (.tup acc)) p4 (.tup ((flat ls s.mem).map V.int))) := same_nw (same_nw s2 n3) n4
      rename_i x dx m1 m2
      refine fun ne => ?_
      have k : ∀ {b : Addr} {u : HO}, (upd (upd H2 p3 (.tup acc)) p4 (.tup ((flat ls s.mem).map V.int))) b = some u → (upd (upd (upd (upd H2 p3 (.tup acc)) p4 (.tup ((flat ls s.mem).map V.int))) dx (.own x)) x (.ins cN dx [])) b = some u := fun e => upd_mut (ne_of_none e m1) (upd_get m2 e)
      refine ⟨x, dx, _, _, _, _, _, _, rfl, upd_same, k hR4.hL, k (s4 _ _ hS), fun H' p1 p2 kp hx hp1 hp2 hn1 => ⟨rfl, ?_⟩⟩
      exact q H' x (fun b u e => kp b u (ne_of_none (s4 _ _ e) m1) (k (s4 _ _ e))) ⟨dx, _, _, p1, p2, nn_of (fun u e => k (s4 _ _ e)) hn1, hx, hp1, hp2⟩
theorem ok_run_of (T : Tx mg) (D : DefAt K mg "run_of" s_run_of) (c_Runner : C8.Mak P w K mg base 8 "Runner" cR (sp_init cR) []) (c_Runner_done_one : C8.Met P w K mg base 3 cR "done_one" (sp_done_one cR) []) (c_Runner_ended : C8.Met P w K mg base 3 cR "ended" (sp_ended cR cN) []) :
    C8.Cal P w K mg base 10 "run_of" (sp_run_of cN) [] := by
  refine D.cal (k := 9) sc_run_of (fun _ _ _ _ _ _ us hl => match us, hl with | [_, _], _ => rfl) (fun vs H Q E h => ?_) (fun f cdv A outer s H vs Q E hr h => ⟨_, (pss_cons (ps_par (i := 2) (j := 3) rfl sc_run_of.nd rfl rfl (by decide) rfl rfl (pa_cons (C8.pe_mk c_Runner hr (by omega) (by rfl) (pa_cons (pv 0) (pa_cons (pv 1) pa_nil))) (pa_cons (pe_lst pa_nil) pa_nil)) (by rfl))
    (pss_one (ps_while PassesOwn.never (pt_val pe_bl) (pss_cons (ps_set (i := 4) sc_run_of.nd rfl (Or.inl rfl) (C8.pe_mt0 c_Runner_done_one hr (by omega) (pv 2)))
    (pss_cons (ps_if (pt_cmpR op_isN (pv 4) pe_non (nomark _)) (pss_one (ps_ret (C8.pe_mt c_Runner_ended hr (by omega) (pv 2) (pa_cons (pv 0) (pa_cons (pv 3) pa_nil)))))
    pss_nil)
    (pss_one (ps_expr (pe_bm PySem.F.plainAttrs_list PySem.F.slot_list_append PySem.F.type_list_append mt_append (pv 3) (pa_cons (pv 4) pa_nil))))))))), ?_⟩)
  · obtain ⟨p, v, g, vg, cs, os, rfl, _⟩ := h
    rfl
  · obtain ⟨p, v, g, vg, cs, os, rfl, hp, ho, hL, hg, hG, er, q⟩ := h
    walk_at "go"
    rename_i x dx m1 m2
    refine fun ne => ?_
    have s0 : Same H (upd (upd H dx (.own x)) x (.ins cR dx [])) := same_nw (same_nw (Same.refl _) m2) (by rw [upd_ne (Ne.symm ne)]; exact m1)
    refine ⟨p, v, H, x, dx, g, vg, rfl, upd_same, hp.ts (same_ts s0), ho, hL, hg.ts (same_ts s0), hG, s0, m1, fun H1 a ea hR => ⟨rfl, ?_⟩⟩
    subst ea
    walk_at "go"
    rename_i S nS
    obtain ⟨hM0, hF0⟩ := mc0_ok ho hL hG
    have fr : ∀ {b : Addr}, H b = none → H1 b ≠ none → (upd H S (.lst [])) b = none := fun n m => by
      rw [upd_ne (by rintro rfl; exact m nS)]
      exact n
    have nH : H S = none := by
      cases e : H S with
      | none => rfl
      | some u =>
        rw [hR.sm _ _ e] at nS
        cases nS
    have hR1 : RunAt cR (upd H S (.lst [])) (upd H1 S (.lst [])) a p.lists (mc0 p g) := by
      refine (hR.nw nS).reb (fun b u e => ?_) (fr hR.fD (by rw [hR.hD]; exact fun z => nomatch z)) (fr hR.fC (by rw [hR.hC]; exact fun z => nomatch z)) (fr hR.fL (by rw [hR.hL]; exact fun z => nomatch z)) (fr hR.fW (by obtain ⟨ws, hw, _⟩ := hR.hW; rw [hw]; exact fun z => nomatch z))
      by_cases c : b = S
      · subst c
        rw [upd_same] at e ⊢
        exact e
      · rw [upd_ne c] at e ⊢
        exact hR.sm _ _ e
    refine ⟨fun m σ H' => ∃ s cs1 ss, RunAt cR (upd H S (.lst ss)) H' a p.lists s ∧ okM p.lists s ∧ Fz m s ∧ (∃ cs2, runF m s = some (cs2, os) ∧ cs = cs1 ++ cs2) ∧ Paired (StepAt H') (cs1.map (plc p.lists)) ss ∧ ss.length + m = 400 ∧ ∃ o4, σ = [some v, some vg, some (.ref a.r), some (.ref S), o4], ⟨400, mc0 p g, [], [], hR1, hM0, hF0, ⟨cs, er, rfl⟩, .nil, rfl, _, rfl⟩, ?_⟩
    rintro m σ H2 ⟨s, cs1, ss, hR2, hM, hF, ⟨cs2, er2, ecs⟩, hss, hl, o4, rfl⟩
    walk_at "go"
    cases m with
    | zero => cases er2
    | succ m =>
    have sH : Same H (upd H S (.lst ss)) := same_nw (Same.refl _) nH
    refine ⟨fun σ' H' => ∃ s cs1 ss, RunAt cR (upd H S (.lst ss)) H' a p.lists s ∧ okM p.lists s ∧ Fz m s ∧ (∃ cs2, runF m s = some (cs2, os) ∧ cs = cs1 ++ cs2) ∧ Paired (StepAt H') (cs1.map (plc p.lists)) ss ∧ ss.length + m = 400 ∧ ∃ o4, σ' = [some v, some vg, some (.ref a.r), some (.ref S), o4], fun σ' H' z => ⟨m, Nat.lt_succ_self _, z⟩, ?_⟩
    refine ⟨_, rfl, _, _, _, rfl, hR2.hr, rfl, ?_⟩
    refine ⟨_, a, p.lists, s, m, rfl, hR2, hL, hM, hF, fun dn H3 t3 hR3 => ?_, fun r t dn H3 q3 i j t3 hR3 h3 => ?_⟩
    · have er3 : some ([], s.out) = some (cs2, os) := by
        rw [← er2]
        show _ = (match due s.stk with | none => some ([], s.out) | some (r, rest) => _)
        rw [dn]
      cases er3
      walk_at "go"
      refine ⟨_, _, _, rfl, hR3.hr, rfl, ?_⟩
      walk_at "go"
      rw [List.append_nil] at ecs
      subst ecs
      refine ⟨_, a, p.lists, _, p, v, S, ss, rfl, hR3, hp.ts (same_ts (sH.trans hR3.sm)), ho, hR3.sm _ _ upd_same, fun H4 r s4 hr4 => ?_⟩
      obtain ⟨dx4, t4, c4, p4, q4, n4, z4⟩ := hr4
      exact q H4 r ss ((sH.trans hR3.sm).trans s4) ⟨dx4, t4, c4, p4, q4, nn_of (fun u e => hR3.sm _ _ (sH _ _ e)) n4, z4⟩ (Paired.mapP hss fun _ _ z => z.ts (t3.trans (same_ts s4)))
    · have er3 : ((runF m (exec { s with stk := t } r).2).map fun x => ((exec { s with stk := t } r).1 :: x.1, x.2)) = some (cs2, os) := by
        rw [← er2]
        show _ = (match due s.stk with | none => some ([], s.out) | some (r, rest) => _)
        rw [dn]
      obtain ⟨⟨cs3, os3⟩, er4, e5⟩ := Option.map_eq_some_iff.mp er3
      cases e5
      walk_at "go"
      refine ⟨.inl ⟨rfl, _, SqL.of (hR3.sm _ _ upd_same)⟩, ?_⟩
      walk_at "go"
      refine ⟨_, _, _, rfl, rfl, hR3.sm _ _ upd_same, sm_lt (by omega), ?_⟩
      obtain ⟨hR4, t4⟩ := hR3.frame (S := S) (us := ss) (xs := ss ++ [.ref q3]) upd_same
      rw [upd_upd] at hR4
      refine ⟨_, cs1 ++ [(exec { s with stk := t } r).1], ss ++ [.ref q3], hR4, exec_ok (hM.due dn), hF.step dn hM, ⟨cs3, er4, by rw [ecs, List.append_assoc]; rfl⟩, ?_, by rw [List.length_append, List.length_singleton]; omega, _, rfl⟩
      rw [List.map_append]
      exact paired_app (Paired.mapP hss fun _ _ z => z.ts (t3.trans t4)) (.cons ⟨q3, i, j, rfl, t4 _ _ h3⟩ .nil)
end
end NW
/-! ## Walks: the looks at a program -/
namespace NW
open PySem PySem.Spec PyProof.Rows L2
set_option pp.maxSteps 350
set_option pp.oneline false
-- an object's place in a heap
local macro_rules | `(tactic| walk_at "hp") => `(tactic| (show _ = some _; first
  | assumption
  | exact upd_same
  | (refine' upd_get ?n ?h; (case n => assumption); (case h => walk_at "hp"))
  | (refine' same_get ?n ?h; (case n => assumption); (case h => walk_at "hp"))))
-- a heap that has grown
local macro_rules | `(tactic| walk_at "sm") => `(tactic| first
  | assumption
  | exact Same.refl _
  | (refine' same_nw ?n ?h; (case h => assumption); (case n => walk_at "sm"))
  | (refine' Same.trans ?n ?h; (case h => assumption); (case n => walk_at "sm")))
local macro_rules | `(tactic| walk_at "ty") => `(tactic| first
  | exact TyN.int _
  | exact TyN.str _
  | exact TyN.non
  | (refine' TyN.tup ?h; (case h => walk_at "hp"))
  | (refine' TyN.lst ?h; (case h => walk_at "hp")))
-- a test whose answer is known
local macro_rules | `(tactic| walk_at "if") => `(tactic| first
  | (refine iteB (by decide +kernel) ?_)
  | (refine iteN (by decide +kernel) ?_)
  | (refine iteB (by rfl) ?_)
  | (refine iteN (by rfl) ?_)
  | (refine iteB (decide_eq_true (by first | omega | assumption)) ?_)
  | (refine iteN (decide_eq_false (by first | omega | assumption)) ?_)
  | (refine iteB (by simp only [Bool.not_eq_true', Bool.not_eq_false', Bool.and_eq_true, Bool.and_eq_false_iff, Bool.or_eq_true, Bool.or_eq_false_iff, decide_eq_true_eq, decide_eq_false_iff_not]; omega) ?_)
  | (refine iteN (by simp only [Bool.not_eq_true', Bool.not_eq_false', Bool.and_eq_true, Bool.and_eq_false_iff, Bool.or_eq_true, Bool.or_eq_false_iff, decide_eq_true_eq, decide_eq_false_iff_not]; omega) ?_))
-- one step of a reading
local macro_rules | `(tactic| walk_at "s") => `(tactic| first
  | refine ⟨_, rfl, ?_⟩
  | refine ⟨_, _, rfl, rfl, ?_⟩
  | refine And.intro (show wipe _ _ = wipe _ _ by kernel_rfl) ?_
  | refine And.intro rfl ?_
  | (refine' ⟨_, _, _, _, rfl, rfl, SqT.of ?h, ?e, ?_⟩; (case h => walk_at "hp"); (case e => exact rfl))
  | (refine' ⟨_, _, rfl, ?t, ?_⟩; (case t => walk_at "ty"))
  | (refine' ⟨_, _, rfl, SqT.of ?h, ?e, ?_⟩; (case h => walk_at "hp"); (case e => exact rfl))
  | refine ⟨_, _, rfl, ?_⟩
  | (refine' ⟨_, _, _, rfl, rfl, ?h1, ?h2, ?_⟩; (case h1 => walk_at "hp"); (case h2 => walk_at "hp"))
  | (refine' ⟨_, _, _, _, rfl, rfl, SqL.of ?h, ?e, ?_⟩; (case h => walk_at "hp"); (case e => exact rfl))
  | (refine' ⟨_, _, rfl, Or.inr (SqT.of ?h), ?_⟩; (case h => walk_at "hp"))
  | (refine' ⟨_, _, rfl, Or.inr (SqT.of ?h), rfl, rfl, ?_⟩; (case h => walk_at "hp"))
  | (refine' ⟨_, _, rfl, Or.inl (SqL.of ?h), ?_⟩; (case h => walk_at "hp"))
  | refine And.intro (flat_strs _) ?_
  | (refine And.intro (sm_sz (Nat.le_of_ble_eq_true rfl)) ?_; intro p np)
  | walk_at "if"
  | (refine' And.intro ?a ?_; (case a => first | assumption | exact sm_sz (by omega) | omega | exact Or.inr ⟨by omega, by omega⟩ | exact Or.inl ⟨by omega, by omega⟩ | exact ⟨by omega, by omega⟩))
  | refine Or.inl ⟨_, _, _, rfl, ?_⟩
  | refine Or.inr ⟨_, _, _, rfl, ?_⟩
  | (intro Hn sn))
local macro_rules | `(tactic| walk_at "go") => `(tactic| repeat (walk_at "s"))

abbrev s_is_whole : Stmt := topS 22
abbrev N_is_whole : List Str := ["thing", "least", "most"]
abbrev P_is_whole : List Str := ["thing", "least", "most"]
theorem sc_is_whole : FnScope N_is_whole P_is_whole (defScope s_is_whole) := ⟨rfl, rfl, rfl, by decide +kernel, rfl, by decide +kernel, by decide +kernel⟩

def sp_is_whole : Sp := fun vs H Q _ => (∃ i lo hi : Int, vs = [.int i, .int lo, .int hi] ∧ Q (.bl (decide (lo ≤ i) && decide (i ≤ hi))) H) ∨ (∃ (x : Str) (lo hi : Int), vs = [.str x, .int lo, .int hi] ∧ Q (.bl false) H)
abbrev s_is_name : Stmt := topS 23
abbrev N_is_name : List Str := ["thing", "sign"]
abbrev P_is_name : List Str := ["thing"]
theorem sc_is_name : FnScope N_is_name P_is_name (defScope s_is_name) := ⟨rfl, rfl, rfl, by decide +kernel, rfl, by decide +kernel, by decide +kernel⟩

def sp_is_name : Sp := fun vs H Q _ => ∃ z : Str, vs = [.str z] ∧ okNm z ∧ ∀ H', Same H H' → Q (.bl true) H'
abbrev s_is_handed : Stmt := topS 24
abbrev N_is_handed : List Str := ["thing"]
abbrev P_is_handed : List Str := ["thing"]
theorem sc_is_handed : FnScope N_is_handed P_is_handed (defScope s_is_handed) := ⟨rfl, rfl, rfl, by decide +kernel, rfl, by decide +kernel, by decide +kernel⟩

def sp_is_handed : Sp := fun vs H Q _ => ∃ (p : Addr) (d : PD), vs = [.ref p] ∧ H p = some (.tup d.vs) ∧ okNm d.nm ∧ (d.so = "open" ∨ d.so = "hidden") ∧ 1 ≤ d.sz ∧ d.sz ≤ 256 ∧ ∀ H', Same H H' → Q (.bl true) H'
abbrev s_is_list : Stmt := topS 25
abbrev N_is_list : List Str := ["thing"]
abbrev P_is_list : List Str := ["thing"]
theorem sc_is_list : FnScope N_is_list P_is_list (defScope s_is_list) := ⟨rfl, rfl, rfl, by decide +kernel, rfl, by decide +kernel, by decide +kernel⟩

def sp_is_list : Sp := fun vs H Q _ => ∃ (p : Addr) (d : LD), vs = [.ref p] ∧ H p = some (.tup d.vs) ∧ okLD d ∧ ∀ H', Same H H' → Q (.bl true) H'
abbrev s_is_operand : Stmt := topS 28
abbrev N_is_operand : List Str := ["thing", "lists"]
abbrev P_is_operand : List Str := ["thing", "lists"]
theorem sc_is_operand : FnScope N_is_operand P_is_operand (defScope s_is_operand) := ⟨rfl, rfl, rfl, by decide +kernel, rfl, by decide +kernel, by decide +kernel⟩

def sp_is_operand : Sp := fun vs H Q _ => ∃ (a : Opd) (l : Addr) (ls : List Str), vs = [a.v, .ref l] ∧ H l = some (.lst (ls.map .str)) ∧ okO a ∧ okLs ls ∧ ∀ H', Same H H' → Q (.bl true) H'
theorem fin_t {Q : VK} {b : Bool} {H : Hp} (e : b = true) (q : Q (.bl true) H) : Q (.bl b) H := e ▸ q
theorem all_rep (n : Nat) : (List.replicate n true).all id = true := List.all_eq_true.mpr fun _ h => (List.eq_of_mem_replicate h)
section
variable {P : Program} {w : World} {K : PySem.W.Frag} {mg : Str → Option Value} {base : Heap}
theorem ok_is_whole (T : Tx mg) (D : DefAt K mg "is_whole" s_is_whole) : C8.Cal P w K mg base 1 "is_whole" sp_is_whole [] := by
  refine D.cal (k := 0) sc_is_whole (fun _ _ _ _ _ _ us hl => match us, hl with | [_, _, _], _ => rfl) (fun vs H Q E h => ?_) (fun f cdv A outer s H vs Q E hr h => ⟨_, (pss_one (ps_ret (pe_and (pe_callB (call_isK .int) (by rfl) T.isinstance_ (by decide +kernel) (pa_cons (pv 0) (pa_cons (pe_bltn (v := .ty "int") (u := .type "int") (by rfl) T.int_ (by decide +kernel) rfl) pa_nil))) (pe_and (pe_not (pe_callB (call_isK .bool) (by rfl) T.isinstance_ (by decide +kernel) (pa_cons (pv 0) (pa_cons (pe_bltn (v := .ty "bool") (u := .type "bool") (by rfl) T.bool_ (by decide +kernel) rfl) pa_nil)))) (pe_one (pe_chain op_le op_le (pv 1) (pv 0) (pv 2))))))), ?_⟩)
  · rcases h with ⟨i, lo, hi, rfl, _⟩ | ⟨i, lo, hi, rfl, _⟩ <;> rfl
  · rcases h with ⟨i, lo, hi, rfl, q⟩ | ⟨i, lo, hi, rfl, q⟩
    · walk_at "go"
      refine ite_b (fun e => ?_) (fun e => ?_)
      · walk_at "go"
        rw [e] at q
        exact q
      · rw [e] at q
        exact q
    · walk_at "go"
      exact q
theorem ok_is_name (T : Tx mg) (D : DefAt K mg "is_name" s_is_name) : C8.Cal P w K mg base 1 "is_name" sp_is_name [] := by
  refine D.cal (k := 0) sc_is_name (fun _ _ _ _ _ _ us hl => match us, hl with | [_], _ => rfl) (fun vs H Q E h => ?_) (fun f cdv A outer s H vs Q E hr h => ⟨_, (pss_one (ps_ret (pe_and (pe_callB (call_isK .str) (by rfl) T.isinstance_ (by decide +kernel) (pa_cons (pv 0) (pa_cons (pe_bltn (v := .ty "str") (u := .type "str") (by rfl) T.str_ (by decide +kernel) rfl) pa_nil))) (pe_and (pe_chain op_le op_le pe_int (pe_callB call_len_str (by rfl) T.len_ PySem.boot_len (pa_cons (pv 0) pa_nil)) (C8.pe_gc (by rfl) T.g_LONGEST)) (pe_one (pe_callB (cr_all rfl) (by rfl) T.all_ (by decide +kernel) (pa_cons (pe_lc (own := [("sign", 1)]) (g := (gName 1)) (tt := tYes) rfl sc_is_name.nd (pi_str (pv 0)) (blkOk_by (own := [("sign", 1)]) (N := N_is_name) (sc := defScope s_is_name) (by decide +kernel)) (fun _ _ _ _ _ => (pg_name (i := 1) sc_is_name.nd rfl (Or.inl rfl))) (fun _ _ _ _ _ => pts_nil) (fun _ _ _ _ _ => (pe_cmpR op_in_sign (pv 1) (C8.pe_gc (by rfl) T.g_LETTERS) (by rfl)))) pa_nil))))))), ?_⟩)
  · obtain ⟨z, rfl, _⟩ := h
    rfl
  · obtain ⟨z, rfl, ⟨h1, h2, h3⟩, q⟩ := h
    walk_at "go"
    rename_i D np
    refine lc_true walk_str np (by show z.cps.size ≤ 100000; exact Nat.le_trans h2 (by decide)) (fun _ _ => True.intro) (fun i x H2 H3 Kf k hi s2 y => ?_) (fun H2 s2 e2 => ?_)
    · obtain ⟨rfl, c, hc, rfl⟩ := y
      have m : c ∈ z.cps.toList := by
        obtain ⟨hh, e⟩ := Array.getElem?_eq_some_iff.mp hc
        rw [← e]
        exact Array.getElem_mem_toList hh
      refine ⟨rfl, _, rfl, _, _, rfl, rfl, ?_⟩
      have e : decide (c ∈ LET.cps.toList) = true := decide_eq_true (h3 c m)
      show Kf (.bl (decide (c ∈ LET.cps.toList))) _
      rw [e]
      exact k _ (Same.refl _)
    · refine ⟨_, _, rfl, SqL.of e2, ?_⟩
      rw [all_rep]
      exact q _ s2
theorem ok_is_handed (T : Tx mg) (D : DefAt K mg "is_handed" s_is_handed) (c_is_whole : C8.Cal P w K mg base 1 "is_whole" sp_is_whole []) (c_is_name : C8.Cal P w K mg base 1 "is_name" sp_is_name []) : C8.Cal P w K mg base 2 "is_handed" sp_is_handed [] := by
  refine D.cal (k := 1) sc_is_handed (fun _ _ _ _ _ _ us hl => match us, hl with | [_], _ => rfl) (fun vs H Q E h => ?_) (fun f cdv A outer s H vs Q E hr h => ⟨_, (pss_cons (ps_if (PW.pt (pw_or (pt_not (pt_val (pe_callB (call_isK .tuple) (by rfl) T.isinstance_ (by decide +kernel) (pa_cons (pv 0) (pa_cons (pe_bltn (v := .ty "tuple") (u := .type "tuple") (by rfl) T.tuple_ (by decide +kernel) rfl) pa_nil))))) (pw_or (pt_cmpR op_ne (pe_callB call_len_seq (by rfl) T.len_ PySem.boot_len (pa_cons (pv 0) pa_nil)) pe_int (nomark _)) (pw_or1 (pt_not (pt_val (C8.pe_c c_is_name hr (by omega) (by rfl) (pa_cons (pe_ix ix_tup (pv 0) pe_int (fun _ _ => rfl)) pa_nil)))))))) (pss_one (ps_ret pe_bl))
    pss_nil)
    (pss_one (ps_ret (pe_and (pe_cmpR op_in_seq (pe_ix ix_tup (pv 0) pe_int (fun _ _ => rfl)) (pe_tup (pa_cons pe_str (pa_cons pe_str pa_nil))) (by rfl)) (pe_one (C8.pe_c c_is_whole hr (by omega) (by rfl) (pa_cons (pe_ix ix_tup (pv 0) pe_int (fun _ _ => rfl)) (pa_cons pe_int (pa_cons (C8.pe_gc (by rfl) T.g_WORTHS) pa_nil))))))))), ?_⟩)
  · obtain ⟨p, d, rfl, _⟩ := h
    rfl
  · obtain ⟨p, ⟨nm, so, sz⟩, rfl, hp, h1, h2, h3, h4, q⟩ := h
    simp only [PD.vs] at hp h1 h2 h3 h4
    rcases h2 with rfl | rfl
    all_goals
      walk_at "go"
      exact fin_t (Q := Q) (by simp only [Bool.and_eq_true, decide_eq_true_eq]; omega) (q _ (by walk_at "sm"))
theorem ok_is_list (T : Tx mg) (D : DefAt K mg "is_list" s_is_list) (c_is_whole : C8.Cal P w K mg base 1 "is_whole" sp_is_whole []) (c_is_name : C8.Cal P w K mg base 1 "is_name" sp_is_name []) : C8.Cal P w K mg base 2 "is_list" sp_is_list [] := by
  refine D.cal (k := 1) sc_is_list (fun _ _ _ _ _ _ us hl => match us, hl with | [_], _ => rfl) (fun vs H Q E h => ?_) (fun f cdv A outer s H vs Q E hr h => ⟨_, (pss_cons (ps_if (PW.pt (pw_or (pt_not (pt_val (pe_callB (call_isK .tuple) (by rfl) T.isinstance_ (by decide +kernel) (pa_cons (pv 0) (pa_cons (pe_bltn (v := .ty "tuple") (u := .type "tuple") (by rfl) T.tuple_ (by decide +kernel) rfl) pa_nil))))) (pw_or (pt_cmpR op_ne (pe_callB call_len_seq (by rfl) T.len_ PySem.boot_len (pa_cons (pv 0) pa_nil)) pe_int (nomark _)) (pw_or1 (pt_not (pt_val (C8.pe_c c_is_name hr (by omega) (by rfl) (pa_cons (pe_ix ix_tup (pv 0) pe_int (fun _ _ => rfl)) pa_nil)))))))) (pss_one (ps_ret pe_bl))
    pss_nil)
    (pss_cons (ps_if (PW.pt (pw_or (pt_cmpR op_notIn_seq (pe_ix ix_tup (pv 0) pe_int (fun _ _ => rfl)) (pe_tup (pa_cons pe_str (pa_cons pe_str (pa_cons pe_str pa_nil)))) (by rfl)) (pw_or1 (pt_not (pt_val (C8.pe_c c_is_whole hr (by omega) (by rfl) (pa_cons (pe_ix ix_tup (pv 0) pe_int (fun _ _ => rfl)) (pa_cons pe_int (pa_cons (C8.pe_gc (by rfl) T.g_MOST_CELLS) pa_nil))))))))) (pss_one (ps_ret pe_bl))
    pss_nil)
    (pss_one (ps_ret (pe_and (C8.pe_c c_is_whole hr (by omega) (by rfl) (pa_cons (pe_ix ix_tup (pv 0) pe_int (fun _ _ => rfl)) (pa_cons pe_int (pa_cons (pe_ifExp (pt_cmpR op_eq (pe_ix ix_tup (pv 0) pe_int (fun _ _ => rfl)) pe_str (nomark _)) pe_int (C8.pe_gc (by rfl) T.g_WORTHS)) pa_nil)))) (pe_one (C8.pe_c c_is_whole hr (by omega) (by rfl) (pa_cons (pe_ix ix_tup (pv 0) pe_int (fun _ _ => rfl)) (pa_cons pe_int (pa_cons (C8.pe_gc (by rfl) T.g_MOST_EMPTY) pa_nil)))))))))), ?_⟩)
  · obtain ⟨p, d, rfl, _⟩ := h
    rfl
  · obtain ⟨p, ⟨nm, so, cells, wo, em⟩, rfl, hp, ⟨h1, h2, h3, h4, h5, h6, h7, h8, h9⟩, q⟩ := h
    simp only [LD.vs] at hp h1 h2 h3 h4 h5 h6 h7 h8 h9
    rcases h2 with rfl | rfl | rfl
    · walk_at "go"
      exact fin_t (Q := Q) (by simp only [Bool.and_eq_true, decide_eq_true_eq]; omega) (q _ (by walk_at "sm"))
    · walk_at "go"
      exact fin_t (Q := Q) (by simp only [Bool.and_eq_true, decide_eq_true_eq]; omega) (q _ (by walk_at "sm"))
    · have h7 := h7 rfl
      walk_at "go"
      exact fin_t (Q := Q) (by simp only [Bool.and_eq_true, decide_eq_true_eq]; omega) (q _ (by walk_at "sm"))
theorem ok_is_operand (T : Tx mg) (D : DefAt K mg "is_operand" s_is_operand) (c_is_whole : C8.Cal P w K mg base 1 "is_whole" sp_is_whole []) (c_is_name : C8.Cal P w K mg base 1 "is_name" sp_is_name []) : C8.Cal P w K mg base 2 "is_operand" sp_is_operand [] := by
  refine D.cal (k := 1) sc_is_operand (fun _ _ _ _ _ _ us hl => match us, hl with | [_, _], _ => rfl) (fun vs H Q E h => ?_) (fun f cdv A outer s H vs Q E hr h => ⟨_, (pss_one (ps_ret (pe_or (C8.pe_c c_is_whole hr (by omega) (by rfl) (pa_cons (pv 0) (pa_cons pe_int (pa_cons (pe_op op_sub (C8.pe_gc (by rfl) T.g_WORTHS) pe_int) pa_nil)))) (pe_one (pe_and (C8.pe_c c_is_name hr (by omega) (by rfl) (pa_cons (pv 0) pa_nil)) (pe_one (pe_cmpR op_notIn_seq (pv 0) (pv 1) (by rfl)))))))), ?_⟩)
  · obtain ⟨a, l, ls, rfl, _⟩ := h
    rfl
  · obtain ⟨a, l, ls, rfl, hl, h1, h2, q⟩ := h
    cases a with
    | n i =>
      have h1 : 0 ≤ i ∧ i ≤ 255 := h1
      walk_at "go"
      exact q _ (by walk_at "sm")
    | s x =>
      have hx : okNm x := okNm_of h1
      walk_at "go"
      refine fin_t (Q := Q) ?_ (q _ (by walk_at "sm"))
      show (!inV (.str x) (ls.map .str)) = true
      rw [inV_strs, decide_eq_false (okN_ls h2 h1)]
      rfl
end
end NW
/-! ## Walks: what a watcher learns, its classes -/
namespace NW
open PySem PySem.Spec PyProof.Rows L2
set_option pp.maxSteps 150
-- an object's place in a heap
local macro_rules | `(tactic| walk_at "hp") => `(tactic| (show _ = some _; first
  | assumption
  | exact upd_same
  | (refine' upd_get ?n ?h; (case n => assumption); (case h => walk_at "hp"))
  | (refine' same_get ?n ?h; (case n => assumption); (case h => walk_at "hp"))))
-- a heap that has grown
local macro_rules | `(tactic| walk_at "sm") => `(tactic| first
  | assumption
  | exact Same.refl _
  | (refine' same_nw ?n ?h; (case h => assumption); (case n => walk_at "sm"))
  | (refine' Same.trans ?n ?h; (case h => assumption); (case n => walk_at "sm")))
local macro_rules | `(tactic| walk_at "ty") => `(tactic| first
  | exact TyN.int _
  | exact TyN.str _
  | exact TyN.non
  | (refine' TyN.tup ?h; (case h => walk_at "hp"))
  | (refine' TyN.lst ?h; (case h => walk_at "hp")))
-- a test whose answer is known
local macro_rules | `(tactic| walk_at "if") => `(tactic| first
  | (refine iteB (by decide +kernel) ?_)
  | (refine iteN (by decide +kernel) ?_)
  | (refine iteB (by rfl) ?_)
  | (refine iteN (by rfl) ?_)
  | (refine iteB (decide_eq_true (by first | omega | assumption)) ?_)
  | (refine iteN (decide_eq_false (by first | omega | assumption)) ?_)
  | (refine iteB (by simp only [Bool.not_eq_true', Bool.not_eq_false', Bool.and_eq_true, Bool.and_eq_false_iff, Bool.or_eq_true, Bool.or_eq_false_iff, decide_eq_true_eq, decide_eq_false_iff_not]; omega) ?_)
  | (refine iteN (by simp only [Bool.not_eq_true', Bool.not_eq_false', Bool.and_eq_true, Bool.and_eq_false_iff, Bool.or_eq_true, Bool.or_eq_false_iff, decide_eq_true_eq, decide_eq_false_iff_not]; omega) ?_))
-- one step of a reading
local macro_rules | `(tactic| walk_at "s") => `(tactic| first
  | refine ⟨_, rfl, ?_⟩
  | refine ⟨_, _, rfl, rfl, ?_⟩
  | refine And.intro (show wipe _ _ = wipe _ _ by kernel_rfl) ?_
  | refine And.intro rfl ?_
  | (refine' ⟨_, _, _, _, rfl, rfl, SqT.of ?h, ?e, ?_⟩; (case h => walk_at "hp"); (case e => exact rfl))
  | (refine' ⟨_, _, rfl, ?t, ?_⟩; (case t => walk_at "ty"))
  | (refine' ⟨_, _, rfl, SqT.of ?h, ?e, ?_⟩; (case h => walk_at "hp"); (case e => exact rfl))
  | refine ⟨_, _, rfl, ?_⟩
  | (refine' ⟨_, _, _, rfl, rfl, ?h1, ?h2, ?_⟩; (case h1 => walk_at "hp"); (case h2 => walk_at "hp"))
  | (refine' ⟨_, _, _, _, rfl, rfl, SqL.of ?h, ?e, ?_⟩; (case h => walk_at "hp"); (case e => exact rfl))
  | (refine' ⟨_, _, rfl, Or.inr (SqT.of ?h), ?_⟩; (case h => walk_at "hp"))
  | (refine' ⟨_, _, rfl, Or.inr (SqT.of ?h), rfl, rfl, ?_⟩; (case h => walk_at "hp"))
  | (refine' ⟨_, _, rfl, Or.inl (SqL.of ?h), ?_⟩; (case h => walk_at "hp"))
  | refine And.intro (flat_strs _) ?_
  | (refine And.intro (sm_sz (Nat.le_of_ble_eq_true rfl)) ?_; intro p np)
  | walk_at "if"
  | (refine' And.intro ?a ?_; (case a => first | assumption | exact sm_sz (by omega) | omega | exact Or.inr ⟨by omega, by omega⟩ | exact Or.inl ⟨by omega, by omega⟩ | exact ⟨by omega, by omega⟩))
  | refine Or.inl ⟨_, _, _, rfl, ?_⟩
  | refine Or.inr ⟨_, _, _, rfl, ?_⟩
  | (intro Hn sn))
local macro_rules | `(tactic| walk_at "go") => `(tactic| repeat (walk_at "s"))

abbrev s_stored : Stmt := topS 62
abbrev N_stored : List Str := ["steps", "many", "found", "place", "price", "cell", "line"]
abbrev P_stored : List Str := ["steps", "many"]
theorem sc_stored : FnScope N_stored P_stored (defScope s_stored) := ⟨rfl, rfl, rfl, by decide +kernel, rfl, by decide +kernel, by decide +kernel⟩

abbrev s_sight : Stmt := topS 63
abbrev N_sight : List Str := ["program", "handing", "watcher", "many", "told", "step", "place", "price", "cell"]
abbrev P_sight : List Str := ["program", "handing", "watcher", "many"]
theorem sc_sight : FnScope N_sight P_sight (defScope s_sight) := ⟨rfl, rfl, rfl, by decide +kernel, rfl, by decide +kernel, by decide +kernel⟩

abbrev s_check_many : Stmt := topS 64
abbrev N_check_many : List Str := ["watcher", "many"]
abbrev P_check_many : List Str := ["watcher", "many"]
theorem sc_check_many : FnScope N_check_many P_check_many (defScope s_check_many) := ⟨rfl, rfl, rfl, by decide +kernel, rfl, by decide +kernel, by decide +kernel⟩

abbrev s_TellsU_initU : Stmt := inClass (topS 59) 0
abbrev N_TellsU_initU : List Str := ["self", "opened", "one", "other", "step"]
abbrev P_TellsU_initU : List Str := ["self", "opened", "one", "other", "step"]
theorem sc_TellsU_initU : FnScope N_TellsU_initU P_TellsU_initU (defScope s_TellsU_initU) := ⟨rfl, rfl, rfl, by decide +kernel, rfl, by decide +kernel, by decide +kernel⟩

abbrev s_TellsU_eqU : Stmt := inClass (topS 59) 1
abbrev N_TellsU_eqU : List Str := ["self", "other"]
abbrev P_TellsU_eqU : List Str := ["self", "other"]
theorem sc_TellsU_eqU : FnScope N_TellsU_eqU P_TellsU_eqU (defScope s_TellsU_eqU) := ⟨rfl, rfl, rfl, by decide +kernel, rfl, by decide +kernel, by decide +kernel⟩

abbrev s_StillU_eqU : Stmt := inClass (topS 60) 0
abbrev N_StillU_eqU : List Str := ["self", "other"]
abbrev P_StillU_eqU : List Str := ["self", "other"]
theorem sc_StillU_eqU : FnScope N_StillU_eqU P_StillU_eqU (defScope s_StillU_eqU) := ⟨rfl, rfl, rfl, by decide +kernel, rfl, by decide +kernel, by decide +kernel⟩

abbrev s_LaidU_initU : Stmt := inClass (topS 73) 0
abbrev N_LaidU_initU : List Str := ["self", "order", "gaps"]
abbrev P_LaidU_initU : List Str := ["self", "order", "gaps"]
theorem sc_LaidU_initU : FnScope N_LaidU_initU P_LaidU_initU (defScope s_LaidU_initU) := ⟨rfl, rfl, rfl, by decide +kernel, rfl, by decide +kernel, by decide +kernel⟩

abbrev s_LaidU_eqU : Stmt := inClass (topS 73) 1
abbrev N_LaidU_eqU : List Str := ["self", "other"]
abbrev P_LaidU_eqU : List Str := ["self", "other"]
theorem sc_LaidU_eqU : FnScope N_LaidU_eqU P_LaidU_eqU (defScope s_LaidU_eqU) := ⟨rfl, rfl, rfl, by decide +kernel, rfl, by decide +kernel, by decide +kernel⟩

def lnStep (m : Nat) (acc : List Int) (c : Option Int) : List Int := match c with
  | none => acc
  | some i => if i / 4 ∈ acc then acc else if acc.length < m then acc ++ [i / 4] else acc
def storedM (m : Nat) (cs : List (Option Int)) : List Int := cs.reverse.foldl (lnStep m) []
theorem inV_ints (z : Int) : ∀ xs : List Int, inV (.int z) (xs.map .int) = decide (z ∈ xs)
  | [] => rfl
  | y :: xs => by
    have ih := inV_ints z xs
    show (eqV (.int y) (.int z) || inV (.int z) (xs.map .int)) = _
    rw [ih]
    by_cases q : z = y
    · subst q
      rw [show eqV (.int z) (.int z) = true from decide_eq_true rfl, Bool.true_or, decide_eq_true List.mem_cons_self]
    · rw [show eqV (.int y) (.int z) = false from decide_eq_false fun e => q e.symm, Bool.false_or]
      exact decide_eq_decide.mpr ⟨fun m => List.mem_cons_of_mem _ m, fun m => (List.mem_cons.mp m).resolve_left q⟩
theorem flat_ints (xs : List Int) : (xs.map V.int).all flatV = true := by
  rw [List.all_map]
  exact List.all_eq_true.mpr fun _ _ => rfl
def sp_stored : Sp := fun vs H Q _ => ∃ (S : Addr) (ss : List V) (cs : List (Option Int)) (m : Nat), vs = [.ref S, .int m] ∧ H S = some (.lst ss) ∧ Paired (StepAt H) cs ss ∧ ss.length ≤ 400 ∧
  ∀ H' p, Same H H' → H p = none → H' p = some (.lst ((storedM m cs).map .int)) → Q (.ref p) H'
def SightAt (H0 H : Hp) (os ls : List Int) (v : V) : Prop := ∃ p p1 p2, H0 p1 = none ∧ H0 p2 = none ∧ v = .ref p ∧ H p = some (.tup [.ref p1, .ref p2]) ∧ H p1 = some (.lst (os.map .int)) ∧ H p2 = some (.lst (ls.map .int))
def linesM (p : Prog) (m : Nat) (cs : List Cel) : List Int := storedM m (cs.map (plc p.lists))
def sp_sight : Sp := fun vs H Q _ => ∃ (p : Prog) (v : V) (g : List Part) (vg : V) (cs : List Cel) (os : List Int) (m : Nat), vs = [v, vg, .str "store", .int m] ∧ ProgAt H p v ∧ okProg p ∧ okL p.lists ∧ HandAt H g vg ∧ Good p g ∧ runP p g = some (cs, os) ∧
  ∀ H' r, Same H H' → SightAt H H' os (linesM p m cs) r → Q r H'
def sp_check_many : Sp := fun vs H Q _ => ∃ (m : Nat), vs = [.str "store", .int m] ∧ 1 ≤ m ∧ m ≤ 8 ∧ Q .non H
def sp_tells (cT : Addr) : Sp := fun vs H Q _ => ∃ (x dx : Addr) (a b c d : V), vs = [.ref x, a, b, c, d] ∧ H x = some (.ins cT dx []) ∧ ∀ H' fs, (∀ e u, e ≠ x → H e = some u → H' e = some u) → H' x = some (.ins cT dx fs) → Q .non H'
def sp_teq (cT cS : Addr) : Sp := fun vs H Q _ => ∃ (a dx b dy : Addr) (fs gs : List (Str × V)), vs = [.ref a, .ref b] ∧ H a = some (.ins cT dx fs) ∧ H b = some (.ins cS dy gs) ∧ Q (.bl false) H
def sp_seq (cS : Addr) : Sp := fun vs H Q _ => ∃ (a dx b dy : Addr) (fs gs : List (Str × V)), vs = [.ref a, .ref b] ∧ H a = some (.ins cS dx fs) ∧ H b = some (.ins cS dy gs) ∧ Q (.bl true) H
def LaidAt (cL : Addr) (H : Hp) (x : Addr) (o g : List Int) : Prop := ∃ dx p1 p2, H x = some (.ins cL dx [("order", .ref p1), ("gaps", .ref p2)]) ∧ H p1 = some (.lst (o.map .int)) ∧ H p2 = some (.lst (g.map .int))
def sp_laidI (cL : Addr) : Sp := fun vs H Q _ => ∃ (x dx po pg : Addr) (o g : List V), vs = [.ref x, .ref po, .ref pg] ∧ H x = some (.ins cL dx []) ∧ H po = some (.lst o) ∧ H pg = some (.lst g) ∧
  ∀ H' p1 p2, (∀ e u, e ≠ x → H e = some u → H' e = some u) → H' x = some (.ins cL dx [("order", .ref p1), ("gaps", .ref p2)]) → H' p1 = some (.lst o) → H' p2 = some (.lst g) → Q .non H'
def sp_leq (cL : Addr) : Sp := fun vs H Q _ => ∃ (a b : Addr) (o g : List Int), vs = [.ref a, .ref b] ∧ LaidAt cL H a o g ∧ LaidAt cL H b o g ∧ ∀ H', Same H H' → Q (.bl true) H'
structure TellsC (K : PySem.W.Frag) (cT : Addr) : Prop where
  cl : Cls K cT
  opened : NoAttr K cT "opened"
  one : NoAttr K cT "one"
  other : NoAttr K cT "other"
  step : NoAttr K cT "step"
structure LaidC (K : PySem.W.Frag) (cL : Addr) : Prop where
  cl : Cls K cL
  order : NoAttr K cL "order"
  gaps : NoAttr K cL "gaps"
theorem canLay_ints : ∀ xs : List Int, PyData.canLayAll0 (xs.map .int) = true
  | [] => rfl
  | _ :: xs => canLay_ints xs
theorem depth_ints : ∀ xs : List Int, PyData.depthAll (xs.map .int) = 0
  | [] => rfl
  | _ :: xs => by
    show max 0 (PyData.depthAll (xs.map .int)) = 0
    rw [depth_ints xs]
    rfl
theorem dp_ints {K : PySem.W.Frag} {H : Hp} : ∀ xs : List Int, DpAll K H (xs.map .int) (xs.map .int)
  | [] => .nil
  | _ :: xs => .cons (.int _) (dp_ints xs)
section
variable {P : Program} {w : World} {K : PySem.W.Frag} {mg : Str → Option Value} {base : Heap} {cR cN cT cS cL : Addr}
theorem ok_stored (T : Tx mg) (D : DefAt K mg "stored" s_stored) (c_line_of : C8.Cal P w K mg base 1 "line_of" sp_line_of []) : C8.Cal P w K mg base 2 "stored" sp_stored [] := by
  refine D.cal (k := 1) sc_stored (fun _ _ _ _ _ _ us hl => match us, hl with | [_, _], _ => rfl) (fun vs H Q E h => ?_) (fun f cdv A outer s H vs Q E hr h => ⟨_, (pss_cons (ps_set (i := 2) sc_stored.nd rfl (Or.inl rfl) (pe_lst pa_nil))
    (pss_cons (ps_for PassesOwn.never rfl (pi_list (pe_revL (pv 0))) (pg_tup rfl (pgs_cons (pg_name (i := 3) sc_stored.nd rfl (Or.inl rfl)) (pgs_cons (pg_name (i := 4) sc_stored.nd rfl (Or.inl rfl)) (pgs_cons (pg_name (i := 5) sc_stored.nd rfl (Or.inl rfl)) pgs_nil))))
    (pss_cons (ps_set (i := 6) sc_stored.nd rfl (Or.inl rfl) (C8.pe_c c_line_of hr (by omega) (by rfl) (pa_cons (pv 5) pa_nil)))
    (pss_one (ps_if (PW.pt (pw_and (pt_cmpR op_notN (pv 6) pe_non (nomark _)) (pw_and (pt_cmpR op_notIn_seq (pv 6) (pv 2) (by rfl)) (pw_and1 (pt_cmpR op_lt (pe_callB call_len_seq (by rfl) T.len_ PySem.boot_len (pa_cons (pv 2) pa_nil)) (pv 1) (nomark _)))))) (pss_one (ps_expr (pe_bm PySem.F.plainAttrs_list PySem.F.slot_list_append PySem.F.type_list_append mt_append (pv 2) (pa_cons (pv 6) pa_nil))))
    pss_nil))))
    (pss_one (ps_ret (pv 2))))), ?_⟩)
  · obtain ⟨S, ss, cs, m, rfl, _⟩ := h
    rfl
  · obtain ⟨S, ss, cs, m, rfl, hS, hss, hl, q⟩ := h
    walk_at "go"
    rename_i F nF
    refine ⟨_, _, rfl, SqL.of (upd_get nF hS), fun Rv nR => ⟨_, rfl, ⟨_, SqL.of upd_same⟩, ?_⟩⟩
    have ln0 : (cs.reverse).length = ss.reverse.length := by rw [List.length_reverse, List.length_reverse, Paired.length hss]
    have dFR : F ≠ Rv := ne_of_none upd_same nR
    refine for_it (walk_list (a := Rv) (xs := ss.reverse)) (fun i σ H' => Same H H' ∧ H' Rv = some (.lst ss.reverse) ∧ H' F = some (.lst ((((cs.reverse.take i).foldl (lnStep m) [])).map .int)) ∧ ((cs.reverse.take i).foldl (lnStep m) []).length ≤ i ∧ ∃ o3 o4 o5 o6, σ = [some (.ref S), some (.int m), some (.ref F), o3, o4, o5, o6]) ⟨same_nw (same_nw (Same.refl _) nF) nR, upd_same, upd_get nR upd_same, Nat.le_refl _, _, _, _, _, rfl⟩ (fun i σ H' _ z => SqL.of z.2.1) ?_ ?_
    · rintro i x σ H2 H3 hi ⟨s2, hR2, hF2, hle, o3, o4, o5, o6, rfl⟩ ⟨rfl, e⟩
      obtain ⟨c, ec, p, a, b, rfl, hp⟩ := Paired.at (Paired.rev hss) e
      have hp := s2 _ _ hp
      have st : (cs.reverse.take (i + 1)).foldl (lnStep m) [] = lnStep m ((cs.reverse.take i).foldl (lnStep m) []) c := foldl_take ec
      rw [List.length_reverse] at hi
      generalize (cs.reverse.take i).foldl (lnStep m) [] = acc at hF2 hle st
      have keep : lnStep m acc c = acc → ∀ (σ' : L2.St) , (∃ o3 o4 o5 o6, σ' = [some (.ref S), some (.int m), some (.ref F), o3, o4, o5, o6]) → Same H H3 ∧ H3 Rv = some (.lst ss.reverse) ∧ H3 F = some (.lst ((((cs.reverse.take (i + 1)).foldl (lnStep m) [])).map .int)) ∧ ((cs.reverse.take (i + 1)).foldl (lnStep m) []).length ≤ i + 1 ∧ ∃ o3 o4 o5 o6, σ' = [some (.ref S), some (.int m), some (.ref F), o3, o4, o5, o6] := fun ea σ' z => by
        rw [st, ea]
        exact ⟨s2, hR2, hF2, by omega, z⟩
      cases c with
      | none =>
        walk_at "go"
        exact (keep rfl _ ⟨_, _, _, _, rfl⟩).2.2
      | some j =>
        walk_at "go"
        refine ⟨flat_ints _, ?_⟩
        by_cases hm : j / 4 ∈ acc
        · have e0 : lnStep m acc (some j) = acc := if_pos hm
          refine ⟨_, rfl, iteN (show (!inV (.int (j / 4)) (acc.map .int)) = false by rw [inV_ints, decide_eq_true hm]; rfl) ?_⟩
          walk_at "go"
          exact (keep e0 _ ⟨_, _, _, _, rfl⟩).2.2
        · refine ⟨_, rfl, iteB (show (!inV (.int (j / 4)) (acc.map .int)) = true by rw [inV_ints, decide_eq_false hm]; rfl) ?_⟩
          walk_at "go"
          refine ite_b (fun c => ?_) (fun c => ?_)
          · have c := of_decide_eq_true c
            rw [List.length_map] at c
            have e0 : lnStep m acc (some j) = acc ++ [j / 4] := (if_neg hm).trans (if_pos (by omega))
            refine ⟨_, rfl, .inl ⟨rfl, _, SqL.of hF2⟩, ?_⟩
            refine ⟨_, rfl, ?_⟩
            have lc : cs.length ≤ 400 := by
              rw [Paired.length hss]
              exact hl
            refine ⟨_, _, _, rfl, rfl, hF2, sm_lt (by rw [List.length_map]; omega), ?_⟩
            rw [st, e0]
            exact ⟨same_mut s2 nF, upd_mut (Ne.symm dFR) hR2, by rw [upd_same, List.map_append]; rfl, by rw [List.length_append, List.length_singleton]; omega, _, _, _, _, rfl⟩
          · have c := of_decide_eq_false c
            rw [List.length_map] at c
            have e0 : lnStep m acc (some j) = acc := (if_neg hm).trans (if_neg (by omega))
            exact keep e0 _ ⟨_, _, _, _, rfl⟩
    · rintro σ H2 ⟨s2, hR2, hF2, hle, o3, o4, o5, o6, rfl⟩
      rw [← ln0, List.take_length] at hF2
      walk_at "go"
      exact q _ F s2 nF hF2
theorem ok_sight (T : Tx mg) (RN : RanC K cN) (D : DefAt K mg "sight" s_sight) (c_run_of : C8.Cal P w K mg base 10 "run_of" (sp_run_of cN) []) (c_stored : C8.Cal P w K mg base 2 "stored" sp_stored []) : C8.Cal P w K mg base 11 "sight" sp_sight [] := by
  refine D.cal (k := 10) sc_sight (fun _ _ _ _ _ _ us hl => match us, hl with | [_, _, _, _], _ => rfl) (fun vs H Q E h => ?_) (fun f cdv A outer s H vs Q E hr h => ⟨_, (pss_cons (ps_set (i := 4) sc_sight.nd rfl (Or.inl rfl) (C8.pe_c c_run_of hr (by omega) (by rfl) (pa_cons (pv 0) (pa_cons (pv 1) pa_nil))))
    (pss_cons (ps_if (pt_cmpR op_eq (pv 2) pe_str (nomark _)) pss_never
    pss_nil)
    (pss_cons (ps_if (pt_cmpR op_eq (pv 2) pe_str (nomark _)) pss_never
    pss_nil)
    (pss_cons (ps_if (pt_cmpR op_eq (pv 2) pe_str (nomark _)) pss_never
    pss_nil)
    (pss_cons (ps_if (pt_cmpR op_eq (pv 2) pe_str (nomark _)) (pss_one (ps_ret (pe_tup (pa_cons (pe_fld (pv 4) rfl) (pa_cons (C8.pe_c c_stored hr (by omega) (by rfl) (pa_cons (pe_fld (pv 4) rfl) (pa_cons (pv 3) pa_nil))) pa_nil)))))
    pss_nil)
    pss_never))))), ?_⟩)
  · obtain ⟨p, v, g, vg, cs, os, m, rfl, _⟩ := h
    rfl
  · obtain ⟨p, v, g, vg, cs, os, m, rfl, hp, ho, hL, hg, hG, er, q⟩ := h
    walk_at "go"
    refine ⟨p, v, g, vg, cs, os, rfl, hp, ho, hL, hg, hG, er, fun H1 r ss s1 ⟨dx, t, c, p1, p2, n1, hr1, h1, h2⟩ hss => ?_⟩
    have lss : ss.length ≤ 400 := by
      rw [← Paired.length hss, List.length_map]
      exact runF_len er
    walk_at "go"
    refine ⟨r, cN, dx, _, _, rfl, hr1, RN.cl, RN.out, rfl, ?_⟩
    walk_at "go"
    refine ⟨r, cN, dx, _, _, rfl, hr1, RN.cl, RN.steps, rfl, ?_⟩
    walk_at "go"
    refine ⟨p2, ss, _, m, rfl, h2, hss, lss, fun H2 q2 s2 nq2 h3 => ?_⟩
    walk_at "go"
    rename_i p3 n3
    exact q _ _ ((s1.trans s2).trans (same_nw (Same.refl _) n3)) ⟨p3, p1, q2, n1, nn_of (fun u e => s1 _ u e) nq2, rfl, upd_same, upd_get n3 (s2 _ _ h1), upd_get n3 h3⟩
theorem ok_check_many (T : Tx mg) (D : DefAt K mg "check_many" s_check_many) (c_is_whole : C8.Cal P w K mg base 1 "is_whole" sp_is_whole []) : C8.Cal P w K mg base 2 "check_many" sp_check_many [] := by
  refine D.cal (k := 1) sc_check_many (fun _ _ _ _ _ _ us hl => match us, hl with | [_, _], _ => rfl) (fun vs H Q E h => ?_) (fun f cdv A outer s H vs Q E hr h => ⟨_, (pss_cons (ps_if (pt_cmpR op_eq (pv 0) pe_str (nomark _)) pss_never
    pss_nil)
    (pss_one (ps_if (PW.pt (pw_and (pt_cmpR op_eq (pv 0) pe_str (nomark _)) (pw_and1 (pt_not (pt_val (C8.pe_c c_is_whole hr (by omega) (by rfl) (pa_cons (pv 1) (pa_cons pe_int (pa_cons (C8.pe_gc (by rfl) T.g_MOST_LINES) pa_nil))))))))) (pss_one ps_never)
    pss_nil))), ?_⟩)
  · obtain ⟨m, rfl, _⟩ := h
    rfl
  · obtain ⟨m, rfl, h1, h8, q⟩ := h
    walk_at "go"
    exact q
theorem ok_tells (T : Tx mg) (R : TellsC K cT) (D : MakAt K mg "Tells" cT "Tells.__init__" s_TellsU_initU) : C8.Mak P w K mg base 1 "Tells" cT (sp_tells cT) [] := by
  refine D.mak (k := 0) sc_TellsU_initU (fun _ _ _ _ _ _ us hl => match us, hl with | [_, _, _, _, _], _ => rfl) (fun vs H Q E h => ?_) (fun f cdv A outer s H vs Q E hr h => ⟨_, (pss_cons (ps_fld (pv 0) (pv 1) rfl)
    (pss_cons (ps_fld (pv 0) (pv 2) rfl)
    (pss_cons (ps_fld (pv 0) (pv 3) rfl)
    (pss_one (ps_fld (pv 0) (pv 4) rfl))))), ?_⟩)
  · obtain ⟨x, dx, a, b, c, d, rfl, _⟩ := h
    rfl
  · obtain ⟨x, dx, a, b, c, d, rfl, hx, q⟩ := h
    refine ⟨_, rfl, _, rfl, x, cT, dx, _, rfl, hx, R.cl, R.opened, Nat.le_of_ble_eq_true rfl, ?_⟩
    refine ⟨_, rfl, _, rfl, x, cT, dx, _, rfl, upd_same, R.cl, R.one, Nat.le_of_ble_eq_true rfl, ?_⟩
    refine ⟨_, rfl, _, rfl, x, cT, dx, _, rfl, upd_same, R.cl, R.other, Nat.le_of_ble_eq_true rfl, ?_⟩
    refine ⟨_, rfl, _, rfl, x, cT, dx, _, rfl, upd_same, R.cl, R.step, Nat.le_of_ble_eq_true rfl, ?_⟩
    exact q _ _ (fun e u n h => upd_mut n (upd_mut n (upd_mut n (upd_mut n h)))) upd_same
theorem ok_teq (T : Tx mg) (k_Tells : mg "Tells" = some (.ref cT)) (iS : C8.InsC K cS) (hk : PySem.W.kitOne K (.ref cS) (.ref cT) = some false) (D : MetAt K cT "__eq__" "Tells.__eq__" s_TellsU_eqU) : C8.Met P w K mg base 1 cT "__eq__" (sp_teq cT cS) [] := by
  refine D.met (k := 0) sc_TellsU_eqU (fun _ _ _ _ _ _ us hl => match us, hl with | [_, _], _ => rfl) (fun vs H Q E h => ?_) (fun f cdv A outer s H vs Q E hr h => ⟨_, (pss_one (ps_ret (pe_and (pe_callB (call_isO (C := cT)) (by rfl) T.isinstance_ (by decide +kernel) (pa_cons (pv 1) (pa_cons (pe_glob (v := .ref cT) (by rfl) k_Tells rfl) pa_nil))) (pe_one pe_no)))), ?_⟩)
  · obtain ⟨a, dx, b, dy, fs, gs, rfl, _⟩ := h
    rfl
  · obtain ⟨a, dx, b, dy, fs, gs, rfl, ha, hb, q⟩ := h
    refine ⟨_, rfl, _, _, _, _, _, rfl, hb, iS, hk, ?_⟩
    exact ⟨_, rfl, q⟩
theorem ok_seq (T : Tx mg) (k_Still : mg "Still" = some (.ref cS)) (iS : C8.InsC K cS) (D : MetAt K cS "__eq__" "Still.__eq__" s_StillU_eqU) : C8.Met P w K mg base 1 cS "__eq__" (sp_seq cS) [] := by
  refine D.met (k := 0) sc_StillU_eqU (fun _ _ _ _ _ _ us hl => match us, hl with | [_, _], _ => rfl) (fun vs H Q E h => ?_) (fun f cdv A outer s H vs Q E hr h => ⟨_, (pss_one (ps_ret (pe_callB (call_isO (C := cS)) (by rfl) T.isinstance_ (by decide +kernel) (pa_cons (pv 1) (pa_cons (pe_glob (v := .ref cS) (by rfl) k_Still rfl) pa_nil))))), ?_⟩)
  · obtain ⟨a, dx, b, dy, fs, gs, rfl, _⟩ := h
    rfl
  · obtain ⟨a, dx, b, dy, fs, gs, rfl, ha, hb, q⟩ := h
    exact ⟨_, rfl, _, _, _, _, _, rfl, hb, iS, iS.me, q⟩
theorem ok_laidI (T : Tx mg) (R : LaidC K cL) (D : MakAt K mg "Laid" cL "Laid.__init__" s_LaidU_initU) : C8.Mak P w K mg base 1 "Laid" cL (sp_laidI cL) [] := by
  refine D.mak (k := 0) sc_LaidU_initU (fun _ _ _ _ _ _ us hl => match us, hl with | [_, _, _], _ => rfl) (fun vs H Q E h => ?_) (fun f cdv A outer s H vs Q E hr h => ⟨_, (pss_cons (ps_fld (pv 0) (pe_callTy call_list_of (by rfl) T.list_ (by decide +kernel) (pa_cons (pv 1) pa_nil)) rfl)
    (pss_one (ps_fld (pv 0) (pe_callTy call_list_of (by rfl) T.list_ (by decide +kernel) (pa_cons (pv 2) pa_nil)) rfl))), ?_⟩)
  · obtain ⟨x, dx, po, pg, o, g, rfl, _⟩ := h
    rfl
  · obtain ⟨x, dx, po, pg, o, g, rfl, hx, h1, h2, q⟩ := h
    have n1 : po ≠ x := ne_of h1 hx (fun z => nomatch z)
    have n2 : pg ≠ x := ne_of h2 hx (fun z => nomatch z)
    refine ⟨_, rfl, _, _, rfl, Or.inl (SqL.of h1), fun p1 m1 => ?_⟩
    refine ⟨_, rfl, x, cL, dx, _, rfl, upd_get m1 hx, R.cl, R.order, Nat.le_of_ble_eq_true rfl, ?_⟩
    have x1 := Ne.symm (ne_of_none hx m1)
    have h2' : (upd (upd H p1 (.lst o)) x (.ins cL dx [("order", .ref p1)])) pg = _ := upd_mut n2 (upd_get m1 h2)
    refine ⟨_, rfl, _, _, rfl, Or.inl (SqL.of h2'), fun p2 m2 => ?_⟩
    refine ⟨_, rfl, x, cL, dx, _, rfl, upd_get m2 upd_same, R.cl, R.gaps, Nat.le_of_ble_eq_true rfl, ?_⟩
    have x2 := Ne.symm (ne_of_none (upd_same (o := .ins cL dx [("order", .ref p1)]) (H := upd H p1 (.lst o))) m2)
    exact q _ p1 p2 (fun b u nb e => upd_mut nb (upd_get m2 (upd_mut nb (upd_get m1 e)))) upd_same (upd_mut x1 (upd_get m2 (upd_mut x1 upd_same))) (upd_mut x2 upd_same)
theorem ok_leq (T : Tx mg) (k_Laid : mg "Laid" = some (.ref cL)) (R : LaidC K cL) (iL : C8.InsC K cL) (D : MetAt K cL "__eq__" "Laid.__eq__" s_LaidU_eqU) : C8.Met P w K mg base 1 cL "__eq__" (sp_leq cL) [] := by
  refine D.met (k := 0) sc_LaidU_eqU (fun _ _ _ _ _ _ us hl => match us, hl with | [_, _], _ => rfl) (fun vs H Q E h => ?_) (fun f cdv A outer s H vs Q E hr h => ⟨_, (pss_one (ps_ret (pe_and (pe_callB (call_isO (C := cL)) (by rfl) T.isinstance_ (by decide +kernel) (pa_cons (pv 1) (pa_cons (pe_glob (v := .ref cL) (by rfl) k_Laid rfl) pa_nil))) (pe_one (pe_cmpR (op_eqD hr.units) (pe_lst (pa_cons (pe_fld (pv 0) rfl) (pa_cons (pe_fld (pv 0) rfl) pa_nil))) (pe_lst (pa_cons (pe_fld (pv 1) rfl) (pa_cons (pe_fld (pv 1) rfl) pa_nil))) (nomark _)))))), ?_⟩)
  · obtain ⟨a, b, o, g, rfl, _⟩ := h
    rfl
  · obtain ⟨a, b, o, g, rfl, ⟨dx, p1, p2, ha, h1, h2⟩, ⟨dy, p3, p4, hb, h3, h4⟩, q⟩ := h
    refine ⟨_, rfl, _, _, _, _, _, rfl, hb, iL, iL.me, ?_⟩
    refine ⟨_, rfl, iteB rfl ?_⟩
    refine ⟨_, rfl, a, cL, dx, _, _, rfl, ha, R.cl, R.order, rfl, ?_⟩
    refine ⟨_, rfl, a, cL, dx, _, _, rfl, ha, R.cl, R.gaps, rfl, ?_⟩
    refine ⟨sm_sz (Nat.le_of_ble_eq_true rfl), fun p5 n5 => ?_⟩
    refine ⟨_, rfl, b, cL, dy, _, _, rfl, upd_get n5 hb, R.cl, R.order, rfl, ?_⟩
    refine ⟨_, rfl, b, cL, dy, _, _, rfl, upd_get n5 hb, R.cl, R.gaps, rfl, ?_⟩
    refine ⟨sm_sz (Nat.le_of_ble_eq_true rfl), fun p6 n6 => ?_⟩
    have h1' := upd_get (o := .lst [.ref p3, .ref p4]) n6 (upd_get (o := .lst [.ref p1, .ref p2]) n5 h1)
    have h2' := upd_get (o := .lst [.ref p3, .ref p4]) n6 (upd_get (o := .lst [.ref p1, .ref p2]) n5 h2)
    have h3' := upd_get (o := .lst [.ref p3, .ref p4]) n6 (upd_get (o := .lst [.ref p1, .ref p2]) n5 h3)
    have h4' := upd_get (o := .lst [.ref p3, .ref p4]) n6 (upd_get (o := .lst [.ref p1, .ref p2]) n5 h4)
    have cl : PyData.canLay0 (.list [.list (o.map .int), .list (g.map .int)]) = true := by
      show (PyData.canLayAll0 (o.map .int) && (PyData.canLayAll0 (g.map .int) && true)) = true
      rw [canLay_ints, canLay_ints]
      rfl
    have sh : SeqAt.shaped (.list [.list (o.map .int), .list (g.map .int)]) = true := by
      unfold SeqAt.shaped
      rw [cl, Bool.true_and]
      refine decide_eq_true ?_
      show max (PyData.depthAll (o.map .int) + 1) (max (PyData.depthAll (g.map .int) + 1) 0) + 1 ≤ 64
      rw [depth_ints, depth_ints]
      decide
    refine ⟨_, _, .lst (SqL.of (upd_get n6 upd_same)) (.cons (.lst (SqL.of h1') (dp_ints o)) (.cons (.lst (SqL.of h2') (dp_ints g)) .nil)), .lst (SqL.of upd_same) (.cons (.lst (SqL.of h3') (dp_ints o)) (.cons (.lst (SqL.of h4') (dp_ints g)) .nil)), sh, sh, ?_⟩
    rw [SeqAt.eqv_refl _ cl]
    exact q _ (same_nw (same_nw (Same.refl _) n5) n6)
end
end NW
/-! ## Comprehensions with two walks; longer tuples -/
namespace NW
open PySem PySem.Spec PyProof.Rows L2
section
variable {J : It} {n : Nat} {G : Hp → Prop} {Y : Nat → Hp → V → Hp → Prop}
theorem lc_invD (w : Walk J n G Y) {g : TG} {tt : TT} {te : TE} {vs : List Nat} {σ : L2.St} {H1 : Hp} {D : Addr} {Qd : Hp → Prop} (hD : H1 D = none) (hn : n ≤ 100000) (R : Nat → List V → Hp → Prop)
    (hR : ∀ i acc H H', TS H H' → (∀ b u, b ≠ D → H b = some u → H' b = some u) → R i acc H → R i acc H') (h0 : R 0 [] H1) (hG : ∀ H, Same H1 H → G H)
    (hs : ∀ i x H H' acc (Kf : V → Hp → Prop) (Kn : Hp → Prop), (∀ y H4, Same H H4 → R (i + 1) (acc ++ [y]) H4 → Kf y H4) → (∀ H3, Same H H3 → R (i + 1) acc H3 → Kn H3) → i < n → Same H1 H → R i acc H → H D = some (.lst acc) → Y i H x H' →
      g x (wipe σ vs) H' fun σ2 H2 => wipe σ2 vs = wipe σ vs ∧ tt σ2 H2 fun b H3 => if b = true then te σ2 H3 Kf else Kn H3)
    (hd : ∀ H acc, Same H1 H → H D = some (.lst acc) → acc.length ≤ n → R n acc H → Qd H) : LcW J g tt te vs σ H1 D Qd := by
  have e0 : Same H1 (upd H1 D (.lst [])) := same_nw (Same.refl _) hD
  refine lc_it w (fun i H => Same H1 H ∧ ∃ acc, H D = some (.lst acc) ∧ acc.length ≤ i ∧ R i acc H) ⟨e0, [], upd_same, Nat.le_refl _, hR _ _ _ _ (same_ts e0) (fun b u n q => upd_mut n q) h0⟩ (fun i H _ p => hG H p.1) ?_ ?_
  · rintro i x H H' hi ⟨s, acc, hacc, hl, r⟩ y
    have ts1 : ∀ (H4 : Hp) (v : V), H4 D = some (.lst acc) → TS H4 (upd H4 D (.lst (acc ++ [v]))) := fun H4 v e => ts_mut (TS.refl _) e (fun _ z => nomatch z)
    refine hs i x H H' acc _ _ (fun v H4 s4 r4 => ?_) (fun H3 s3 r3 => ?_) hi s r hacc y
    · have e4 := s4 _ _ hacc
      refine ⟨acc, e4, sm_lt (by omega), fun b u q => ?_, acc ++ [v], upd_same, by rw [List.length_append, List.length_singleton]; omega, hR _ _ _ _ (ts1 H4 v e4) (fun b u n q => upd_mut n q) r4⟩
      rw [upd_ne (ne_of_none q hD)]
      exact s4 _ _ (s _ _ q)
    · exact ⟨s.trans s3, acc, s3 _ _ hacc, by omega, r3⟩
  · rintro H ⟨s, acc, hacc, hl, r⟩
    exact hd H acc s hacc hl r
/-- .. each element stands for the item at its place -/
theorem lc_relD {α : Type} {xs : List α} (w : Walk J xs.length G Y) {g : TG} {te : TE} {vs : List Nat} {σ : L2.St} {H1 : Hp} {D : Addr} {Qd : Hp → Prop} (F : Hp → α → V → Prop) (hF : ∀ H H' a v, TS H H' → (∀ b u, b ≠ D → H b = some u → H' b = some u) → F H a v → F H' a v) (hD : H1 D = none) (hn : xs.length ≤ 100000) (hG : ∀ H, Same H1 H → G H)
    (hs : ∀ i x H H' a (Kf : V → Hp → Prop), (∀ v H4, Same H H4 → F H4 a v → Kf v H4) → xs[i]? = some a → Same H1 H → (∃ u, H D = some u) → Y i H x H' →
      g x (wipe σ vs) H' fun σ2 H2 => wipe σ2 vs = wipe σ vs ∧ te σ2 H2 Kf)
    (hd : ∀ H acc, Same H1 H → H D = some (.lst acc) → Paired (F H) xs acc → Qd H) : LcW J g tYes te vs σ H1 D Qd := by
  refine lc_invD w hD hn (fun i acc H => Paired (F H) (xs.take i) acc) (fun i acc H H' t kd h => Paired.mapP h fun a v q => hF _ _ _ _ t kd q) .nil hG (fun i x H H' acc Kf _ k _ hi s r hD y => ?_) (fun H acc s h _ r => hd H acc s h (by rw [List.take_length] at r; exact r))
  refine hs i x H H' xs[i] Kf (fun v H4 s4 q => k v H4 s4 ?_) (List.getElem?_eq_getElem hi) s ⟨_, hD⟩ y
  rw [List.take_succ_eq_append_getElem hi]
  have r4 : Paired (F H4) (xs.take i) acc := Paired.mapP r fun a v q => hF _ _ _ _ (same_ts s4) (fun b u _ q => s4 b u q) q
  exact paired_app r4 (.cons q .nil)
end
section
variable {J J1 : It} {n : Nat} {G : Hp → Prop} {Y : Nat → Hp → V → Hp → Prop}
abbrev LcIn (J1 : It) (g1 : TG) (tt1 : TT) (te : TE) (vs1 : List Nat) (σ2 : L2.St) (H4 : Hp) (D : Addr) (Nx : Hp → Prop) : Prop := ∃ W1 : Nat → Nat → Hp → Prop, (∃ m, W1 0 m H4) ∧ ∀ j k H, W1 j k H →
  (J1.stop j H ∧ Nx H) ∨ (J1.go j H ∧ ∃ Nx1 : Hp → Prop, (∀ H', Nx1 H' → ∃ k', k' < k ∧ W1 (j + 1) k' H') ∧ ∀ x H', J1.yld j H x H' → g1 x (wipe σ2 vs1) H' fun σ3 H5 => wipe σ3 vs1 = wipe σ2 vs1 ∧ tt1 σ3 H5 fun b H6 =>
    if b = true then te σ3 H6 fun y H7 => ∃ acc, H7 D = some (.lst acc) ∧ acc.length < sizeLine ∧ Nx1 (upd H7 D (.lst (acc ++ [y]))) else Nx1 H6)
theorem lc2_in (w : Walk J1 n G Y) {g1 : TG} {tt1 : TT} {te : TE} {vs1 : List Nat} {σ2 : L2.St} {H4 : Hp} {D : Addr} {Nx : Hp → Prop} (Pv : Nat → Hp → Prop) (h0 : Pv 0 H4) (hG : ∀ i H, i ≤ n → Pv i H → G H)
    (hs : ∀ i x H H', i < n → Pv i H → Y i H x H' → g1 x (wipe σ2 vs1) H' fun σ3 H5 => wipe σ3 vs1 = wipe σ2 vs1 ∧ tt1 σ3 H5 fun b H6 =>
      if b = true then te σ3 H6 fun y H7 => ∃ acc, H7 D = some (.lst acc) ∧ acc.length < sizeLine ∧ Pv (i + 1) (upd H7 D (.lst (acc ++ [y]))) else Pv (i + 1) H6) (hd : ∀ H, Pv n H → Nx H) : LcIn J1 g1 tt1 te vs1 σ2 H4 D Nx := by
  refine ⟨fun i m H => m = n - i ∧ i ≤ n ∧ Pv i H, ⟨n, (Nat.sub_zero n).symm, Nat.zero_le _, h0⟩, fun i m H ⟨em, hi, p⟩ => ?_⟩
  rcases Nat.lt_or_eq_of_le hi with lt | e
  · exact .inr ⟨w.goes i H lt (hG i H hi p), Pv (i + 1), fun H' p' => ⟨n - (i + 1), by omega, rfl, lt, p'⟩, fun x H' y => hs i x H H' lt p (w.yields i H x H' lt (hG i H hi p) y)⟩
  · subst e
    exact .inl ⟨w.stops H (hG i H hi p), hd H p⟩
theorem lc2_out (w : Walk J n G Y) {g : TG} {tt : TT} {wi1 : TI} {g1 : TG} {tt1 : TT} {te : TE} {vs vs1 : List Nat} {σ : L2.St} {H1 : Hp} {D : Addr} {Qd : Hp → Prop} (Pv : Nat → Hp → Prop) (h0 : Pv 0 (upd H1 D (.lst []))) (hG : ∀ i H, i ≤ n → Pv i H → G H)
    (hs : ∀ i x H H', i < n → Pv i H → Y i H x H' → g x (wipe σ vs) H' fun σ2 H2 => wipe σ2 vs = wipe σ vs ∧ tt σ2 H2 fun b H3 =>
      if b = true then wi1 σ2 H3 fun J1 H4 => LcIn J1 g1 tt1 te vs1 σ2 H4 D (Pv (i + 1)) else Pv (i + 1) H3) (hd : ∀ H, Pv n H → Qd H) :
    ∃ W : Nat → Nat → Hp → Prop, (∃ m, W 0 m (upd H1 D (.lst []))) ∧ ∀ i m H, W i m H →
      (J.stop i H ∧ Qd H) ∨ (J.go i H ∧ ∃ Nx : Hp → Prop, (∀ H', Nx H' → ∃ m', m' < m ∧ W (i + 1) m' H') ∧ ∀ x H', J.yld i H x H' → g x (wipe σ vs) H' fun σ2 H2 => wipe σ2 vs = wipe σ vs ∧ tt σ2 H2 fun b H3 =>
        if b = true then wi1 σ2 H3 fun J1 H4 => LcIn J1 g1 tt1 te vs1 σ2 H4 D Nx else Nx H3) := by
  refine ⟨fun i m H => m = n - i ∧ i ≤ n ∧ Pv i H, ⟨n, (Nat.sub_zero n).symm, Nat.zero_le _, h0⟩, fun i m H ⟨em, hi, p⟩ => ?_⟩
  rcases Nat.lt_or_eq_of_le hi with lt | e
  · exact .inr ⟨w.goes i H lt (hG i H hi p), Pv (i + 1), fun H' p' => ⟨n - (i + 1), by omega, rfl, lt, p'⟩, fun x H' y => hs i x H H' lt p (w.yields i H x H' lt (hG i H hi p) y)⟩
  · subst e
    exact .inl ⟨w.stops H (hG i H hi p), hd H p⟩
end
theorem catA_1 {K : PySem.W.Frag} {H : Hp} {a b : Addr} {xs : List V} {z : V} {Q : VK} (ha : H a = some (.tup xs)) (hb : H b = some (.tup [z])) (l : xs.length ≤ 1000) (q : ∀ p H', Same H H' → H' p = some (.tup (xs ++ [z])) → Q (.ref p) H') : rCatA K (.ref a) (.ref b) H Q := by
  refine ⟨a, b, xs, [z], rfl, rfl, SqT.of ha, SqT.of hb, sm_sz (by rw [List.length_singleton]; omega), fun e => ?_, fun _ e => absurd e (List.cons_ne_nil _ _), fun _ _ p n => ?_⟩
  · subst e
    exact q b H (Same.refl _) hb
  · exact q p _ (same_nw (Same.refl _) n) upd_same
/-! ### longer tuples -/
theorem longer_len {α : Type} (f : List (List α)) (s : List α) : (longer f s).length = f.length * s.length := by
  unfold longer
  induction f with
  | nil => simp
  | cons o f ih => rw [List.flatMap_cons, List.length_append, ih, List.length_map, List.length_cons, Nat.succ_mul, Nat.add_comm]
theorem longer_snoc {α : Type} {f : List (List α)} {s : List α} {i : Nat} {o : List α} (e : f[i]? = some o) : longer (f.take (i + 1)) s = longer (f.take i) s ++ s.map fun x => o ++ [x] := by
  obtain ⟨hi, eo⟩ := List.getElem?_eq_some_iff.mp e
  unfold longer
  rw [List.take_succ_eq_append_getElem hi, eo, List.flatMap_append]
  congr 1
  exact List.append_nil _
theorem longer_map {α β : Type} (h : α → β) (f : List (List α)) (s : List α) : (longer f s).map (·.map h) = longer (f.map (·.map h)) (s.map h) := by
  unfold longer
  induction f with
  | nil => rfl
  | cons o f ih =>
    rw [List.flatMap_cons, List.map_append, ih, List.map_cons, List.flatMap_cons]
    congr 1
    rw [List.map_map, List.map_map]
    congr 1
    funext x
    show (o ++ [x]).map h = o.map h ++ [h x]
    rw [List.map_append]
    rfl
theorem prodL_snoc {α : Type} (os : List (List α)) (o : List α) : prodL (os ++ [o]) = longer (prodL os) o := by
  unfold prodL
  rw [List.foldl_append]
  rfl
theorem longer_mem {α : Type} {f : List (List α)} {s : List α} {xs : List α} (h : xs ∈ longer f s) : ∃ o ∈ f, ∃ x ∈ s, xs = o ++ [x] := by
  unfold longer at h
  obtain ⟨o, ho, h⟩ := List.mem_flatMap.mp h
  obtain ⟨x, hx, e⟩ := List.mem_map.mp h
  exact ⟨o, ho, x, hx, e.symm⟩
theorem prodL_mem_len {α : Type} {os : List (List α)} {xs : List α} (h : xs ∈ prodL os) : xs.length = os.length := by
  have : ∀ (f : List (List α)) (n : Nat), (∀ ys ∈ f, ys.length = n) → ∀ xs ∈ os.foldl longer f, xs.length = n + os.length := by
    clear h
    induction os with
    | nil => exact fun f n h => h
    | cons o os ih =>
      intro f n h xs hx
      rw [ih (longer f o) (n + 1) (fun ys m => ?_) xs hx, List.length_cons]
      · omega
      · obtain ⟨z, hz, x, _, e⟩ := longer_mem m
        rw [e, List.length_append, h z hz]
        rfl
  have := this [[]] 0 (fun ys m => by rw [List.mem_singleton.mp m]; rfl) xs h
  omega
theorem prodL_map {α β : Type} (h : α → β) (os : List (List α)) : (prodL os).map (·.map h) = prodL (os.map (·.map h)) := by
  have : ∀ (f : List (List α)), (os.foldl longer f).map (·.map h) = (os.map (·.map h)).foldl longer (f.map (·.map h)) := by
    induction os with
    | nil => exact fun f => rfl
    | cons o os ih =>
      intro f
      show ((os.foldl longer (longer f o))).map (·.map h) = _
      rw [ih, longer_map]
      rfl
  exact this [[]]
theorem pair_longer {α β : Type} {F : α → β → Prop} {gs : List (List α)} {xss : List (List β)} {os : List α} {zs : List β} (h : Paired (Paired F) gs xss) (q : Paired F os zs) : Paired (Paired F) (longer gs os) (longer xss zs) := by
  unfold longer
  induction h with
  | nil => exact .nil
  | cons h t ih =>
    rw [List.flatMap_cons, List.flatMap_cons]
    refine paired_app ?_ ih
    clear ih t
    induction q with
    | nil => exact .nil
    | cons q qt ih => exact .cons (paired_app h (.cons q .nil)) ih
/-- a list of tuples of parts -/
def HandsL (H : Hp) (gs : List (List Part)) (vs : List V) : Prop := ∃ xss, TupsL H xss vs ∧ Paired (Paired (PartAt H)) gs xss
theorem HandsL.ts {H H' : Hp} (s : TS H H') {gs : List (List Part)} {vs : List V} (h : HandsL H gs vs) : HandsL H' gs vs := by
  obtain ⟨xss, h1, h2⟩ := h
  exact ⟨xss, h1.ts s, Paired.mapP h2 fun _ _ q => Paired.mapP q fun _ _ z => z.ts s⟩
theorem HandsL.at {H : Hp} {gs : List (List Part)} {vs : List V} {i : Nat} {v : V} (h : HandsL H gs vs) (e : vs[i]? = some v) : ∃ g, gs[i]? = some g ∧ HandAt H g v := by
  obtain ⟨xss, h1, h2⟩ := h
  obtain ⟨xs, ex, p, ev, hp⟩ := Paired.at h1 e
  obtain ⟨g, eg, hg⟩ := Paired.at h2 ex
  exact ⟨g, eg, p, xs, ev, hp, hg⟩
theorem HandsL.len {H : Hp} {gs : List (List Part)} {vs : List V} (h : HandsL H gs vs) : gs.length = vs.length := by
  obtain ⟨xss, h1, h2⟩ := h
  rw [Paired.length h2, Paired.length h1]
theorem tups_succ (m : Int) (k : Nat) : prodL (List.replicate (k + 1) (rng m)) = longer (prodL (List.replicate k (rng m))) (rng m) := by
  rw [List.replicate_succ', prodL_snoc]
theorem rng_len (m : Int) : (rng m).length = m.toNat := by
  unfold rng
  rw [List.length_map, List.length_range]
theorem tups_len (m : Int) (k : Nat) : (prodL (List.replicate k (rng m))).length = m.toNat ^ k := by
  induction k with
  | zero => rfl
  | succ k ih => rw [tups_succ, longer_len, ih, rng_len, Nat.pow_succ]
end NW
/-! ## Walks: all handings -/
namespace NW
open PySem PySem.Spec PyProof.Rows L2
set_option pp.maxSteps 150
-- an object's place in a heap
local macro_rules | `(tactic| walk_at "hp") => `(tactic| (show _ = some _; first
  | assumption
  | exact upd_same
  | (refine' upd_get ?n ?h; (case n => assumption); (case h => walk_at "hp"))
  | (refine' same_get ?n ?h; (case n => assumption); (case h => walk_at "hp"))))
-- a heap that has grown
local macro_rules | `(tactic| walk_at "sm") => `(tactic| first
  | assumption
  | exact Same.refl _
  | (refine' same_nw ?n ?h; (case h => assumption); (case n => walk_at "sm"))
  | (refine' Same.trans ?n ?h; (case h => assumption); (case n => walk_at "sm")))
local macro_rules | `(tactic| walk_at "ty") => `(tactic| first
  | exact TyN.int _
  | exact TyN.str _
  | exact TyN.non
  | (refine' TyN.tup ?h; (case h => walk_at "hp"))
  | (refine' TyN.lst ?h; (case h => walk_at "hp")))
-- a test whose answer is known
local macro_rules | `(tactic| walk_at "if") => `(tactic| first
  | (refine iteB (by decide +kernel) ?_)
  | (refine iteN (by decide +kernel) ?_)
  | (refine iteB (by rfl) ?_)
  | (refine iteN (by rfl) ?_)
  | (refine iteB (decide_eq_true (by first | omega | assumption)) ?_)
  | (refine iteN (decide_eq_false (by first | omega | assumption)) ?_)
  | (refine iteB (by simp only [Bool.not_eq_true', Bool.not_eq_false', Bool.and_eq_true, Bool.and_eq_false_iff, Bool.or_eq_true, Bool.or_eq_false_iff, decide_eq_true_eq, decide_eq_false_iff_not]; omega) ?_)
  | (refine iteN (by simp only [Bool.not_eq_true', Bool.not_eq_false', Bool.and_eq_true, Bool.and_eq_false_iff, Bool.or_eq_true, Bool.or_eq_false_iff, decide_eq_true_eq, decide_eq_false_iff_not]; omega) ?_))
-- one step of a reading
local macro_rules | `(tactic| walk_at "s") => `(tactic| first
  | refine ⟨_, rfl, ?_⟩
  | refine ⟨_, _, rfl, rfl, ?_⟩
  | refine And.intro (show wipe _ _ = wipe _ _ by kernel_rfl) ?_
  | refine And.intro rfl ?_
  | (refine' ⟨_, _, _, _, rfl, rfl, SqT.of ?h, ?e, ?_⟩; (case h => walk_at "hp"); (case e => exact rfl))
  | (refine' ⟨_, _, rfl, ?t, ?_⟩; (case t => walk_at "ty"))
  | (refine' ⟨_, _, rfl, SqT.of ?h, ?e, ?_⟩; (case h => walk_at "hp"); (case e => exact rfl))
  | refine ⟨_, _, rfl, ?_⟩
  | (refine' ⟨_, _, _, rfl, rfl, ?h1, ?h2, ?_⟩; (case h1 => walk_at "hp"); (case h2 => walk_at "hp"))
  | (refine' ⟨_, _, _, _, rfl, rfl, SqL.of ?h, ?e, ?_⟩; (case h => walk_at "hp"); (case e => exact rfl))
  | (refine' ⟨_, _, rfl, Or.inr (SqT.of ?h), ?_⟩; (case h => walk_at "hp"))
  | (refine' ⟨_, _, rfl, Or.inr (SqT.of ?h), rfl, rfl, ?_⟩; (case h => walk_at "hp"))
  | (refine' ⟨_, _, rfl, Or.inl (SqL.of ?h), ?_⟩; (case h => walk_at "hp"))
  | refine And.intro (flat_strs _) ?_
  | (refine And.intro (sm_sz (Nat.le_of_ble_eq_true rfl)) ?_; intro p np)
  | walk_at "if"
  | (refine' And.intro ?a ?_; (case a => first | assumption | exact sm_sz (by omega) | omega | exact Or.inr ⟨by omega, by omega⟩ | exact Or.inl ⟨by omega, by omega⟩ | exact ⟨by omega, by omega⟩))
  | refine Or.inl ⟨_, _, _, rfl, ?_⟩
  | refine Or.inr ⟨_, _, _, rfl, ?_⟩
  | (intro Hn sn))
local macro_rules | `(tactic| walk_at "go") => `(tactic| repeat (walk_at "s"))

abbrev s_parts_handed : Stmt := topS 36
abbrev N_parts_handed : List Str := ["program", "found", "name", "sort", "many", "cells", "empty"]
abbrev P_parts_handed : List Str := ["program"]
theorem sc_parts_handed : FnScope N_parts_handed P_parts_handed (defScope s_parts_handed) := ⟨rfl, rfl, rfl, by decide +kernel, rfl, by decide +kernel, by decide +kernel⟩

abbrev s_all_tuples : Stmt := topS 37
abbrev N_all_tuples : List Str := ["many", "cells", "found", "cell", "one", "worth"]
abbrev P_all_tuples : List Str := ["many", "cells"]
theorem sc_all_tuples : FnScope N_all_tuples P_all_tuples (defScope s_all_tuples) := ⟨rfl, rfl, rfl, by decide +kernel, rfl, by decide +kernel, by decide +kernel⟩

structure Pt where
  so : Str
  m : Int
  c : Option Int
def Pt.vs (d : Pt) : List V := [.str d.so, .int d.m, optV d.c]
def Pt.opts (d : Pt) : List Part := match d.c with
  | none => (rng d.m).map .w
  | some c => (tups d.m c).map .cs
def ptsP (p : Prog) : List Pt := p.handed.map (fun d => ⟨d.so, d.sz, none⟩) ++ (nonown p.lists).map fun d => ⟨d.so, d.wo, some d.cells⟩
def PD.pv (d : PD) : List V := [.str d.so, .int d.sz, .non]
def LD.pv (d : LD) : List V := [.str d.so, .int d.wo, .int d.cells]
theorem tupsL_of {α : Type} {f : α → List V} {H : Hp} : ∀ {ds : List α} {vs : List V}, Paired (fun d v => ∃ p, v = .ref p ∧ H p = some (.tup (f d))) ds vs → TupsL H (ds.map f) vs
  | _, _, .nil => .nil
  | _, _, .cons h t => .cons h (tupsL_of t)
theorem none_of {H H' : Hp} {p : Addr} (s : Same H H') (n : H' p = none) : H p = none := by
  cases e : H p with
  | none => rfl
  | some u =>
    rw [s p u e] at n
    cases n
theorem partsP_pts (p : Prog) : partsP p = (ptsP p).map fun d => (d.so, d.opts) := by
  unfold partsP ptsP
  rw [List.map_append, List.map_map, List.map_map]
  rfl
def sp_parts_handed : Sp := fun vs H Q _ => ∃ (p : Prog) (v : V), vs = [v] ∧ ProgAt H p v ∧ p.handed.length ≤ 6 ∧ okL p.lists ∧ ∀ H' q ws, Same H H' → H q = none → H' q = some (.lst ws) → TupsL H' ((ptsP p).map Pt.vs) ws → Q (.ref q) H'
def sp_all_tuples : Sp := fun vs H Q _ => ∃ m c : Int, vs = [.int m, .int c] ∧ 0 ≤ c ∧ c ≤ 9 ∧ (m = 1 ∨ (m = 2 ∧ c ≤ 2)) ∧ ∀ H' q ws, Same H H' → H' q = some (.lst ws) → TupsL H' ((tups m c).map fun xs => xs.map .int) ws → Q (.ref q) H'
structure okS (p : Prog) : Prop where
  len : p.handed.length ≤ 2
  sz : ∀ d ∈ p.handed, 1 ≤ d.sz ∧ d.sz ≤ 3
def sp_all_parts : Sp := fun vs H Q _ => ∃ (p : Prog) (v : V) (k : Str), vs = [v, .str k] ∧ ProgAt H p v ∧ okS p ∧ okL p.lists ∧ ∀ H' q ws, Same H H' → H' q = some (.lst ws) → HandsL H' (partsK p k) ws → Q (.ref q) H'
def sp_handing_of : Sp := fun vs H Q _ => ∃ (p : Prog) (v vo vh : V) (o h g : List Part), vs = [v, vo, vh] ∧ ProgAt H p v ∧ p.handed.length ≤ 6 ∧ okL p.lists ∧ HandAt H o vo ∧ HandAt H h vh ∧ weave ((ptsP p).map Pt.so) o h = some g ∧ ∀ H' v', Same H H' → HandAt H' g v' → Q v' H'
section
variable {P : Program} {w : World} {K : PySem.W.Frag} {mg : Str → Option Value} {base : Heap}
theorem ok_parts_handed (T : Tx mg) (D : DefAt K mg "parts_handed" s_parts_handed) : C8.Cal P w K mg base 1 "parts_handed" sp_parts_handed [] := by
  refine D.cal (k := 0) sc_parts_handed (fun _ _ _ _ _ _ us hl => match us, hl with | [_], _ => rfl) (fun vs H Q E h => ?_) (fun f cdv A outer s H vs Q E hr h => ⟨_, (pss_cons (ps_setLc (own := [("name", 2), ("sort", 3), ("many", 4)]) (g := (gTup K 3 (gCons (gName 2) (gCons (gName 3) (gCons (gName 4) gNil))))) (tt := tYes) (i := 1) rfl sc_parts_handed.nd rfl rfl (sw_true rfl rfl rfl (by decide +kernel)) (pi_tup (pe_ix ix_tup (pv 0) pe_int (fun _ _ => rfl))) (blkOk_by (own := [("name", 2), ("sort", 3), ("many", 4)]) (N := N_parts_handed) (sc := defScope s_parts_handed) (by decide +kernel)) (fun _ _ _ _ _ => (pg_tup rfl (pgs_cons (pg_name (i := 2) sc_parts_handed.nd rfl (Or.inl rfl)) (pgs_cons (pg_name (i := 3) sc_parts_handed.nd rfl (Or.inl rfl)) (pgs_cons (pg_name (i := 4) sc_parts_handed.nd rfl (Or.inl rfl)) pgs_nil))))) (fun _ _ _ _ _ => pts_nil) (fun _ _ _ _ _ => (pe_tup (pa_cons (pv 3) (pa_cons (pv 4) (pa_cons pe_non pa_nil))))))
    (pss_one (ps_ret (pe_op op_cat (pv 1) (pe_lc (own := [("name", 2), ("sort", 3), ("cells", 5), ("many", 4), ("empty", 6)]) (g := (gTup K 5 (gCons (gName 2) (gCons (gName 3) (gCons (gName 5) (gCons (gName 4) (gCons (gName 6) gNil))))))) rfl sc_parts_handed.nd (pi_tup (pe_ix ix_tup (pv 0) pe_int (fun _ _ => rfl))) (blkOk_by (own := [("name", 2), ("sort", 3), ("cells", 5), ("many", 4), ("empty", 6)]) (N := N_parts_handed) (sc := defScope s_parts_handed) (by decide +kernel)) (fun _ _ _ _ _ => (pg_tup rfl (pgs_cons (pg_name (i := 2) sc_parts_handed.nd rfl (Or.inl rfl)) (pgs_cons (pg_name (i := 3) sc_parts_handed.nd rfl (Or.inl rfl)) (pgs_cons (pg_name (i := 5) sc_parts_handed.nd rfl (Or.inl rfl)) (pgs_cons (pg_name (i := 4) sc_parts_handed.nd rfl (Or.inl rfl)) (pgs_cons (pg_name (i := 6) sc_parts_handed.nd rfl (Or.inl rfl)) pgs_nil))))))) (fun _ _ _ _ _ => (pts_one (pt_cmpR op_ne (pv 3) pe_str (nomark _)))) (fun _ _ _ _ _ => (pe_tup (pa_cons (pv 3) (pa_cons (pv 4) (pa_cons (pv 5) pa_nil)))))))))), ?_⟩)
  · obtain ⟨p, v, rfl, _⟩ := h
    rfl
  · obtain ⟨p, v, rfl, ⟨a, ah, al, ar, at_, hs, ls, rs, rfl, h0, h1, h2, h3, h4, h5, h6, h7⟩, hn, hL, q⟩ := h
    walk_at "go"
    refine ⟨⟨_, SqT.of h1⟩, fun D nD => ?_⟩
    refine lc_rel h2.walk (fun H d v => ∃ p, v = .ref p ∧ H p = some (.tup (PD.pv d))) (fun _ _ _ _ t ⟨p, e, q⟩ => ⟨p, e, t _ _ q⟩) nD (by omega) (fun _ s2 => SqT.of (s2 _ _ h1)) (fun i x H2 H3 d Kf k ed s2 y => ?_) (fun H2 acc s2 e2 pr => ?_)
    · obtain ⟨rfl, e'⟩ := y
      obtain ⟨d', pd, ed', rfl, hd⟩ := TupsL.at (h2.ts (same_ts s2)) e'
      cases ed.symm.trans ed'
      have hd : H3 pd = some (.tup [.str d.nm, .str d.so, .int d.sz]) := hd
      walk_at "go"
      exact k _ _ (same_nw (Same.refl _) (by assumption)) ⟨_, rfl, upd_same⟩
    have g0 := s2 _ _ h0
    have g3 := s2 _ _ h3
    have g4 := h4.ts (same_ts s2)
    walk_at "go"
    refine ⟨⟨_, SqT.of g3⟩, fun D2 nD2 => ?_⟩
    refine lc_inv (tt := tTest (tOp rNe (tVar 3) (tC (.str "own")))) g4.walk nD2 (by have := hL.len; omega) (fun i acc H => TupsL H ((nonown (p.lists.take i)).map LD.pv) acc) ?_ ?_ (fun _ s3 => SqT.of (s3 _ _ g3)) (fun i x H4 H5 acc Kf Kn kf kn hi s4 r y => ?_) (fun H4 acc2 s4 e4 _ r => ?_)
    · exact fun i acc H H' t h => TupsL.ts t h
    · exact Paired.nil
    · obtain ⟨rfl, e'⟩ := y
      obtain ⟨d, pd, ed, rfl, hd⟩ := TupsL.at (g4.ts (same_ts s4)) e'
      have hd : H5 pd = some (.tup [.str d.nm, .str d.so, .int d.cells, .int d.wo, .int d.em]) := hd
      have tk : nonown (p.lists.take (i + 1)) = nonown (p.lists.take i) ++ (if d.so = "own" then [] else [d]) := by
        obtain ⟨hi2, ed2⟩ := List.getElem?_eq_some_iff.mp ed
        unfold nonown
        rw [List.take_succ_eq_append_getElem hi2, ed2, List.filter_append]
        congr 1
        rw [List.filter_cons]
        by_cases c : d.so = "own"
        · rw [if_pos c, if_neg (by rw [decide_eq_true_eq]; exact fun z => z c)]
          rfl
        · rw [if_neg c, if_pos (by rw [decide_eq_true_eq]; exact c)]
          rfl
      walk_at "go"
      refine ite_b (fun c => ?_) (fun c => ?_)
      · have c : ¬ d.so = "own" := fun z => by
          rw [decide_eq_true (congrArg V.str z)] at c
          cases c
        walk_at "go"
        rename_i p3 n3
        refine kf _ _ (same_nw (Same.refl _) n3) ?_
        rw [tk, if_neg c, List.map_append]
        exact paired_app (TupsL.ts (ts_nw (TS.refl _) n3) r) (.cons ⟨p3, rfl, upd_same⟩ .nil)
      · have c : d.so = "own" := Classical.byContradiction fun z => by
          rw [decide_eq_false (fun y => z (V.str.inj y))] at c
          cases c
        refine kn _ (Same.refl _) ?_
        rw [tk, if_pos c, List.append_nil]
        exact r
    rw [List.take_length] at r
    have e5 := s4 _ _ e2
    have l1 : acc.length = p.handed.length := (Paired.length pr).symm
    have l2 : acc2.length ≤ 2 := by
      have := Paired.length r
      rw [List.length_map] at this
      rw [← this]
      unfold nonown
      exact Nat.le_trans (List.length_filter_le _ _) hL.len
    refine ⟨_, _, _, _, rfl, rfl, e5, e4, sm_sz (by omega), fun D3 nD3 => ?_⟩
    have t3 := ts_nw (o := .lst (acc ++ acc2)) (TS.refl _) nD3
    refine q _ D3 (acc ++ acc2) (same_nw (s2.trans s4) nD3) (none_of (s2.trans s4) nD3) upd_same ?_
    unfold ptsP
    rw [List.map_append, List.map_map, List.map_map]
    refine paired_app ?_ (r.ts t3)
    exact TupsL.ts ((same_ts s4).trans t3) (tupsL_of pr)
theorem ok_all_tuples (T : Tx mg) (D : DefAt K mg "all_tuples" s_all_tuples) : C8.Cal P w K mg base 1 "all_tuples" sp_all_tuples [] := by
  refine D.cal (k := 0) sc_all_tuples (fun _ _ _ _ _ _ us hl => match us, hl with | [_, _], _ => rfl) (fun vs H Q E h => ?_) (fun f cdv A outer s H vs Q E hr h => ⟨_, (pss_cons (ps_set (i := 2) sc_all_tuples.nd rfl (Or.inl rfl) (pe_lst (pa_cons (pe_tup pa_nil) pa_nil)))
    (pss_cons (ps_for PassesOwn.never rfl (pi_range1 (by rfl) T.range_ (pa_cons (pv 1) pa_nil)) (pg_name (i := 3) sc_all_tuples.nd rfl (Or.inl rfl))
    (pss_one (ps_setLc2 (own := [("one", 4), ("worth", 5)]) (vs1 := [5]) (g := (gName 4)) (tt := tYes) (g1 := (gName 5)) (tt1 := tYes) (i := 2) rfl sc_all_tuples.nd rfl rfl (sw_true rfl rfl rfl (by decide +kernel)) (pi_list (pv 2)) (blkOk_by (own := [("one", 4), ("worth", 5)]) (N := N_all_tuples) (sc := defScope s_all_tuples) (by decide +kernel)) (by decide) (fun _ _ _ _ _ => (pg_name (i := 4) sc_all_tuples.nd rfl (Or.inl rfl))) (fun _ _ _ _ _ => pts_nil) (fun _ _ _ _ _ => (pi_range1 (by rfl) T.range_ (pa_cons (pv 0) pa_nil))) (fun _ _ _ _ _ => (pg_name (i := 5) sc_all_tuples.nd rfl (Or.inl rfl))) (fun _ _ _ _ _ => pts_nil) (fun _ _ _ _ _ => (pe_op (op_catAK (K := K) rfl) (pv 4) (pe_tup (pa_cons (pv 5) pa_nil)))))))
    (pss_one (ps_ret (pv 2))))), ?_⟩)
  · obtain ⟨m, c, rfl, _⟩ := h
    rfl
  · obtain ⟨m, c, rfl, h0, h9, hm, q⟩ := h
    have bd : ∀ k : Nat, k ≤ c.toNat → (prodL (List.replicate k (rng m))).length ≤ 4 := fun k hk => by
      rw [tups_len]
      rcases hm with rfl | ⟨rfl, hc⟩
      · have : (1 : Int).toNat ^ k = 1 := Nat.one_pow k
        omega
      · have : k ≤ 2 := by omega
        have : (2 : Int).toNat ^ k ≤ 2 ^ 2 := Nat.pow_le_pow_right (by decide) this
        omega
    have lx : ∀ i : Nat, i ≤ 9 → ∀ xs ∈ prodL (List.replicate i (rng m)), (xs.map V.int).length ≤ 1000 := fun i hi xs h => by
      rw [List.length_map, prodL_mem_len h, List.length_replicate]
      omega
    walk_at "go"
    rename_i p1 n1 F nF
    refine for_it walk_range (fun i σ H' => Same H H' ∧ ∃ F ws, H' F = some (.lst ws) ∧ TupsL H' ((prodL (List.replicate i (rng m))).map fun xs => xs.map V.int) ws ∧ ∃ o3 o4 o5, σ = [some (.int m), some (.int c), some (.ref F), o3, o4, o5]) ⟨same_nw (same_nw (Same.refl _) n1) nF, F, _, upd_same, .cons ⟨p1, rfl, upd_get nF upd_same⟩ .nil, _, _, _, rfl⟩ (fun _ _ _ _ _ => True.intro) ?_ ?_
    · rintro i x σ H2 H3 hi ⟨s2, F, ws, hF, hw, o3, o4, o5, rfl⟩ ⟨rfl, rfl⟩
      have hb := bd i (by omega)
      have hb2 := bd (i + 1) (by omega)
      rw [tups_succ, longer_len, rng_len] at hb2
      walk_at "go"
      refine ⟨⟨_, SqL.of hF⟩, fun D nD => ?_⟩
      have lw : ws.length = (prodL (List.replicate i (rng m))).length := by rw [← Paired.length hw, List.length_map]
      refine lc2_out (walk_list (a := F) (xs := ws)) (fun j H' => Same H3 H' ∧ ∃ acc, H' D = some (.lst acc) ∧ TupsL H' ((longer ((prodL (List.replicate i (rng m))).take j) (rng m)).map fun xs => xs.map V.int) acc) ⟨same_nw (Same.refl _) nD, [], upd_same, .nil⟩ (fun j H' _ z => SqL.of (z.1 _ _ hF)) ?_ ?_
      · rintro j x H4 H5 hj ⟨s4, acc, hacc, hr⟩ ⟨rfl, e'⟩
        obtain ⟨xs, px, ex, rfl, hx⟩ := TupsL.at (hw.ts (same_ts s4)) e'
        walk_at "go"
        have ts4 := same_ts s4
        refine lc2_in walk_range (fun k H' => Same H3 H' ∧ H' px = some (.tup (xs.map .int)) ∧ ∃ acc, H' D = some (.lst acc) ∧ TupsL H' ((longer ((prodL (List.replicate i (rng m))).take j) (rng m)).map (fun xs => xs.map V.int) ++ ((rng m).take k).map (fun z => xs.map V.int ++ [V.int z])) acc) ⟨s4, hx, acc, hacc, by rw [List.take_zero, List.map_nil, List.append_nil]; exact hr⟩ (fun _ _ _ _ => True.intro) ?_ ?_
        · rintro k x H6 H7 hk ⟨s6, hx6, acc6, hacc6, hr6⟩ ⟨rfl, rfl⟩
          have la : acc6.length ≤ 100 := by
            rw [← Paired.length hr6, List.length_append, List.length_map, List.length_map, longer_len, List.length_take, List.length_take, rng_len]
            have : min j (prodL (List.replicate i (rng m))).length * m.toNat ≤ 4 * 4 := Nat.mul_le_mul (by omega) (by rcases hm with rfl | ⟨rfl, _⟩ <;> decide)
            have : m.toNat ≤ 2 := by rcases hm with rfl | ⟨rfl, _⟩ <;> decide
            omega
          have hx6' := hx6
          walk_at "go"
          rename_i p8 n8
          have tz : ((0 : Int) + (k : Int)) = ((k : Nat) : Int) := by omega
          have hk' : (rng m)[k]? = some (k : Int) := by
            unfold rng
            rw [List.getElem?_map, List.getElem?_range hk]
            rfl
          refine catA_1 (z := .int (k : Int)) (upd_get n8 hx6) (by rw [upd_same]; exact congrArg (fun i => some (HO.tup [V.int i])) tz) (lx i (by omega) xs (List.mem_of_getElem? ex)) fun p9 H8 s8 h8 => ?_
          have s78 : Same H7 H8 := (same_nw (Same.refl _) n8).trans s8
          have hacc8 := s78 _ _ hacc6
          have t9 : TS H8 (upd H8 D (.lst (acc6 ++ [.ref p9]))) := ts_mut (TS.refl _) hacc8 (fun _ z => nomatch z)
          refine ⟨acc6, hacc8, sm_lt (by omega), same_mut (s6.trans s78) nD, t9 _ _ (s78 _ _ hx6), _, upd_same, ?_⟩
          obtain ⟨hk2, ek⟩ := List.getElem?_eq_some_iff.mp hk'
          rw [List.take_succ_eq_append_getElem hk2, ek, List.map_append, ← List.append_assoc]
          exact paired_app (TupsL.ts ((same_ts s78).trans t9) hr6) (.cons ⟨p9, rfl, t9 _ _ h8⟩ .nil)
        · rintro H6 ⟨s6, hx6, acc6, hacc6, hr6⟩
          refine ⟨s6, acc6, hacc6, ?_⟩
          rw [longer_snoc ex, List.map_append, List.map_map]
          rw [show (rng m).take m.toNat = rng m from by rw [← rng_len m, List.take_length]] at hr6
          have fe : ((fun xs => List.map V.int xs) ∘ fun x => xs ++ [x]) = fun z => xs.map V.int ++ [V.int z] := by
            funext z
            show (xs ++ [z]).map V.int = _
            rw [List.map_append]
            rfl
          rw [fe]
          exact hr6
      · rintro H4 ⟨s4, acc, hacc, hr⟩
        rw [lw, List.take_length, ← tups_succ] at hr
        exact ⟨s2.trans s4, D, acc, hacc, hr, _, _, _, rfl⟩
    · rintro σ H2 ⟨s2, F, ws, hF, hw, o3, o4, o5, rfl⟩
      walk_at "go"
      exact q _ F ws s2 hF hw
end
end NW
/-! ## Walks: all parts of a kind; one handing -/
namespace NW
open PySem PySem.Spec PyProof.Rows L2
set_option pp.maxSteps 150
-- an object's place in a heap
local macro_rules | `(tactic| walk_at "hp") => `(tactic| (show _ = some _; first
  | assumption
  | exact upd_same
  | (refine' upd_get ?n ?h; (case n => assumption); (case h => walk_at "hp"))
  | (refine' same_get ?n ?h; (case n => assumption); (case h => walk_at "hp"))))
-- a heap that has grown
local macro_rules | `(tactic| walk_at "sm") => `(tactic| first
  | assumption
  | exact Same.refl _
  | (refine' same_nw ?n ?h; (case h => assumption); (case n => walk_at "sm"))
  | (refine' Same.trans ?n ?h; (case h => assumption); (case n => walk_at "sm")))
local macro_rules | `(tactic| walk_at "ty") => `(tactic| first
  | exact TyN.int _
  | exact TyN.str _
  | exact TyN.non
  | (refine' TyN.tup ?h; (case h => walk_at "hp"))
  | (refine' TyN.lst ?h; (case h => walk_at "hp")))
-- a test whose answer is known
local macro_rules | `(tactic| walk_at "if") => `(tactic| first
  | (refine iteB (by decide +kernel) ?_)
  | (refine iteN (by decide +kernel) ?_)
  | (refine iteB (by rfl) ?_)
  | (refine iteN (by rfl) ?_)
  | (refine iteB (decide_eq_true (by first | omega | assumption)) ?_)
  | (refine iteN (decide_eq_false (by first | omega | assumption)) ?_)
  | (refine iteB (by simp only [Bool.not_eq_true', Bool.not_eq_false', Bool.and_eq_true, Bool.and_eq_false_iff, Bool.or_eq_true, Bool.or_eq_false_iff, decide_eq_true_eq, decide_eq_false_iff_not]; omega) ?_)
  | (refine iteN (by simp only [Bool.not_eq_true', Bool.not_eq_false', Bool.and_eq_true, Bool.and_eq_false_iff, Bool.or_eq_true, Bool.or_eq_false_iff, decide_eq_true_eq, decide_eq_false_iff_not]; omega) ?_))
-- one step of a reading
local macro_rules | `(tactic| walk_at "s") => `(tactic| first
  | refine ⟨_, rfl, ?_⟩
  | refine ⟨_, _, rfl, rfl, ?_⟩
  | refine And.intro (show wipe _ _ = wipe _ _ by kernel_rfl) ?_
  | refine And.intro rfl ?_
  | (refine' ⟨_, _, _, _, rfl, rfl, SqT.of ?h, ?e, ?_⟩; (case h => walk_at "hp"); (case e => exact rfl))
  | (refine' ⟨_, _, rfl, ?t, ?_⟩; (case t => walk_at "ty"))
  | (refine' ⟨_, _, rfl, SqT.of ?h, ?e, ?_⟩; (case h => walk_at "hp"); (case e => exact rfl))
  | refine ⟨_, _, rfl, ?_⟩
  | (refine' ⟨_, _, _, rfl, rfl, ?h1, ?h2, ?_⟩; (case h1 => walk_at "hp"); (case h2 => walk_at "hp"))
  | (refine' ⟨_, _, _, _, rfl, rfl, SqL.of ?h, ?e, ?_⟩; (case h => walk_at "hp"); (case e => exact rfl))
  | (refine' ⟨_, _, rfl, Or.inr (SqT.of ?h), ?_⟩; (case h => walk_at "hp"))
  | (refine' ⟨_, _, rfl, Or.inr (SqT.of ?h), rfl, rfl, ?_⟩; (case h => walk_at "hp"))
  | (refine' ⟨_, _, rfl, Or.inl (SqL.of ?h), ?_⟩; (case h => walk_at "hp"))
  | refine And.intro (flat_strs _) ?_
  | (refine And.intro (sm_sz (Nat.le_of_ble_eq_true rfl)) ?_; intro p np)
  | walk_at "if"
  | (refine' And.intro ?a ?_; (case a => first | assumption | exact sm_sz (by omega) | omega | exact Or.inr ⟨by omega, by omega⟩ | exact Or.inl ⟨by omega, by omega⟩ | exact ⟨by omega, by omega⟩))
  | refine Or.inl ⟨_, _, _, rfl, ?_⟩
  | refine Or.inr ⟨_, _, _, rfl, ?_⟩
  | (intro Hn sn))
local macro_rules | `(tactic| walk_at "go") => `(tactic| repeat (walk_at "s"))

abbrev s_all_parts : Stmt := topS 38
abbrev N_all_parts : List Str := ["program", "kind", "found", "sort", "many", "cells", "some", "one", "other"]
abbrev P_all_parts : List Str := ["program", "kind"]
theorem sc_all_parts : FnScope N_all_parts P_all_parts (defScope s_all_parts) := ⟨rfl, rfl, rfl, by decide +kernel, rfl, by decide +kernel, by decide +kernel⟩

abbrev s_handing_of : Stmt := topS 39
abbrev N_handing_of : List Str := ["program", "open_part", "hidden_part", "opens", "hiddens", "found", "sort", "many", "cells"]
abbrev P_handing_of : List Str := ["program", "open_part", "hidden_part"]
theorem sc_handing_of : FnScope N_handing_of P_handing_of (defScope s_handing_of) := ⟨rfl, rfl, rfl, by decide +kernel, rfl, by decide +kernel, by decide +kernel⟩

theorem opts_len {p : Prog} (hS : okS p) (hL : okL p.lists) : ∀ d ∈ ptsP p, d.opts.length ≤ 4 ∧ (∀ c, d.c = some c → 0 ≤ c ∧ c ≤ 9 ∧ (d.m = 1 ∨ (d.m = 2 ∧ c ≤ 2))) ∧ (d.c = none → 1 ≤ d.m ∧ d.m ≤ 3) := by
  intro d m
  unfold ptsP at m
  rcases List.mem_append.mp m with m | m
  · obtain ⟨h, mh, rfl⟩ := List.mem_map.mp m
    obtain ⟨h1, h2⟩ := hS.sz h mh
    refine ⟨?_, (fun c e => by cases e), fun _ => ⟨h1, h2⟩⟩
    show ((rng h.sz).map Part.w).length ≤ 4
    rw [List.length_map, rng_len]
    omega
  · obtain ⟨l, ml, rfl⟩ := List.mem_map.mp m
    have ml : l ∈ p.lists := (List.mem_filter.mp ml).1
    obtain ⟨h1, h2, h3, h4⟩ := hL.ok l ml
    have sm := hL.sm l ml
    refine ⟨?_, (fun c e => by cases e; exact ⟨by omega, h4, sm⟩), (fun e => by cases e)⟩
    show ((tups l.wo l.cells).map Part.cs).length ≤ 4
    rw [List.length_map]
    unfold tups
    rw [tups_len]
    rcases sm with sm | ⟨sm, hc⟩
    · rw [sm]
      have : (1 : Int).toNat ^ l.cells.toNat = 1 := Nat.one_pow _
      omega
    · rw [sm]
      have : (2 : Int).toNat ^ l.cells.toNat ≤ 2 ^ 2 := Nat.pow_le_pow_right (by decide) (by omega)
      omega
theorem pts_len {p : Prog} (hS : okS p) (hL : okL p.lists) : (ptsP p).length ≤ 4 := by
  unfold ptsP nonown
  rw [List.length_append, List.length_map, List.length_map]
  have := List.length_filter_le (fun d : LD => decide (d.so ≠ "own")) p.lists
  have := hS.len
  have := hL.len
  omega
theorem prodL_len_le {α : Type} {os : List (List α)} (h : ∀ o ∈ os, o.length ≤ 4) : (prodL os).length ≤ 4 ^ os.length := by
  have : ∀ (f : List (List α)), (os.foldl longer f).length ≤ f.length * 4 ^ os.length := by
    induction os with
    | nil => exact fun f => Nat.le_of_eq (Nat.mul_one _).symm
    | cons o os ih =>
      intro f
      refine Nat.le_trans (ih (fun o m => h o (List.mem_cons_of_mem _ m)) (longer f o)) ?_
      rw [longer_len, List.length_cons, Nat.pow_succ, Nat.mul_comm (4 ^ os.length) 4, ← Nat.mul_assoc]
      exact Nat.mul_le_mul_right _ (Nat.mul_le_mul_left _ (h o List.mem_cons_self))
  have := this [[]]
  rwa [List.length_singleton, Nat.one_mul] at this
/-- the parts of a kind among the first i -/
def partsN (p : Prog) (k : Str) (i : Nat) : List (List Part) := prodL ((((ptsP p).take i).filter fun d => decide (d.so = k)).map Pt.opts)
theorem partsN_all (p : Prog) (k : Str) : partsN p k (ptsP p).length = partsK p k := by
  unfold partsN partsK
  rw [List.take_length, partsP_pts, List.filter_map, List.map_map]
  rfl
theorem partsN_succ {p : Prog} {k : Str} {i : Nat} {d : Pt} (e : (ptsP p)[i]? = some d) : partsN p k (i + 1) = if d.so = k then longer (partsN p k i) d.opts else partsN p k i := by
  obtain ⟨hi, ed⟩ := List.getElem?_eq_some_iff.mp e
  unfold partsN
  rw [List.take_succ_eq_append_getElem hi, ed, List.filter_append, List.map_append]
  by_cases c : d.so = k
  · rw [if_pos c, List.filter_cons, if_pos (decide_eq_true c)]
    exact prodL_snoc _ _
  · rw [if_neg c, List.filter_cons, if_neg (by rw [decide_eq_true_eq]; exact c)]
    show prodL (_ ++ []) = _
    rw [List.append_nil]
theorem partsN_le {p : Prog} {k : Str} {i : Nat} (hS : okS p) (hL : okL p.lists) : (partsN p k i).length ≤ 256 ∧ ∀ g ∈ partsN p k i, g.length ≤ 4 := by
  have l := pts_len hS hL
  have l2 : ((((ptsP p).take i).filter fun d => decide (d.so = k)).map Pt.opts).length ≤ 4 := by
    rw [List.length_map]
    refine Nat.le_trans (List.length_filter_le _ _) ?_
    rw [List.length_take]
    omega
  constructor
  · refine Nat.le_trans (prodL_len_le fun o m => ?_) (Nat.pow_le_pow_right (by decide) l2)
    obtain ⟨d, md, rfl⟩ := List.mem_map.mp m
    exact (opts_len hS hL d (List.mem_of_mem_take (List.mem_filter.mp md).1)).1
  · intro g m
    rw [prodL_mem_len m]
    exact l2
theorem weave_open {s : Str} {r : List Str} {o h g : List Part} (c : s = "open") (e : weave (s :: r) o h = some g) : ∃ x o2 g2, o = x :: o2 ∧ g = x :: g2 ∧ weave r o2 h = some g2 := by
  unfold weave at e
  rw [if_pos c] at e
  cases o with
  | nil => cases e
  | cons x o2 =>
    obtain ⟨g2, e2, rfl⟩ := Option.map_eq_some_iff.mp e
    exact ⟨x, o2, g2, rfl, rfl, e2⟩
theorem weave_hid {s : Str} {r : List Str} {o h g : List Part} (c : ¬ s = "open") (e : weave (s :: r) o h = some g) : ∃ x h2 g2, h = x :: h2 ∧ g = x :: g2 ∧ weave r o h2 = some g2 := by
  unfold weave at e
  rw [if_neg c] at e
  cases h with
  | nil => cases e
  | cons x h2 =>
    obtain ⟨g2, e2, rfl⟩ := Option.map_eq_some_iff.mp e
    exact ⟨x, h2, g2, rfl, rfl, e2⟩
theorem rg_parts (H : Hp) (m : Int) : Paired (PartAt H) ((rng m).map Part.w) (rgV 0 m) := by
  unfold rng rgV
  rw [Int.sub_zero, List.map_map]
  generalize List.range m.toNat = l
  induction l with
  | nil => exact .nil
  | cons x l ih => exact .cons (show V.int (0 + (x : Int)) = V.int (x : Int) by rw [Int.zero_add]) ih
theorem tups_parts {H : Hp} : ∀ {xss : List (List Int)} {zs : List V}, TupsL H (xss.map fun xs => xs.map V.int) zs → Paired (PartAt H) (xss.map Part.cs) zs
  | [], _, .nil => .nil
  | _ :: _, _, .cons h t => .cons h (tups_parts t)
theorem Paired.one {α β : Type} {F : α → β → Prop} : ∀ {xs : List α} {ys : List β} {i : Nat} {x : α}, Paired F xs ys → xs[i]? = some x → ∃ y, ys[i]? = some y ∧ F x y
  | _, _, _, _, .nil, e => by cases e
  | _, _, 0, _, .cons r _, e => by
    cases e
    exact ⟨_, rfl, r⟩
  | _, _, _ + 1, _, .cons _ t, e => by
    obtain ⟨a, e', q⟩ := Paired.one t e
    exact ⟨a, e', q⟩
theorem Paired.take {α β : Type} {F : α → β → Prop} : ∀ {xs : List α} {ys : List β} (i : Nat), Paired F xs ys → Paired F (xs.take i) (ys.take i)
  | _, _, 0, _ => by
    rw [List.take_zero, List.take_zero]
    exact .nil
  | _, _, _ + 1, .nil => .nil
  | _, _, i + 1, .cons r t => .cons r (Paired.take i t)
section
variable {P : Program} {w : World} {K : PySem.W.Frag} {mg : Str → Option Value} {base : Heap}
theorem ok_all_parts (T : Tx mg) (D : DefAt K mg "all_parts" s_all_parts) (c_parts_handed : C8.Cal P w K mg base 1 "parts_handed" sp_parts_handed []) (c_all_tuples : C8.Cal P w K mg base 1 "all_tuples" sp_all_tuples []) : C8.Cal P w K mg base 2 "all_parts" sp_all_parts [] := by
  refine D.cal (k := 1) sc_all_parts (fun _ _ _ _ _ _ us hl => match us, hl with | [_, _], _ => rfl) (fun vs H Q E h => ?_) (fun f cdv A outer s H vs Q E hr h => ⟨_, (pss_cons (ps_set (i := 2) sc_all_parts.nd rfl (Or.inl rfl) (pe_lst (pa_cons (pe_tup pa_nil) pa_nil)))
    (pss_cons (ps_for PassesOwn.never rfl (pi_list (C8.pe_c c_parts_handed hr (by omega) (by rfl) (pa_cons (pv 0) pa_nil))) (pg_tup rfl (pgs_cons (pg_name (i := 3) sc_all_parts.nd rfl (Or.inl rfl)) (pgs_cons (pg_name (i := 4) sc_all_parts.nd rfl (Or.inl rfl)) (pgs_cons (pg_name (i := 5) sc_all_parts.nd rfl (Or.inl rfl)) pgs_nil))))
    (pss_one (ps_if (pt_cmpR op_eq (pv 3) (pv 1) (nomark _)) (pss_cons (ps_set (i := 6) sc_all_parts.nd rfl (Or.inr rfl) (pe_ifExp (pt_cmpR op_isN (pv 5) pe_non (nomark _)) (pe_listRg rfl (by rfl) T.list_ (prg_1 (by rfl) T.range_ (pv 4))) (C8.pe_c c_all_tuples hr (by omega) (by rfl) (pa_cons (pv 4) (pa_cons (pv 5) pa_nil)))))
    (pss_one (ps_setLc2 (own := [("one", 7), ("other", 8)]) (vs1 := [8]) (g := (gName 7)) (tt := tYes) (g1 := (gName 8)) (tt1 := tYes) (i := 2) rfl sc_all_parts.nd rfl rfl (sw_true rfl rfl rfl (by decide +kernel)) (pi_list (pv 2)) (blkOk_by (own := [("one", 7), ("other", 8)]) (N := N_all_parts) (sc := defScope s_all_parts) (by decide +kernel)) (by decide) (fun _ _ _ _ _ => (pg_name (i := 7) sc_all_parts.nd rfl (Or.inl rfl))) (fun _ _ _ _ _ => pts_nil) (fun _ _ _ _ _ => (pi_listK (K := K) rfl (pv 6))) (fun _ _ _ _ _ => (pg_name (i := 8) sc_all_parts.nd rfl (Or.inl rfl))) (fun _ _ _ _ _ => pts_nil) (fun _ _ _ _ _ => (pe_op (op_catAK (K := K) rfl) (pv 7) (pe_tup (pa_cons (pv 8) pa_nil)))))))
    pss_nil)))
    (pss_one (ps_ret (pv 2))))), ?_⟩)
  · obtain ⟨p, v, k, rfl, _⟩ := h
    rfl
  · obtain ⟨p, v, k, rfl, hp, hS, hL, q⟩ := h
    walk_at "go"
    rename_i p1 n1 F0 nF0
    have s0 : Same H (upd (upd H p1 (.tup [])) F0 (.lst [.ref p1])) := same_nw (same_nw (Same.refl _) n1) nF0
    refine ⟨p, v, rfl, hp.ts (same_ts s0), by have := hS.len; omega, hL, fun H1 a ws s1 na ha hw => ?_⟩
    refine ⟨_, rfl, ⟨_, SqL.of ha⟩, ?_⟩
    have lw : (ptsP p).length = ws.length := TupsL.len hw
    refine for_it (walk_list (a := a) (xs := ws)) (fun i σ H' => Same H1 H' ∧ ∃ F vs, H' F = some (.lst vs) ∧ HandsL H' (partsN p k i) vs ∧ ∃ o3 o4 o5 o6 o7 o8, σ = [some v, some (.str k), some (.ref F), o3, o4, o5, o6, o7, o8]) ⟨Same.refl _, F0, _, s1 _ _ upd_same, ⟨[[]], .cons ⟨p1, rfl, s1 _ _ (upd_get nF0 upd_same)⟩ .nil, .cons .nil .nil⟩, _, _, _, _, _, _, rfl⟩ (fun i σ H' _ z => SqL.of (z.1 _ _ ha)) ?_ ?_
    · rintro i x σ H2 H3 hi ⟨s3, F, vs, hF, hvs, o3, o4, o5, o6, o7, o8, rfl⟩ ⟨rfl, e⟩
      obtain ⟨d, pd, ed, rfl, hd⟩ := TupsL.at (hw.ts (same_ts s3)) e
      obtain ⟨z1, z2, z3⟩ := opts_len hS hL d (List.mem_of_getElem? ed)
      obtain ⟨b1, b2⟩ := partsN_le (k := k) (i := i) hS hL
      have succ := partsN_succ (k := k) ed
      have hd : H3 pd = some (.tup [.str d.so, .int d.m, optV d.c]) := hd
      walk_at "go"
      refine ite_b (fun c => ?_) (fun c => ?_)
      · have c : d.so = k := V.str.inj (of_decide_eq_true c)
        rw [if_pos c] at succ
        rcases ec : d.c with _ | cc
        have z4 := z3 ec
        walk_at "go"
        rename_i so nso
        have s4 : Same H3 (upd H3 so (.lst (rgV 0 d.m))) := same_nw (Same.refl _) nso
        have hso : (upd H3 so (.lst (rgV 0 d.m))) so = some (.lst (rgV 0 d.m)) := upd_same
        have hzs : Paired (PartAt (upd H3 so (.lst (rgV 0 d.m)))) d.opts (rgV 0 d.m) := by
          unfold Pt.opts
          rw [ec]
          exact rg_parts _ _
        generalize upd H3 so (.lst (rgV 0 d.m)) = H4 at s4 hso hzs ⊢
        generalize rgV 0 d.m = zs at hso hzs
        rotate_left 1
        obtain ⟨z5, z6, z7⟩ := z2 cc ec
        walk_at "go"
        rename_i H4 so zs s4 hso hzz
        have hzs : Paired (PartAt H4) d.opts zs := by
          unfold Pt.opts
          rw [ec]
          exact tups_parts hzz
        all_goals
          have hF4 := s4 _ _ hF
          obtain ⟨xss, hx1, hx2⟩ := hvs.ts (same_ts s4)
          have lx : xss.length = vs.length := Paired.length hx1
          have lp : (partsN p k i).length = xss.length := Paired.length hx2
          have lz : d.opts.length = zs.length := Paired.length hzs
          refine ⟨⟨_, SqL.of hF4⟩, fun D nD => ?_⟩
          refine lc2_out (walk_list (a := F) (xs := vs)) (fun j H' => Same H4 H' ∧ ∃ acc, H' D = some (.lst acc) ∧ TupsL H' (longer (xss.take j) zs) acc) ⟨same_nw (Same.refl _) nD, [], upd_same, .nil⟩ (fun j H' _ z => SqL.of (z.1 _ _ hF4)) ?_ ?_
          · rintro j x H5 H6 hj ⟨s5, acc, hacc, hr⟩ ⟨rfl, e'⟩
            obtain ⟨xs, ex, px, rfl, hxs⟩ := Paired.at hx1 e'
            obtain ⟨g, eg, hg⟩ := Paired.at hx2 ex
            have lg : xs.length ≤ 4 := by
              rw [← Paired.length hg]
              exact b2 g (List.mem_of_getElem? eg)
            have hso6 := s5 _ _ hso
            walk_at "go"
            refine ⟨⟨_, SqL.of hso6⟩, ?_⟩
            refine lc2_in (walk_list (a := so) (xs := zs)) (fun m H' => Same H4 H' ∧ ∃ acc, H' D = some (.lst acc) ∧ TupsL H' (longer (xss.take j) zs ++ (zs.take m).map fun z => xs ++ [z]) acc) ⟨s5, acc, hacc, by rw [List.take_zero, List.map_nil, List.append_nil]; exact hr⟩ (fun j H' _ z => SqL.of (z.1 _ _ hso)) ?_ ?_
            · rintro m z H7 H8 hm ⟨s7, acc7, hacc7, hr7⟩ ⟨rfl, e8⟩
              have hx8 := s7 _ _ hxs
              have la : acc7.length ≤ 2000 := by
                rw [← Paired.length hr7, List.length_append, List.length_map, longer_len, List.length_take, List.length_take, ← lz]
                have : min j xss.length * d.opts.length ≤ 256 * 4 := Nat.mul_le_mul (by omega) z1
                omega
              walk_at "go"
              rename_i p8 n8
              refine catA_1 (z := z) (upd_get n8 hx8) upd_same (by omega) fun p9 H9 s9 h9 => ?_
              have s79 : Same H8 H9 := (same_nw (Same.refl _) n8).trans s9
              have hacc9 := s79 _ _ hacc7
              have t9 : TS H9 (upd H9 D (.lst (acc7 ++ [.ref p9]))) := ts_mut (TS.refl _) hacc9 (fun _ z => nomatch z)
              refine ⟨acc7, hacc9, sm_lt (by omega), same_mut (s7.trans s79) nD, _, upd_same, ?_⟩
              obtain ⟨hk2, ek⟩ := List.getElem?_eq_some_iff.mp e8
              rw [List.take_succ_eq_append_getElem hk2, ek, List.map_append, ← List.append_assoc]
              exact paired_app (TupsL.ts ((same_ts s79).trans t9) hr7) (.cons ⟨p9, rfl, t9 _ _ h9⟩ .nil)
            · rintro H7 ⟨s7, acc7, hacc7, hr7⟩
              refine ⟨s7, acc7, hacc7, ?_⟩
              rw [longer_snoc ex]
              rw [List.take_length] at hr7
              exact hr7
          · rintro H5 ⟨s5, acc, hacc, hr⟩
            rw [← lx, List.take_length] at hr
            rw [succ]
            refine ⟨(s3.trans s4).trans s5, D, acc, hacc, ⟨_, hr, ?_⟩, _, _, _, _, _, _, rfl⟩
            exact pair_longer (Paired.mapP hx2 fun _ _ q => Paired.mapP q fun _ _ z => z.ts (same_ts s5)) (Paired.mapP hzs fun _ _ z => z.ts (same_ts s5))
      · have c : ¬ d.so = k := fun z => of_decide_eq_false c (congrArg V.str z)
        rw [if_neg c] at succ
        rw [← succ] at hvs
        exact ⟨s3, F, vs, hF, hvs, _, _, _, _, _, _, rfl⟩
    · rintro σ H2 ⟨s3, F, vs, hF, hvs, o3, o4, o5, o6, o7, o8, rfl⟩
      rw [← lw, partsN_all] at hvs
      walk_at "go"
      exact q _ F vs ((s0.trans s1).trans s3) hF hvs
theorem ok_handing_of (T : Tx mg) (D : DefAt K mg "handing_of" s_handing_of) (c_parts_handed : C8.Cal P w K mg base 1 "parts_handed" sp_parts_handed []) : C8.Cal P w K mg base 2 "handing_of" sp_handing_of [] := by
  refine D.cal (k := 1) sc_handing_of (fun _ _ _ _ _ _ us hl => match us, hl with | [_, _, _], _ => rfl) (fun vs H Q E h => ?_) (fun f cdv A outer s H vs Q E hr h => ⟨_, (pss_cons (ps_par3 (i := 3) (j := 4) (l := 5) rfl sc_handing_of.nd rfl rfl rfl (by decide) (by decide) (by decide) rfl rfl rfl (pa_cons (pe_callTy call_list_of (by rfl) T.list_ (by decide +kernel) (pa_cons (pv 1) pa_nil)) (pa_cons (pe_callTy call_list_of (by rfl) T.list_ (by decide +kernel) (pa_cons (pv 2) pa_nil)) (pa_cons (pe_lst pa_nil) pa_nil))) (by rfl))
    (pss_cons (ps_for PassesOwn.never rfl (pi_list (C8.pe_c c_parts_handed hr (by omega) (by rfl) (pa_cons (pv 0) pa_nil))) (pg_tup rfl (pgs_cons (pg_name (i := 6) sc_handing_of.nd rfl (Or.inl rfl)) (pgs_cons (pg_name (i := 7) sc_handing_of.nd rfl (Or.inl rfl)) (pgs_cons (pg_name (i := 8) sc_handing_of.nd rfl (Or.inl rfl)) pgs_nil))))
    (pss_one (ps_expr (pe_bm PySem.F.plainAttrs_list PySem.F.slot_list_append PySem.F.type_list_append mt_append (pv 5) (pa_cons (pe_ifExp (pt_cmpR op_eq (pv 6) pe_str (nomark _)) (pe_bm PySem.F.plainAttrs_list PySem.F.slot_list_pop PySem.F.type_list_pop mt_popAt (pv 3) (pa_cons pe_int pa_nil)) (pe_bm PySem.F.plainAttrs_list PySem.F.slot_list_pop PySem.F.type_list_pop mt_popAt (pv 4) (pa_cons pe_int pa_nil))) pa_nil)))))
    (pss_one (ps_ret (pe_callTy call_tuple_of (by rfl) T.tuple_ (by decide +kernel) (pa_cons (pv 5) pa_nil)))))), ?_⟩)
  · obtain ⟨p, v, vo, vh, o, h, g, rfl, _⟩ := h
    rfl
  · obtain ⟨p, v, vo, vh, o, h, g, rfl, hp, hn, hL, ⟨po, os, rfl, ho, hos⟩, ⟨ph, hs, rfl, hh, hhs⟩, ew, q⟩ := h
    walk_at "go"
    rename_i O nO Hd nHd F nF
    have s0 : Same H (upd (upd (upd H O (.lst os)) Hd (.lst hs)) F (.lst [])) := same_nw (same_nw (same_nw (Same.refl _) nO) nHd) nF
    have dOH : O ≠ Hd := ne_of_none upd_same nHd
    have dOF : O ≠ F := ne_of_none (upd_get nHd upd_same) nF
    have dHF : Hd ≠ F := ne_of_none upd_same nF
    refine ⟨_, _, _, rfl, ?_⟩
    refine ⟨_, rfl, p, v, rfl, hp.ts (same_ts s0), hn, hL, fun H1 A ws s1 nA hA hw => ?_⟩
    have fO := s1 _ _ (upd_get nF (upd_get nHd (upd_same (H := H) (a := O) (o := .lst os))))
    have fH := s1 _ _ (upd_get nF (upd_same (H := upd H O (.lst os)) (a := Hd) (o := .lst hs)))
    have fF := s1 _ _ (upd_same (H := upd (upd H O (.lst os)) Hd (.lst hs)) (a := F) (o := .lst []))
    have dA : A ≠ O ∧ A ≠ Hd ∧ A ≠ F := ⟨(fun e => by subst e; rw [upd_get nF (upd_get nHd upd_same)] at nA; cases nA), (fun e => by subst e; rw [upd_get nF upd_same] at nA; cases nA), (fun e => by subst e; rw [upd_same] at nA; cases nA)⟩
    obtain ⟨dAO, dAH, dAF⟩ := dA
    have nO' : H O = none := nO
    have nH' : H Hd = none := none_of (same_nw (Same.refl _) nO) nHd
    have nF' : H F = none := none_of (same_nw (same_nw (Same.refl _) nO) nHd) nF
    have lw : (ptsP p).length = ws.length := TupsL.len hw
    have lp : (ptsP p).length ≤ 100 := by
      unfold ptsP nonown
      rw [List.length_append, List.length_map, List.length_map]
      have := List.length_filter_le (fun d : LD => decide (d.so ≠ "own")) p.lists
      have := hL.len
      omega
    refine ⟨_, rfl, ⟨_, SqL.of hA⟩, ?_⟩
    refine for_it (walk_list (a := A) (xs := ws)) (fun i σ H' => Same H H' ∧ H' A = some (.lst ws) ∧ TupsL H' ((ptsP p).map Pt.vs) ws ∧ (∃ o' h' os' hs' g1 g2 fs, H' O = some (.lst os') ∧ H' Hd = some (.lst hs') ∧ H' F = some (.lst fs) ∧ Paired (PartAt H) o' os' ∧ Paired (PartAt H) h' hs' ∧ Paired (PartAt H) g1 fs ∧ fs.length ≤ i ∧ g = g1 ++ g2 ∧ weave (((ptsP p).drop i).map Pt.so) o' h' = some g2) ∧
      ∃ o6 o7 o8, σ = [some v, some (.ref po), some (.ref ph), some (.ref O), some (.ref Hd), some (.ref F), o6, o7, o8]) ⟨s0.trans s1, hA, hw, ⟨o, h, os, hs, [], g, [], fO, fH, fF, hos, hhs, .nil, Nat.le_refl _, rfl, ew⟩, _, _, _, rfl⟩ (fun i σ H' _ z => SqL.of z.2.1) ?_ ?_
    · rintro i x σ H2 H3 hi ⟨s3, hA3, hw3, ⟨o', h', os', hs', g1, g2, fs, gO, gH, gF, po', ph', pf, lf, eg, ew⟩, o6, o7, o8, rfl⟩ ⟨rfl, e⟩
      obtain ⟨d, pd, ed, rfl, hd⟩ := TupsL.at hw3 e
      have hd : H3 pd = some (.tup [.str d.so, .int d.m, optV d.c]) := hd
      rw [drop_cons ed] at ew
      walk_at "go"
      refine ⟨.inl ⟨rfl, _, SqL.of gF⟩, ?_⟩
      walk_at "go"
      refine ite_b (fun c => ?_) (fun c => ?_)
      · have c : d.so = "open" := V.str.inj (of_decide_eq_true c)
        obtain ⟨x1, o2, g3, rfl, rfl, ew2⟩ := weave_open c ew
        cases po' with
        | cons hq po' =>
          walk_at "go"
          refine ⟨.inl ⟨rfl, _, SqL.of gO⟩, ?_⟩
          refine ⟨_, _, 0, 0, _, rfl, rfl, gO, by decide, by decide, by simp [seqIndex?], rfl, ?_⟩
          refine ⟨_, _, _, rfl, rfl, (upd_mut (Ne.symm dOF) gF), sm_lt (by omega), ?_⟩
          refine ⟨same_mut (same_mut s3 nO') nF', upd_mut dAF (upd_mut dAO hA3), ?_, ⟨_, _, _, _, g1 ++ [_], g3, _, upd_mut dOF upd_same, upd_mut dHF (upd_mut (Ne.symm dOH) gH), upd_same, po', ph', paired_app pf (.cons hq .nil), by rw [List.length_append, List.length_singleton]; omega, by rw [eg, List.append_assoc]; rfl, ew2⟩, _, _, _, rfl⟩
          exact TupsL.ts ((ts_mut (TS.refl _) gO (fun _ z => nomatch z)).trans (ts_mut (TS.refl _) (upd_mut (Ne.symm dOF) gF) (fun _ z => nomatch z))) hw3
      · have c : ¬ d.so = "open" := fun z => of_decide_eq_false c (congrArg V.str z)
        obtain ⟨x1, o2, g3, rfl, rfl, ew2⟩ := weave_hid c ew
        cases ph' with
        | cons hq ph' =>
          walk_at "go"
          refine ⟨.inl ⟨rfl, _, SqL.of gH⟩, ?_⟩
          refine ⟨_, _, 0, 0, _, rfl, rfl, gH, by decide, by decide, by simp [seqIndex?], rfl, ?_⟩
          refine ⟨_, _, _, rfl, rfl, (upd_mut (Ne.symm dHF) gF), sm_lt (by omega), ?_⟩
          refine ⟨same_mut (same_mut s3 nH') nF', upd_mut dAF (upd_mut dAH hA3), ?_, ⟨_, _, _, _, g1 ++ [_], g3, _, upd_mut dOF (upd_mut dOH gO), upd_mut dHF upd_same, upd_same, po', ph', paired_app pf (.cons hq .nil), by rw [List.length_append, List.length_singleton]; omega, by rw [eg, List.append_assoc]; rfl, ew2⟩, _, _, _, rfl⟩
          exact TupsL.ts ((ts_mut (TS.refl _) gH (fun _ z => nomatch z)).trans (ts_mut (TS.refl _) (upd_mut (Ne.symm dHF) gF) (fun _ z => nomatch z))) hw3
    · rintro σ H3 ⟨s3, hA3, hw3, ⟨o', h', os', hs', g1, g2, fs, gO, gH, gF, po', ph', pf, lf, eg, ew⟩, o6, o7, o8, rfl⟩
      rw [← lw, List.drop_length] at ew
      cases ew
      rw [List.append_nil] at eg
      subst eg
      walk_at "go"
      refine ⟨_, _, rfl, .inl ⟨SqL.of gF, fun l nl => ?_⟩⟩
      exact q _ _ (same_nw s3 nl) ⟨l, fs, rfl, upd_same, Paired.mapP pf fun _ _ z => z.ts (same_ts (same_nw s3 nl))⟩
end
end NW
/-! ## Walks: what a watcher learns -/
namespace NW
open PySem PySem.Spec PyProof.Rows L2
set_option pp.maxSteps 150
-- an object's place in a heap
local macro_rules | `(tactic| walk_at "hp") => `(tactic| (show _ = some _; first
  | assumption
  | exact upd_same
  | (refine' upd_get ?n ?h; (case n => assumption); (case h => walk_at "hp"))
  | (refine' same_get ?n ?h; (case n => assumption); (case h => walk_at "hp"))))
-- a heap that has grown
local macro_rules | `(tactic| walk_at "sm") => `(tactic| first
  | assumption
  | exact Same.refl _
  | (refine' same_nw ?n ?h; (case h => assumption); (case n => walk_at "sm"))
  | (refine' Same.trans ?n ?h; (case h => assumption); (case n => walk_at "sm")))
local macro_rules | `(tactic| walk_at "ty") => `(tactic| first
  | exact TyN.int _
  | exact TyN.str _
  | exact TyN.non
  | (refine' TyN.tup ?h; (case h => walk_at "hp"))
  | (refine' TyN.lst ?h; (case h => walk_at "hp")))
-- a test whose answer is known
local macro_rules | `(tactic| walk_at "if") => `(tactic| first
  | (refine iteB (by decide +kernel) ?_)
  | (refine iteN (by decide +kernel) ?_)
  | (refine iteB (by rfl) ?_)
  | (refine iteN (by rfl) ?_)
  | (refine iteB (decide_eq_true (by first | omega | assumption)) ?_)
  | (refine iteN (decide_eq_false (by first | omega | assumption)) ?_)
  | (refine iteB (by simp only [Bool.not_eq_true', Bool.not_eq_false', Bool.and_eq_true, Bool.and_eq_false_iff, Bool.or_eq_true, Bool.or_eq_false_iff, decide_eq_true_eq, decide_eq_false_iff_not]; omega) ?_)
  | (refine iteN (by simp only [Bool.not_eq_true', Bool.not_eq_false', Bool.and_eq_true, Bool.and_eq_false_iff, Bool.or_eq_true, Bool.or_eq_false_iff, decide_eq_true_eq, decide_eq_false_iff_not]; omega) ?_))
-- one step of a reading
local macro_rules | `(tactic| walk_at "s") => `(tactic| first
  | refine ⟨_, rfl, ?_⟩
  | refine ⟨_, _, rfl, rfl, ?_⟩
  | refine And.intro (show wipe _ _ = wipe _ _ by kernel_rfl) ?_
  | refine And.intro rfl ?_
  | (refine' ⟨_, _, _, _, rfl, rfl, SqT.of ?h, ?e, ?_⟩; (case h => walk_at "hp"); (case e => exact rfl))
  | (refine' ⟨_, _, rfl, ?t, ?_⟩; (case t => walk_at "ty"))
  | (refine' ⟨_, _, rfl, SqT.of ?h, ?e, ?_⟩; (case h => walk_at "hp"); (case e => exact rfl))
  | refine ⟨_, _, rfl, ?_⟩
  | (refine' ⟨_, _, _, rfl, rfl, ?h1, ?h2, ?_⟩; (case h1 => walk_at "hp"); (case h2 => walk_at "hp"))
  | (refine' ⟨_, _, _, _, rfl, rfl, SqL.of ?h, ?e, ?_⟩; (case h => walk_at "hp"); (case e => exact rfl))
  | (refine' ⟨_, _, rfl, Or.inr (SqT.of ?h), ?_⟩; (case h => walk_at "hp"))
  | (refine' ⟨_, _, rfl, Or.inr (SqT.of ?h), rfl, rfl, ?_⟩; (case h => walk_at "hp"))
  | (refine' ⟨_, _, rfl, Or.inl (SqL.of ?h), ?_⟩; (case h => walk_at "hp"))
  | refine And.intro (flat_strs _) ?_
  | (refine And.intro (sm_sz (Nat.le_of_ble_eq_true rfl)) ?_; intro p np)
  | walk_at "if"
  | (refine' And.intro ?a ?_; (case a => first | assumption | exact sm_sz (by omega) | omega | exact Or.inr ⟨by omega, by omega⟩ | exact Or.inl ⟨by omega, by omega⟩ | exact ⟨by omega, by omega⟩))
  | refine Or.inl ⟨_, _, _, rfl, ?_⟩
  | refine Or.inr ⟨_, _, _, rfl, ?_⟩
  | (intro Hn sn))
local macro_rules | `(tactic| walk_at "go") => `(tactic| repeat (walk_at "s"))

abbrev s_step_of : Stmt := topS 66
abbrev N_step_of : List Str := ["watcher", "one", "other"]
abbrev P_step_of : List Str := ["watcher", "one", "other"]
theorem sc_step_of : FnScope N_step_of P_step_of (defScope s_step_of) := ⟨rfl, rfl, rfl, by decide +kernel, rfl, by decide +kernel, by decide +kernel⟩

abbrev s_learnt_at : Stmt := topS 67
abbrev N_learnt_at : List Str := ["program", "part", "watcher", "many", "hiddens", "sights", "at", "place", "hidden", "out", "here"]
abbrev P_learnt_at : List Str := ["program", "part", "watcher", "many"]
theorem sc_learnt_at : FnScope N_learnt_at P_learnt_at (defScope s_learnt_at) := ⟨rfl, rfl, rfl, by decide +kernel, rfl, by decide +kernel, by decide +kernel⟩

abbrev s_learnt_of : Stmt := topS 68
abbrev N_learnt_of : List Str := ["program", "watcher", "many", "opened_part", "found"]
abbrev P_learnt_of : List Str := ["program", "watcher", "many"]
theorem sc_learnt_of : FnScope N_learnt_of P_learnt_of (defScope s_learnt_of) := ⟨rfl, rfl, rfl, by decide +kernel, rfl, by decide +kernel, by decide +kernel⟩

def outP (p : Prog) (g : List Part) : List Int := ((runP p g).getD ([], [])).2
def lnP (p : Prog) (m : Nat) (g : List Part) : List Int := linesM p m ((runP p g).getD ([], [])).1
def ends (p : Prog) : Prop := ∀ g ∈ hands p, ∃ r, runP p g = some r
def sorts (p : Prog) : List Str := (ptsP p).map Pt.so
/-- the runs of one open part cannot be told apart by their lines -/
def stillAt (p : Prog) (m : Nat) (o : List Part) : Prop := ∀ h1 ∈ partsK p "hidden", ∀ h2 ∈ partsK p "hidden", ∀ g1 g2, weave (sorts p) o h1 = some g1 → weave (sorts p) o h2 = some g2 → outP p g1 = outP p g2 → lnP p m g1 = lnP p m g2
def stillP (p : Prog) (m : Nat) : Prop := ∀ o ∈ partsK p "open", stillAt p m o
/-- every open with every hidden part makes a handing -/
def weaves (p : Prog) : Prop := ∀ o ∈ partsK p "open", ∀ h ∈ partsK p "hidden", ∃ g, weave (sorts p) o h = some g ∧ g ∈ hands p ∧ Good p g
def sp_step_of : Sp := fun vs H Q _ => ∃ a b : V, vs = [.str "store", a, b] ∧ ∀ H', Same H H' → Q .non H'
structure LearnOk (p : Prog) (m : Nat) : Prop where
  ok : okProg p
  s : okS p
  l : okL p.lists
  e : ends p
  w : weaves p
def sp_learnt_at (cT : Addr) : Sp := fun vs H Q _ => ∃ (p : Prog) (v : V) (o : List Part) (vo : V) (m : Nat), vs = [v, vo, .str "store", .int m] ∧ ProgAt H p v ∧ LearnOk p m ∧ HandAt H o vo ∧ o ∈ partsK p "open" ∧
  (stillAt p m o → ∀ H', Same H H' → Q .non H') ∧ (¬ stillAt p m o → ∀ H' x dx fs, Same H H' → H' x = some (.ins cT dx fs) → Q (.ref x) H')
def sp_learnt_of (cT cS : Addr) : Sp := fun vs H Q _ => ∃ (p : Prog) (v : V) (m : Nat), vs = [v, .str "store", .int m] ∧ ProgAt H p v ∧ LearnOk p m ∧
  (stillP p m → ∀ H' x dx fs, Same H H' → H' x = some (.ins cS dx fs) → Q (.ref x) H') ∧ (¬ stillP p m → ∀ H' x dx fs, Same H H' → H' x = some (.ins cT dx fs) → Q (.ref x) H')
theorem eqv_ints : ∀ xs ys : List Int, PyData.eqvAll (xs.map .int) (ys.map .int) = decide (xs = ys)
  | [], [] => rfl
  | [], _ :: _ => rfl
  | _ :: _, [] => rfl
  | x :: xs, y :: ys => by
    show ((x == y) && PyData.eqvAll (xs.map .int) (ys.map .int)) = _
    rw [eqv_ints xs ys]
    by_cases h : x = y
    · subst h
      rw [beq_self_eq_true, Bool.true_and]
      exact decide_eq_decide.mpr ⟨fun e => by rw [e], fun e => (List.cons.inj e).2⟩
    · rw [show (x == y) = false from beq_eq_false_iff_ne.mpr h, Bool.false_and]
      exact (decide_eq_false fun e => h (List.cons.inj e).1).symm
theorem shaped_ints (xs : List Int) : SeqAt.shaped (.list (xs.map .int)) = true := by
  unfold SeqAt.shaped
  rw [show PyData.canLay0 (.list (xs.map .int)) = true from canLay_ints xs, Bool.true_and]
  refine decide_eq_true ?_
  show PyData.depthAll (xs.map .int) + 1 ≤ 64
  rw [depth_ints]
  decide
theorem eqD_ints {K : PySem.W.Frag} {H : Hp} {a b : Addr} {xs ys : List Int} {Q : VK} (ha : H a = some (.lst (xs.map .int))) (hb : H b = some (.lst (ys.map .int))) (q : Q (.bl (decide (xs = ys))) H) : rEqD K (.ref a) (.ref b) H Q := by
  refine ⟨_, _, .lst (SqL.of ha) (dp_ints xs), .lst (SqL.of hb) (dp_ints ys), shaped_ints xs, shaped_ints ys, ?_⟩
  rw [show PyData.eqv (.list (xs.map .int)) (.list (ys.map .int)) = decide (xs = ys) from eqv_ints xs ys]
  exact q
theorem neD_ints {K : PySem.W.Frag} {H : Hp} {a b : Addr} {xs ys : List Int} {Q : VK} (ha : H a = some (.lst (xs.map .int))) (hb : H b = some (.lst (ys.map .int))) (q : Q (.bl (!decide (xs = ys))) H) : rNeD K (.ref a) (.ref b) H Q := by
  refine ⟨_, _, .lst (SqL.of ha) (dp_ints xs), .lst (SqL.of hb) (dp_ints ys), shaped_ints xs, shaped_ints ys, ?_⟩
  rw [show PyData.eqv (.list (xs.map .int)) (.list (ys.map .int)) = decide (xs = ys) from eqv_ints xs ys]
  exact q
section
variable {P : Program} {w : World} {K : PySem.W.Frag} {mg : Str → Option Value} {base : Heap} {cR cN cT cS cL : Addr}
theorem ok_step_of (T : Tx mg) (D : DefAt K mg "step_of" s_step_of) : C8.Cal P w K mg base 1 "step_of" sp_step_of [] := by
  refine D.cal (k := 0) sc_step_of (fun _ _ _ _ _ _ us hl => match us, hl with | [_, _, _], _ => rfl) (fun vs H Q E h => ?_) (fun f cdv A outer s H vs Q E hr h => ⟨_, (pss_cons (ps_if (pt_cmpR op_in_seq (pv 0) (pe_tup (pa_cons pe_str (pa_cons pe_str pa_nil))) (by rfl)) (pss_one (ps_ret pe_non))
    pss_nil)
    pss_never), ?_⟩)
  · obtain ⟨a, b, rfl, _⟩ := h
    rfl
  · obtain ⟨a, b, rfl, q⟩ := h
    walk_at "go"
    exact q _ (by walk_at "sm")
theorem ok_learnt_at (T : Tx mg) (D : DefAt K mg "learnt_at" s_learnt_at) (c_all_parts : C8.Cal P w K mg base 2 "all_parts" sp_all_parts []) (c_sight : C8.Cal P w K mg base 11 "sight" sp_sight []) (c_handing_of : C8.Cal P w K mg base 2 "handing_of" sp_handing_of [])
    (c_step_of : C8.Cal P w K mg base 1 "step_of" sp_step_of []) (c_Tells : C8.Mak P w K mg base 1 "Tells" cT (sp_tells cT) []) : C8.Cal P w K mg base 12 "learnt_at" (sp_learnt_at cT) [] := by
  refine D.cal (k := 11) sc_learnt_at (fun _ _ _ _ _ _ us hl => match us, hl with | [_, _, _, _], _ => rfl) (fun vs H Q E h => ?_) (fun f cdv A outer s H vs Q E hr h => ⟨_, (pss_cons (ps_set (i := 4) sc_learnt_at.nd rfl (Or.inl rfl) (C8.pe_c c_all_parts hr (by omega) (by rfl) (pa_cons (pv 0) (pa_cons pe_str pa_nil))))
    (pss_cons (ps_setLc (own := [("hidden", 8)]) (g := (gName 8)) (tt := tYes) (i := 5) rfl sc_learnt_at.nd rfl rfl (sw_true rfl rfl rfl (by decide +kernel)) (pi_list (pv 4)) (blkOk_by (own := [("hidden", 8)]) (N := N_learnt_at) (sc := defScope s_learnt_at) (by decide +kernel)) (fun _ _ _ _ _ => (pg_name (i := 8) sc_learnt_at.nd rfl (Or.inl rfl))) (fun _ _ _ _ _ => pts_nil) (fun _ _ _ _ _ => (C8.pe_c c_sight hr (by omega) (by rfl) (pa_cons (pv 0) (pa_cons (C8.pe_c c_handing_of hr (by omega) (by rfl) (pa_cons (pv 0) (pa_cons (pv 1) (pa_cons (pv 8) pa_nil)))) (pa_cons (pv 2) (pa_cons (pv 3) pa_nil)))))))
    (pss_cons (ps_for PassesOwn.never rfl (pi_enum (by rfl) T.enumerate_ (pa_cons (pv 5) pa_nil)) (pg_tup rfl (pgs_cons (pg_name (i := 6) sc_learnt_at.nd rfl (Or.inl rfl)) (pgs_cons (pg_tup rfl (pgs_cons (pg_name (i := 9) sc_learnt_at.nd rfl (Or.inl rfl)) (pgs_cons (pg_name (i := 10) sc_learnt_at.nd rfl (Or.inl rfl)) pgs_nil))) pgs_nil)))
    (pss_one (ps_for PassesOwn.never rfl (pi_range2 (by rfl) T.range_ (pa_cons (pe_op op_add (pv 6) pe_int) (pa_cons (pe_callB call_len_seq (by rfl) T.len_ PySem.boot_len (pa_cons (pv 5) pa_nil)) pa_nil))) (pg_name (i := 7) sc_learnt_at.nd rfl (Or.inl rfl))
    (pss_one (ps_if (PW.pt (pw_and (pt_cmpR (op_eqD hr.units) (pe_ix ix_tup (pe_ix ix_list (pv 5) (pv 7) (fun _ _ => rfl)) pe_int (fun _ _ => rfl)) (pv 9) (nomark _)) (pw_and1 (pt_cmpR (op_neD hr.units) (pe_ix ix_tup (pe_ix ix_list (pv 5) (pv 7) (fun _ _ => rfl)) pe_int (fun _ _ => rfl)) (pv 10) (nomark _))))) (pss_one (ps_ret (C8.pe_mk c_Tells hr (by omega) (by rfl) (pa_cons (pv 1) (pa_cons (pe_ix ix_list (pv 4) (pv 6) (fun _ _ => rfl)) (pa_cons (pe_ix ix_list (pv 4) (pv 7) (fun _ _ => rfl)) (pa_cons (C8.pe_c c_step_of hr (by omega) (by rfl) (pa_cons (pv 2) (pa_cons (pv 10) (pa_cons (pe_ix ix_tup (pe_ix ix_list (pv 5) (pv 7) (fun _ _ => rfl)) pe_int (fun _ _ => rfl)) pa_nil)))) pa_nil)))))))
    pss_nil)))))
    (pss_one (ps_ret pe_non))))), ?_⟩)
  · obtain ⟨p, v, o, vo, m, rfl, _⟩ := h
    rfl
  · obtain ⟨p, v, o, vo, m, rfl, hp, hk, ho, mo, q1, q2⟩ := h
    walk_at "go"
    refine ⟨p, v, "hidden", rfl, hp, hk.s, hk.l, fun H1 Hh hs s1 hh hhs => ?_⟩
    walk_at "go"
    have lL : (partsK p "hidden").length = hs.length := hhs.len
    have l256 : (partsK p "hidden").length ≤ 256 := by
      rw [← partsN_all]
      exact (partsN_le hk.s hk.l).1
    have wk : Walk (Itl K Hh) (partsK p "hidden").length (fun H => SqL K H Hh hs) (YAt hs) := by
      rw [lL]
      exact walk_list
    refine ⟨⟨_, SqL.of hh⟩, fun D nD => ?_⟩
    refine lc_relD wk (fun H h v => ∃ g, weave (sorts p) o h = some g ∧ ∃ a q1 q2, v = .ref a ∧ H a = some (.tup [.ref q1, .ref q2]) ∧ H q1 = some (.lst ((outP p g).map .int)) ∧ H q2 = some (.lst ((lnP p m g).map .int)) ∧ q1 ≠ D ∧ q2 ≠ D)
      (fun H H' h v t kd ⟨g, e, a, r1, r2, ev, h1, h2, h3, n1, n2⟩ => ⟨g, e, a, r1, r2, ev, t _ _ h1, kd _ _ n1 h2, kd _ _ n2 h3, n1, n2⟩) nD (by omega) (fun _ s3 => SqL.of (s3 _ _ hh)) (fun i x H2 H3 h Kf k eh s2 hD y => ?_) (fun H2 acc s2 e2 pr => ?_)
    · obtain ⟨rfl, e'⟩ := y
      obtain ⟨h', eh', hh'⟩ := HandsL.at hhs e'
      cases eh.symm.trans eh'
      obtain ⟨g, eg, mg', gg⟩ := hk.w o mo h (List.mem_of_getElem? eh)
      obtain ⟨⟨cs, os⟩, er⟩ := hk.e g mg'
      have eo : outP p g = os := by
        unfold outP
        rw [er]
        rfl
      have el : lnP p m g = linesM p m cs := by
        unfold lnP
        rw [er]
        rfl
      have t3 := same_ts (s1.trans s2)
      walk_at "go"
      refine ⟨p, v, vo, x, o, h, g, rfl, hp.ts t3, by have := hk.s.len; omega, hk.l, ho.ts t3, hh'.ts (same_ts s2), eg, fun H4 v4 s4 hg4 => ?_⟩
      refine ⟨_, rfl, _, rfl, p, v, g, v4, cs, os, m, rfl, hp.ts (t3.trans (same_ts s4)), hk.ok, hk.l, hg4, gg, er, fun H5 r5 s5 ⟨a, r1, r2, n1, n2, ev, h1, h2, h3⟩ => ?_⟩
      obtain ⟨u, hD⟩ := hD
      have hD := s4 _ _ hD
      exact k _ _ (s4.trans s5) ⟨g, eg, a, r1, r2, ev, h1, by rw [eo]; exact h2, by rw [el]; exact h3, Ne.symm (ne_of_none hD n1), Ne.symm (ne_of_none hD n2)⟩
    · walk_at "go"
      have la : (partsK p "hidden").length = acc.length := Paired.length pr
      -- the a-th and the b-th
      let okab : Nat → Nat → Prop := fun a b => ∀ h1 h2 g1 g2, (partsK p "hidden")[a]? = some h1 → (partsK p "hidden")[b]? = some h2 → weave (sorts p) o h1 = some g1 → weave (sorts p) o h2 = some g2 → outP p g1 = outP p g2 → lnP p m g1 = lnP p m g2
      refine ⟨_, acc, rfl, SqL.of e2, ?_⟩
      refine for_it walk_enum (fun i σ H' => Same H2 H' ∧ (∀ a b, a < i → a < b → okab a b) ∧ ∃ o6 o7 o8 o9 o10, σ = [some v, some vo, some (.str "store"), some (.int m), some (.ref Hh), some (.ref D), o6, o7, o8, o9, o10]) ⟨Same.refl _, fun a b h => absurd h (Nat.not_lt_zero a), _, _, _, _, _, rfl⟩ (fun i σ H' _ z => SqL.of (z.1 _ _ e2)) ?_ ?_
      · rintro a x σ H3 H4 ha ⟨s3, hok, o6, o7, o8, o9, o10, rfl⟩ ⟨Tp, y1, y2, rfl, nT, rfl, ey1, ey2⟩
        cases ey1
        obtain ⟨h1, eh1, g1, eg1, b1, q1', q1'', rfl, k1, k2, k3, _⟩ := Paired.at pr ey2
        have s4 : Same H2 (upd H3 Tp (.tup [.int (a : Nat), .ref b1])) := same_nw s3 nT
        have k1 := s4 _ _ k1
        have k2 := s4 _ _ k2
        have k3 := s4 _ _ k3
        have e4 := s4 _ _ e2
        have kT : (upd H3 Tp (.tup [.int (a : Nat), .ref b1])) Tp = some (.tup [.int (a : Nat), .ref b1]) := upd_same
        generalize upd H3 Tp (.tup [.int (a : Nat), .ref b1]) = H4 at s4 k1 k2 k3 e4 kT ⊢
        walk_at "go"
        have hn : acc.length ≤ 256 := by omega
        refine for_it walk_range (fun j σ H' => Same H4 H' ∧ (∀ b, a < b → b < a + 1 + j → okab a b) ∧ ∃ o7 o8, σ = [some v, some vo, some (.str "store"), some (.int m), some (.ref Hh), some (.ref D), some (.int (a : Nat)), o7, o8, some (.ref q1'), some (.ref q1'')]) ⟨Same.refl _, fun b h1 h2 => absurd h1 (by omega), _, _, rfl⟩ (fun _ _ _ _ _ => True.intro) ?_ ?_
        · rintro j x σ H5 H6 hj ⟨s5, hok5, o7, o8, rfl⟩ ⟨rfl, rfl⟩
          have jb : a + 1 + j < acc.length := by omega
          obtain ⟨h2, eh2⟩ : ∃ h2, (partsK p "hidden")[a + 1 + j]? = some h2 := ⟨_, List.getElem?_eq_getElem (by omega)⟩
          obtain ⟨y3, ey3, g2, eg2, b2, r1, r2, rfl, z1, z2, z3, _⟩ := Paired.one pr eh2
          have s46 := s4.trans s5
          have z1 := s46 _ _ z1
          have z2 := s46 _ _ z2
          have z3 := s46 _ _ z3
          have e6 := s5 _ _ e4
          have k2' := s5 _ _ k2
          have k3' := s5 _ _ k3
          have ix : atI acc ((a : Int) + 1 + (j : Int)) = some (.ref b2) := by
            rw [show ((a : Int) + 1 + (j : Int)) = ((a + 1 + j : Nat) : Int) by omega]
            exact atI_nat ey3
          have hh6 : H6 Hh = some (.lst hs) := (s2.trans s46) _ _ hh
          have nxt : okab a (a + 1 + j) → ∀ b, a < b → b < a + 1 + (j + 1) → okab a b := fun ok b l1 l2 => by
            by_cases e : b = a + 1 + j
            · subst e
              exact ok
            · exact hok5 b l1 (by omega)
          refine ⟨_, rfl, _, rfl, _, _, _, _, rfl, rfl, SqL.of e6, ix, ?_⟩
          walk_at "go"
          refine eqD_ints z2 k2' ⟨_, rfl, ite_b (fun c => ?_) (fun c => ?_)⟩
          · have c := of_decide_eq_true c
            refine ⟨_, rfl, _, rfl, _, _, _, _, rfl, rfl, SqL.of e6, ix, ?_⟩
            walk_at "go"
            refine neD_ints z3 k3' ⟨_, rfl, ite_b (fun c2 => ?_) (fun c2 => ?_)⟩
            · have c2 : ¬ lnP p m g2 = lnP p m g1 := fun z => by
                rw [decide_eq_true z] at c2
                cases c2
              have la' : a < hs.length := by omega
              have lb' : a + 1 + j < hs.length := by omega
              have ixa : atI hs (a : Int) = some hs[a] := atI_nat (List.getElem?_eq_getElem la')
              have ixb : atI hs ((a : Int) + 1 + (j : Int)) = some hs[a + 1 + j] := by
                rw [show ((a : Int) + 1 + (j : Int)) = ((a + 1 + j : Nat) : Int) by omega]
                exact atI_nat (List.getElem?_eq_getElem lb')
              walk_at "go"
              refine ⟨_, _, _, _, rfl, rfl, SqL.of hh6, ixa, ?_⟩
              walk_at "go"
              refine ⟨_, _, _, _, rfl, rfl, SqL.of hh6, ixb, ?_⟩
              walk_at "go"
              refine ⟨_, _, _, _, rfl, rfl, SqL.of e6, ix, ?_⟩
              walk_at "go"
              rename_i H7 s7 x dx m1' m2'
              refine fun ne => ⟨x, dx, _, _, _, _, rfl, upd_same, fun H8 fs kp hx8 => ⟨rfl, ?_⟩⟩
              refine q2 (fun st => ?_) H8 x dx fs (fun b u e => ?_) hx8
              · exact c2 (st h1 (List.mem_of_getElem? eh1) h2 (List.mem_of_getElem? eh2) g1 g2 eg1 eg2 c.symm).symm
              · have e7 := s7 _ _ (s46 _ _ (s2 _ _ (s1 _ _ e)))
                exact kp b u (ne_of_none e7 m1') (upd_mut (ne_of_none e7 m1') (upd_get m2' e7))
            · have c2 : lnP p m g2 = lnP p m g1 := Classical.byContradiction fun z => by
                rw [decide_eq_false z] at c2
                cases c2
              refine ⟨s5, nxt fun x1 x2 y1 y2 ea eb w1 w2 _ => ?_, _, _, rfl⟩
              cases eh1.symm.trans ea
              cases eh2.symm.trans eb
              cases eg1.symm.trans w1
              cases eg2.symm.trans w2
              exact c2.symm
          · have c := of_decide_eq_false c
            refine ⟨s5, nxt fun x1 x2 y1 y2 ea eb w1 w2 eo => ?_, _, _, rfl⟩
            cases eh1.symm.trans ea
            cases eh2.symm.trans eb
            cases eg1.symm.trans w1
            cases eg2.symm.trans w2
            exact absurd eo.symm c
        · rintro σ H5 ⟨s5, hok5, o7, o8, rfl⟩
          refine ⟨s4.trans s5, fun a' b h1 h2 => ?_, _, _, _, _, _, rfl⟩
          rcases Nat.lt_or_ge a' a with lt | ge
          · exact hok a' b lt h2
          · have : a' = a := by omega
            subst this
            by_cases hb : b < acc.length
            · exact hok5 b h2 (by omega)
            · intro h1 h2' g1 g2 e1 e2'
              rw [List.getElem?_eq_none (by omega)] at e2'
              cases e2'
      · rintro σ H3 ⟨s3, hok, o6, o7, o8, o9, o10, rfl⟩
        walk_at "go"
        refine q1 ?_ _ ((s1.trans s2).trans s3)
        intro h1 m1 h2 m2 g1 g2 e1 e2 eo
        obtain ⟨a, ha, ea⟩ := List.mem_iff_getElem.mp m1
        obtain ⟨b, hb, eb⟩ := List.mem_iff_getElem.mp m2
        have ea : (partsK p "hidden")[a]? = some h1 := by rw [List.getElem?_eq_getElem ha, ea]
        have eb : (partsK p "hidden")[b]? = some h2 := by rw [List.getElem?_eq_getElem hb, eb]
        rcases Nat.lt_trichotomy a b with lt | e | lt
        · exact hok a b (by omega) lt h1 h2 g1 g2 ea eb e1 e2 eo
        · subst e
          cases ea.symm.trans eb
          cases e1.symm.trans e2
          rfl
        · exact (hok b a (by omega) lt h2 h1 g2 g1 eb ea e2 e1 eo.symm).symm
theorem ok_learnt_of (T : Tx mg) (D : DefAt K mg "learnt_of" s_learnt_of) (k_Still : mg "Still" = some (.ref cS)) (m_Still : Mk0 K cS) (c_all_parts : C8.Cal P w K mg base 2 "all_parts" sp_all_parts []) (c_learnt_at : C8.Cal P w K mg base 12 "learnt_at" (sp_learnt_at cT) []) : C8.Cal P w K mg base 13 "learnt_of" (sp_learnt_of cT cS) [] := by
  refine D.cal (k := 12) sc_learnt_of (fun _ _ _ _ _ _ us hl => match us, hl with | [_, _, _], _ => rfl) (fun vs H Q E h => ?_) (fun f cdv A outer s H vs Q E hr h => ⟨_, (pss_cons (ps_for PassesOwn.never rfl (pi_list (C8.pe_c c_all_parts hr (by omega) (by rfl) (pa_cons (pv 0) (pa_cons pe_str pa_nil)))) (pg_name (i := 3) sc_learnt_of.nd rfl (Or.inl rfl))
    (pss_cons (ps_set (i := 4) sc_learnt_of.nd rfl (Or.inl rfl) (C8.pe_c c_learnt_at hr (by omega) (by rfl) (pa_cons (pv 0) (pa_cons (pv 3) (pa_cons (pv 1) (pa_cons (pv 2) pa_nil))))))
    (pss_one (ps_if (pt_cmpR op_notN (pv 4) pe_non (nomark _)) (pss_one (ps_ret (pv 4)))
    pss_nil))))
    (pss_one (ps_ret (pe_mk0 m_Still (by rfl) k_Still)))), ?_⟩)
  · obtain ⟨p, v, m, rfl, _⟩ := h
    rfl
  · obtain ⟨p, v, m, rfl, hp, hk, q1, q2⟩ := h
    walk_at "go"
    refine ⟨p, v, "open", rfl, hp, hk.s, hk.l, fun H1 Ho hs s1 hh hhs => ?_⟩
    refine ⟨_, rfl, ⟨_, SqL.of hh⟩, ?_⟩
    have lL : (partsK p "open").length = hs.length := hhs.len
    have wk : Walk (Itl K Ho) (partsK p "open").length (fun H => SqL K H Ho hs) (YAt hs) := by
      rw [lL]
      exact walk_list
    refine for_it wk (fun i σ H' => Same H1 H' ∧ (∀ o ∈ (partsK p "open").take i, stillAt p m o) ∧ ∃ o3 o4, σ = [some v, some (.str "store"), some (.int m), o3, o4]) ⟨Same.refl _, (fun _ m => by rw [List.take_zero] at m; cases m), _, _, rfl⟩ (fun i σ H' _ z => SqL.of (z.1 _ _ hh)) ?_ ?_
    · rintro i x σ H2 H3 hi ⟨s2, hok, o3, o4, rfl⟩ ⟨rfl, e⟩
      obtain ⟨o, eo, ho⟩ := HandsL.at hhs e
      have mo := List.mem_of_getElem? eo
      have s3 := s1.trans s2
      walk_at "go"
      refine ⟨p, v, o, x, m, rfl, hp.ts (same_ts s3), hk, ho.ts (same_ts s2), mo, fun st H4 s4 => ?_, fun nst H4 y dx fs s4 hy => ?_⟩
      · walk_at "go"
        refine ⟨s2.trans s4, fun o' m' => ?_, _, _, rfl⟩
        obtain ⟨hi2, eo2⟩ := List.getElem?_eq_some_iff.mp eo
        rw [List.take_succ_eq_append_getElem hi2, eo2] at m'
        rcases List.mem_append.mp m' with m' | m'
        · exact hok o' m'
        · rw [List.mem_singleton.mp m']
          exact st
      · walk_at "go"
        exact q2 (fun st => nst (st o mo)) H4 y dx fs (s3.trans s4) hy
    · rintro σ H2 ⟨s2, hok, o3, o4, rfl⟩
      rw [List.take_length] at hok
      walk_at "go"
      rename_i x dx m1 m2
      refine fun ne => ?_
      exact q1 hok _ x dx [] (fun b u e => upd_mut (ne_of_none (s2 _ _ (s1 _ _ e)) m1) (upd_get m2 (s2 _ _ (s1 _ _ e)))) upd_same
end
end NW
/-! ## Walks: rows are looked at, counted -/
namespace NW
open PySem PySem.Spec PyProof.Rows L2
set_option pp.maxSteps 150
-- an object's place in a heap
local macro_rules | `(tactic| walk_at "hp") => `(tactic| (show _ = some _; first
  | assumption
  | exact upd_same
  | (refine' upd_get ?n ?h; (case n => assumption); (case h => walk_at "hp"))
  | (refine' same_get ?n ?h; (case n => assumption); (case h => walk_at "hp"))))
-- a heap that has grown
local macro_rules | `(tactic| walk_at "sm") => `(tactic| first
  | assumption
  | exact Same.refl _
  | (refine' same_nw ?n ?h; (case h => assumption); (case n => walk_at "sm"))
  | (refine' Same.trans ?n ?h; (case h => assumption); (case n => walk_at "sm")))
local macro_rules | `(tactic| walk_at "ty") => `(tactic| first
  | exact TyN.int _
  | exact TyN.str _
  | exact TyN.non
  | (refine' TyN.tup ?h; (case h => walk_at "hp"))
  | (refine' TyN.lst ?h; (case h => walk_at "hp")))
-- a test whose answer is known
local macro_rules | `(tactic| walk_at "if") => `(tactic| first
  | (refine iteB (by decide +kernel) ?_)
  | (refine iteN (by decide +kernel) ?_)
  | (refine iteB (by rfl) ?_)
  | (refine iteN (by rfl) ?_)
  | (refine iteB (decide_eq_true (by first | omega | assumption)) ?_)
  | (refine iteN (decide_eq_false (by first | omega | assumption)) ?_)
  | (refine iteB (by simp only [Bool.not_eq_true', Bool.not_eq_false', Bool.and_eq_true, Bool.and_eq_false_iff, Bool.or_eq_true, Bool.or_eq_false_iff, decide_eq_true_eq, decide_eq_false_iff_not]; omega) ?_)
  | (refine iteN (by simp only [Bool.not_eq_true', Bool.not_eq_false', Bool.and_eq_true, Bool.and_eq_false_iff, Bool.or_eq_true, Bool.or_eq_false_iff, decide_eq_true_eq, decide_eq_false_iff_not]; omega) ?_))
-- one step of a reading
local macro_rules | `(tactic| walk_at "s") => `(tactic| first
  | refine ⟨_, rfl, ?_⟩
  | refine ⟨_, _, rfl, rfl, ?_⟩
  | refine And.intro (show wipe _ _ = wipe _ _ by kernel_rfl) ?_
  | refine And.intro rfl ?_
  | (refine' ⟨_, _, _, _, rfl, rfl, SqT.of ?h, ?e, ?_⟩; (case h => walk_at "hp"); (case e => exact rfl))
  | (refine' ⟨_, _, rfl, ?t, ?_⟩; (case t => walk_at "ty"))
  | (refine' ⟨_, _, rfl, SqT.of ?h, ?e, ?_⟩; (case h => walk_at "hp"); (case e => exact rfl))
  | refine ⟨_, _, rfl, ?_⟩
  | (refine' ⟨_, _, _, rfl, rfl, ?h1, ?h2, ?_⟩; (case h1 => walk_at "hp"); (case h2 => walk_at "hp"))
  | (refine' ⟨_, _, _, _, rfl, rfl, SqL.of ?h, ?e, ?_⟩; (case h => walk_at "hp"); (case e => exact rfl))
  | (refine' ⟨_, _, rfl, Or.inr (SqT.of ?h), ?_⟩; (case h => walk_at "hp"))
  | (refine' ⟨_, _, rfl, Or.inr (SqT.of ?h), rfl, rfl, ?_⟩; (case h => walk_at "hp"))
  | (refine' ⟨_, _, rfl, Or.inl (SqL.of ?h), ?_⟩; (case h => walk_at "hp"))
  | refine And.intro (flat_strs _) ?_
  | (refine And.intro (sm_sz (Nat.le_of_ble_eq_true rfl)) ?_; intro p np)
  | walk_at "if"
  | (refine' And.intro ?a ?_; (case a => first | assumption | exact sm_sz (by omega) | omega | exact Or.inr ⟨by omega, by omega⟩ | exact Or.inl ⟨by omega, by omega⟩ | exact ⟨by omega, by omega⟩))
  | refine Or.inl ⟨_, _, _, rfl, ?_⟩
  | refine Or.inr ⟨_, _, _, rfl, ?_⟩
  | (intro Hn sn))
local macro_rules | `(tactic| walk_at "go") => `(tactic| repeat (walk_at "s"))

abbrev s_is_plain_row : Stmt := topS 29
abbrev N_is_plain_row : List Str := ["row", "lists", "many", "first", "one"]
abbrev P_is_plain_row : List Str := ["row", "lists"]
theorem sc_is_plain_row : FnScope N_is_plain_row P_is_plain_row (defScope s_is_plain_row) := ⟨rfl, rfl, rfl, by decide +kernel, rfl, by decide +kernel, by decide +kernel⟩

/-- a row without blocks -/
def plain : Row → Prop
  | .ite .. => False
  | .whl .. => False
  | _ => True
def sp_is_plain_row : Sp := fun vs H Q _ => ∃ (r : Row) (v : V) (l : Addr) (ls : List Str), vs = [v, .ref l] ∧ RowAt H r v ∧ plain r ∧ okRow ls 0 r ∧ okLs ls ∧ H l = some (.lst (ls.map .str)) ∧ ∀ H', Same H H' → Q (.bl true) H'
section
variable {P : Program} {w : World} {K : PySem.W.Frag} {mg : Str → Option Value} {base : Heap} {aS aD : Addr} {es : Array DictEntry} {n : Nat}
theorem inV_ls {ls : List Str} {g : Str} (h : g ∈ ls) : inV (.str g) (ls.map .str) = true := by rw [inV_strs, decide_eq_true h]
theorem inV_nls {ls : List Str} (h : okLs ls) {x : Str} (n : okN x) : inV (.str x) (ls.map .str) = false := by rw [inV_strs, decide_eq_false (okN_ls h n)]
theorem inV_deed {d : Str} (h : okD d) : inV (.str d) (deeds.map .str) = true := by
  rcases h with rfl | rfl | rfl | rfl | rfl | rfl | rfl | rfl | rfl <;> decide +kernel
theorem opd_at {os : List Opd} (h : ∀ o ∈ os, okO o) {i : Nat} {x : V} (e : (os.map Opd.v)[i]? = some x) : ∃ o : Opd, x = o.v ∧ okO o := by
  rw [List.getElem?_map] at e
  cases q : os[i]? with
  | none =>
    rw [q] at e
    cases e
  | some o =>
    rw [q] at e
    exact ⟨o, (Option.some.inj e).symm, h o (List.mem_of_getElem? q)⟩
theorem ok_is_plain_row (T : Tx mg) (B : Tabs K w mg aS aD es n) (D : DefAt K mg "is_plain_row" s_is_plain_row) (c_is_operand : C8.Cal P w K mg base 2 "is_operand" sp_is_operand []) (c_is_name : C8.Cal P w K mg base 1 "is_name" sp_is_name []) : C8.Cal P w K mg base 3 "is_plain_row" sp_is_plain_row [] := by
  refine D.cal (k := 2) sc_is_plain_row (fun _ _ _ _ _ _ us hl => match us, hl with | [_, _], _ => rfl) (fun vs H Q E h => ?_) (fun f cdv A outer s H vs Q E hr h => ⟨_, (pss_cons (ps_asg (pe_ix ix_kdict (pe_glob (v := .ref aS) (by rfl) B.gS rfl) (pe_ix ix_tup (pv 0) pe_int (fun _ _ => rfl)) (fun _ _ => rfl)) (pg_tup rfl (pgs_cons (pg_name (i := 2) sc_is_plain_row.nd rfl (Or.inl rfl)) (pgs_cons (pg_name (i := 3) sc_is_plain_row.nd rfl (Or.inl rfl)) pgs_nil))))
    (pss_cons (ps_if (PW.pt (pw_or (pt_cmpR op_ne (pe_callB call_len_seq (by rfl) T.len_ PySem.boot_len (pa_cons (pv 0) pa_nil)) (pv 2) (nomark _)) (pw_or1 (pt_not (pt_val (pe_callB (cr_all rfl) (by rfl) T.all_ (by decide +kernel) (pa_cons (pe_lc (own := [("one", 4)]) (g := (gName 4)) (tt := tYes) rfl sc_is_plain_row.nd (pi_tup (pe_slice sl_tupA (pv 0) (po_some (pv 3)) po_none)) (blkOk_by (own := [("one", 4)]) (N := N_is_plain_row) (sc := defScope s_is_plain_row) (by decide +kernel)) (fun _ _ _ _ _ => (pg_name (i := 4) sc_is_plain_row.nd rfl (Or.inl rfl))) (fun _ _ _ _ _ => pts_nil) (fun _ _ _ _ _ => (C8.pe_c c_is_operand hr (by omega) (by rfl) (pa_cons (pv 4) (pa_cons (pv 1) pa_nil))))) pa_nil))))))) (pss_one (ps_ret pe_bl))
    pss_nil)
    (pss_cons (ps_if (PW.pt (pw_or (PW.pt (pw_and (pt_cmpR op_eq (pe_ix ix_tup (pv 0) pe_int (fun _ _ => rfl)) pe_str (nomark _)) (pw_and1 (pt_cmpR op_notIn_seq (pe_ix ix_tup (pv 0) pe_int (fun _ _ => rfl)) (pv 1) (by rfl))))) (pw_or1 (PW.pt (pw_and (pt_cmpR op_eq (pe_ix ix_tup (pv 0) pe_int (fun _ _ => rfl)) pe_str (nomark _)) (pw_and1 (pt_cmpR op_notIn_seq (pe_ix ix_tup (pv 0) pe_int (fun _ _ => rfl)) (pv 1) (by rfl)))))))) (pss_one (ps_ret pe_bl))
    pss_nil)
    (pss_cons (ps_if (PW.pt (pw_and (pt_cmpR op_eq (pe_ix ix_tup (pv 0) pe_int (fun _ _ => rfl)) pe_str (nomark _)) (pw_and1 (pt_cmpR op_notIn_seq (pe_ix ix_tup (pv 0) pe_int (fun _ _ => rfl)) (pe_glob (v := .ref aD) (by rfl) B.gD rfl) (by rfl))))) (pss_one (ps_ret pe_bl))
    pss_nil)
    (pss_one (ps_ret (pe_or (pe_cmpR op_notIn_seq (pe_ix ix_tup (pv 0) pe_int (fun _ _ => rfl)) (pe_tup (pa_cons pe_str (pa_cons pe_str (pa_cons pe_str pa_nil)))) (by rfl)) (pe_one (pe_and (C8.pe_c c_is_name hr (by omega) (by rfl) (pa_cons (pe_ix ix_tup (pv 0) pe_int (fun _ _ => rfl)) pa_nil)) (pe_one (pe_cmpR op_notIn_seq (pe_ix ix_tup (pv 0) pe_int (fun _ _ => rfl)) (pv 1) (by rfl)))))))))))), ?_⟩)
  · obtain ⟨r, v, l, ls, rfl, _⟩ := h
    rfl
  · obtain ⟨r, v, l, ls, rfl, hr, hp', ho, h2, hl, q⟩ := h
    cases r with
    | set x d a b =>
      obtain ⟨p, rfl, hp⟩ := hr
      obtain ⟨ox, od, oa, ob⟩ := ho
      obtain ⟨p5, k5, t5⟩ := B.sh "set" 5 3 (by decide +kernel)
      walk_at "go"
      refine ⟨_, _, _, rfl, rfl, k5, ?_⟩
      refine ⟨_, _, rfl, t5 _, rfl, ?_⟩
      walk_at "go"
      refine ⟨_, _, rfl, SqT.of hp, (fun e => absurd e.1 (show ¬ HT.sIx 5 0 (some 3) = 0 by decide +kernel)), fun _ p6 n6 => ?_⟩
      refine ⟨_, rfl, ⟨_, SqT.of upd_same⟩, fun D nD => ?_⟩
      have h6 : (upd H p6 (.tup ([a, b].map Opd.v))) p6 = some (.tup ([a, b].map Opd.v)) := upd_same
      refine lc_true (walk_tup (a := p6) (xs := [a, b].map Opd.v)) nD (Nat.le_of_ble_eq_true rfl) (fun _ s2 => SqT.of (s2 _ _ h6)) (fun i x H2 H3 Kf k hi s2 y => ?_) (fun H2 s2 e2 => ?_)
      · obtain ⟨rfl, e⟩ := y
        obtain ⟨o, rfl, oo⟩ : ∃ o : Opd, x = o.v ∧ okO o := opd_at (by simp [List.forall_mem_cons]; exact ⟨oa, ob⟩) e
        have hl2 : H3 l = some (.lst (ls.map .str)) := s2 _ _ (upd_get n6 hl)
        refine ⟨rfl, _, rfl, _, rfl, o, l, ls, rfl, hl2, oo, h2, fun H4 s4 => k H4 s4⟩
      · refine ⟨_, _, rfl, SqL.of e2, ?_⟩
        have s0 : Same H H2 := Same.trans (same_nw (Same.refl _) n6) s2
        have hp2 := s0 _ _ hp
        have hl2 := s0 _ _ hl
        rw [all_rep]
        have ex := inV_nls h2 ox
        have nx := okNm_of ox
        walk_at "go"
        refine ⟨_, _, rfl, Or.inr (B.de _), rfl, flat_strs _, _, rfl, ?_⟩
        refine iteN (b := !inV (.str d) (deeds.map .str)) (by rw [inV_deed od]; rfl) ?_
        walk_at "go"
        exact fin_t (Q := Q) (b := !inV (.str x) (ls.map .str)) (by rw [ex]; rfl) (q _ (by walk_at "sm"))
    | get x g a =>
      obtain ⟨p, rfl, hp⟩ := hr
      obtain ⟨ox, og, oa⟩ := ho
      obtain ⟨p5, k5, t5⟩ := B.sh "get" 4 3 (by decide +kernel)
      walk_at "go"
      refine ⟨_, _, _, rfl, rfl, k5, ?_⟩
      refine ⟨_, _, rfl, t5 _, rfl, ?_⟩
      walk_at "go"
      refine ⟨_, _, rfl, SqT.of hp, (fun e => absurd e.1 (show ¬ HT.sIx 4 0 (some 3) = 0 by decide +kernel)), fun _ p6 n6 => ?_⟩
      refine ⟨_, rfl, ⟨_, SqT.of upd_same⟩, fun D nD => ?_⟩
      have h6 : (upd H p6 (.tup ([a].map Opd.v))) p6 = some (.tup ([a].map Opd.v)) := upd_same
      refine lc_true (walk_tup (a := p6) (xs := [a].map Opd.v)) nD (Nat.le_of_ble_eq_true rfl) (fun _ s2 => SqT.of (s2 _ _ h6)) (fun i x H2 H3 Kf k hi s2 y => ?_) (fun H2 s2 e2 => ?_)
      · obtain ⟨rfl, e⟩ := y
        obtain ⟨o, rfl, oo⟩ : ∃ o : Opd, x = o.v ∧ okO o := opd_at (by simp [List.forall_mem_cons]; exact oa) e
        have hl2 : H3 l = some (.lst (ls.map .str)) := s2 _ _ (upd_get n6 hl)
        refine ⟨rfl, _, rfl, _, rfl, o, l, ls, rfl, hl2, oo, h2, fun H4 s4 => k H4 s4⟩
      · refine ⟨_, _, rfl, SqL.of e2, ?_⟩
        have s0 : Same H H2 := Same.trans (same_nw (Same.refl _) n6) s2
        have hp2 := s0 _ _ hp
        have hl2 := s0 _ _ hl
        rw [all_rep]
        have ex := inV_nls h2 ox
        have nx := okNm_of ox
        walk_at "go"
        refine iteN (b := !inV (.str g) (ls.map .str)) (by rw [inV_ls og]; rfl) ?_
        walk_at "go"
        exact fin_t (Q := Q) (b := !inV (.str x) (ls.map .str)) (by rw [ex]; rfl) (q _ (by walk_at "sm"))
    | put g a b =>
      obtain ⟨p, rfl, hp⟩ := hr
      obtain ⟨og, oa, ob⟩ := ho
      obtain ⟨p5, k5, t5⟩ := B.sh "put" 4 2 (by decide +kernel)
      walk_at "go"
      refine ⟨_, _, _, rfl, rfl, k5, ?_⟩
      refine ⟨_, _, rfl, t5 _, rfl, ?_⟩
      walk_at "go"
      refine ⟨_, _, rfl, SqT.of hp, (fun e => absurd e.1 (show ¬ HT.sIx 4 0 (some 2) = 0 by decide +kernel)), fun _ p6 n6 => ?_⟩
      refine ⟨_, rfl, ⟨_, SqT.of upd_same⟩, fun D nD => ?_⟩
      have h6 : (upd H p6 (.tup ([a, b].map Opd.v))) p6 = some (.tup ([a, b].map Opd.v)) := upd_same
      refine lc_true (walk_tup (a := p6) (xs := [a, b].map Opd.v)) nD (Nat.le_of_ble_eq_true rfl) (fun _ s2 => SqT.of (s2 _ _ h6)) (fun i x H2 H3 Kf k hi s2 y => ?_) (fun H2 s2 e2 => ?_)
      · obtain ⟨rfl, e⟩ := y
        obtain ⟨o, rfl, oo⟩ : ∃ o : Opd, x = o.v ∧ okO o := opd_at (by simp [List.forall_mem_cons]; exact ⟨oa, ob⟩) e
        have hl2 : H3 l = some (.lst (ls.map .str)) := s2 _ _ (upd_get n6 hl)
        refine ⟨rfl, _, rfl, _, rfl, o, l, ls, rfl, hl2, oo, h2, fun H4 s4 => k H4 s4⟩
      · refine ⟨_, _, rfl, SqL.of e2, ?_⟩
        have s0 : Same H H2 := Same.trans (same_nw (Same.refl _) n6) s2
        have hp2 := s0 _ _ hp
        have hl2 := s0 _ _ hl
        rw [all_rep]
        walk_at "go"
        refine iteN (b := !inV (.str g) (ls.map .str)) (by rw [inV_ls og]; rfl) ?_
        walk_at "go"
        exact q _ (by walk_at "sm")
    | pick x a b c =>
      obtain ⟨p, rfl, hp⟩ := hr
      obtain ⟨ox, oa, ob, oc⟩ := ho
      obtain ⟨p5, k5, t5⟩ := B.sh "pick" 5 2 (by decide +kernel)
      walk_at "go"
      refine ⟨_, _, _, rfl, rfl, k5, ?_⟩
      refine ⟨_, _, rfl, t5 _, rfl, ?_⟩
      walk_at "go"
      refine ⟨_, _, rfl, SqT.of hp, (fun e => absurd e.1 (show ¬ HT.sIx 5 0 (some 2) = 0 by decide +kernel)), fun _ p6 n6 => ?_⟩
      refine ⟨_, rfl, ⟨_, SqT.of upd_same⟩, fun D nD => ?_⟩
      have h6 : (upd H p6 (.tup ([a, b, c].map Opd.v))) p6 = some (.tup ([a, b, c].map Opd.v)) := upd_same
      refine lc_true (walk_tup (a := p6) (xs := [a, b, c].map Opd.v)) nD (Nat.le_of_ble_eq_true rfl) (fun _ s2 => SqT.of (s2 _ _ h6)) (fun i x H2 H3 Kf k hi s2 y => ?_) (fun H2 s2 e2 => ?_)
      · obtain ⟨rfl, e⟩ := y
        obtain ⟨o, rfl, oo⟩ : ∃ o : Opd, x = o.v ∧ okO o := opd_at (by simp [List.forall_mem_cons]; exact ⟨oa, ob, oc⟩) e
        have hl2 : H3 l = some (.lst (ls.map .str)) := s2 _ _ (upd_get n6 hl)
        refine ⟨rfl, _, rfl, _, rfl, o, l, ls, rfl, hl2, oo, h2, fun H4 s4 => k H4 s4⟩
      · refine ⟨_, _, rfl, SqL.of e2, ?_⟩
        have s0 : Same H H2 := Same.trans (same_nw (Same.refl _) n6) s2
        have hp2 := s0 _ _ hp
        have hl2 := s0 _ _ hl
        rw [all_rep]
        have ex := inV_nls h2 ox
        have nx := okNm_of ox
        walk_at "go"
        exact fin_t (Q := Q) (b := !inV (.str x) (ls.map .str)) (by rw [ex]; rfl) (q _ (by walk_at "sm"))
    | lt a =>
      obtain ⟨p, rfl, hp⟩ := hr
      have oa := ho
      obtain ⟨p5, k5, t5⟩ := B.sh "let" 2 1 (by decide +kernel)
      walk_at "go"
      refine ⟨_, _, _, rfl, rfl, k5, ?_⟩
      refine ⟨_, _, rfl, t5 _, rfl, ?_⟩
      walk_at "go"
      refine ⟨_, _, rfl, SqT.of hp, (fun e => absurd e.1 (show ¬ HT.sIx 2 0 (some 1) = 0 by decide +kernel)), fun _ p6 n6 => ?_⟩
      refine ⟨_, rfl, ⟨_, SqT.of upd_same⟩, fun D nD => ?_⟩
      have h6 : (upd H p6 (.tup ([a].map Opd.v))) p6 = some (.tup ([a].map Opd.v)) := upd_same
      refine lc_true (walk_tup (a := p6) (xs := [a].map Opd.v)) nD (Nat.le_of_ble_eq_true rfl) (fun _ s2 => SqT.of (s2 _ _ h6)) (fun i x H2 H3 Kf k hi s2 y => ?_) (fun H2 s2 e2 => ?_)
      · obtain ⟨rfl, e⟩ := y
        obtain ⟨o, rfl, oo⟩ : ∃ o : Opd, x = o.v ∧ okO o := opd_at (by simp [List.forall_mem_cons]; exact oa) e
        have hl2 : H3 l = some (.lst (ls.map .str)) := s2 _ _ (upd_get n6 hl)
        refine ⟨rfl, _, rfl, _, rfl, o, l, ls, rfl, hl2, oo, h2, fun H4 s4 => k H4 s4⟩
      · refine ⟨_, _, rfl, SqL.of e2, ?_⟩
        have s0 : Same H H2 := Same.trans (same_nw (Same.refl _) n6) s2
        have hp2 := s0 _ _ hp
        have hl2 := s0 _ _ hl
        rw [all_rep]
        walk_at "go"
        exact q _ (by walk_at "sm")
    | _ => exact hp'.elim
end
end NW
/-! ## Walks: rows within rows -/
namespace NW
open PySem PySem.Spec PyProof.Rows L2
set_option pp.maxSteps 150
-- an object's place in a heap
local macro_rules | `(tactic| walk_at "hp") => `(tactic| (show _ = some _; first
  | assumption
  | exact upd_same
  | (refine' upd_get ?n ?h; (case n => assumption); (case h => walk_at "hp"))
  | (refine' same_get ?n ?h; (case n => assumption); (case h => walk_at "hp"))))
-- a heap that has grown
local macro_rules | `(tactic| walk_at "sm") => `(tactic| first
  | assumption
  | exact Same.refl _
  | (refine' same_nw ?n ?h; (case h => assumption); (case n => walk_at "sm"))
  | (refine' Same.trans ?n ?h; (case h => assumption); (case n => walk_at "sm")))
local macro_rules | `(tactic| walk_at "ty") => `(tactic| first
  | exact TyN.int _
  | exact TyN.str _
  | exact TyN.non
  | (refine' TyN.tup ?h; (case h => walk_at "hp"))
  | (refine' TyN.lst ?h; (case h => walk_at "hp")))
-- a test whose answer is known
local macro_rules | `(tactic| walk_at "if") => `(tactic| first
  | (refine iteB (by decide +kernel) ?_)
  | (refine iteN (by decide +kernel) ?_)
  | (refine iteB (by rfl) ?_)
  | (refine iteN (by rfl) ?_)
  | (refine iteB (decide_eq_true (by first | omega | assumption)) ?_)
  | (refine iteN (decide_eq_false (by first | omega | assumption)) ?_)
  | (refine iteB (by simp only [Bool.not_eq_true', Bool.not_eq_false', Bool.and_eq_true, Bool.and_eq_false_iff, Bool.or_eq_true, Bool.or_eq_false_iff, decide_eq_true_eq, decide_eq_false_iff_not]; omega) ?_)
  | (refine iteN (by simp only [Bool.not_eq_true', Bool.not_eq_false', Bool.and_eq_true, Bool.and_eq_false_iff, Bool.or_eq_true, Bool.or_eq_false_iff, decide_eq_true_eq, decide_eq_false_iff_not]; omega) ?_))
-- one step of a reading
local macro_rules | `(tactic| walk_at "s") => `(tactic| first
  | refine ⟨_, rfl, ?_⟩
  | refine ⟨_, _, rfl, rfl, ?_⟩
  | refine And.intro (show wipe _ _ = wipe _ _ by kernel_rfl) ?_
  | refine And.intro rfl ?_
  | (refine' ⟨_, _, _, _, rfl, rfl, SqT.of ?h, ?e, ?_⟩; (case h => walk_at "hp"); (case e => exact rfl))
  | (refine' ⟨_, _, rfl, ?t, ?_⟩; (case t => walk_at "ty"))
  | (refine' ⟨_, _, rfl, SqT.of ?h, ?e, ?_⟩; (case h => walk_at "hp"); (case e => exact rfl))
  | refine ⟨_, _, rfl, ?_⟩
  | (refine' ⟨_, _, _, rfl, rfl, ?h1, ?h2, ?_⟩; (case h1 => walk_at "hp"); (case h2 => walk_at "hp"))
  | (refine' ⟨_, _, _, _, rfl, rfl, SqL.of ?h, ?e, ?_⟩; (case h => walk_at "hp"); (case e => exact rfl))
  | (refine' ⟨_, _, rfl, Or.inr (SqT.of ?h), ?_⟩; (case h => walk_at "hp"))
  | (refine' ⟨_, _, rfl, Or.inr (SqT.of ?h), rfl, rfl, ?_⟩; (case h => walk_at "hp"))
  | (refine' ⟨_, _, rfl, Or.inl (SqL.of ?h), ?_⟩; (case h => walk_at "hp"))
  | refine And.intro (flat_strs _) ?_
  | (refine And.intro (sm_sz (Nat.le_of_ble_eq_true rfl)) ?_; intro p np)
  | walk_at "if"
  | (refine' And.intro ?a ?_; (case a => first | assumption | exact sm_sz (by omega) | omega | exact Or.inr ⟨by omega, by omega⟩ | exact Or.inl ⟨by omega, by omega⟩ | exact ⟨by omega, by omega⟩))
  | refine Or.inl ⟨_, _, _, rfl, ?_⟩
  | refine Or.inr ⟨_, _, _, rfl, ?_⟩
  | (intro Hn sn))
local macro_rules | `(tactic| walk_at "go") => `(tactic| repeat (walk_at "s"))

abbrev s_is_row : Stmt := topS 30
abbrev N_is_row : List Str := ["row", "lists", "deep", "one"]
abbrev P_is_row : List Str := ["row", "lists", "deep"]
theorem sc_is_row : FnScope N_is_row P_is_row (defScope s_is_row) := ⟨rfl, rfl, rfl, by decide +kernel, rfl, by decide +kernel, by decide +kernel⟩

abbrev s_are_rows : Stmt := topS 31
abbrev N_are_rows : List Str := ["rows", "lists", "deep", "row"]
abbrev P_are_rows : List Str := ["rows", "lists", "deep"]
theorem sc_are_rows : FnScope N_are_rows P_are_rows (defScope s_are_rows) := ⟨rfl, rfl, rfl, by decide +kernel, rfl, by decide +kernel, by decide +kernel⟩

def sp_are_rows (n : Nat) : Sp := fun vs H Q _ => ∃ (rows : Rows) (p l : Addr) (ws : List V) (ls : List Str) (deep : Int), vs = [.ref p, .ref l, .int deep] ∧ 0 < n ∧ H p = some (.tup ws) ∧ RowsL H rows ws ∧ okRows ls (n - 1) rows ∧ rows.len ≤ 5 ∧ okLs ls ∧ H l = some (.lst (ls.map .str)) ∧
  deep + (n : Int) ≤ 6 ∧ ∀ H', Same H H' → Q (.bl true) H'
def sp_is_row (m : Nat) : Sp := fun vs H Q _ => ∃ (r : Row) (v : V) (l : Addr) (ls : List Str) (deep : Int), vs = [v, .ref l, .int deep] ∧ RowAt H r v ∧ okRow ls m r ∧ okLs ls ∧ H l = some (.lst (ls.map .str)) ∧
  deep + (m : Int) ≤ 5 ∧ ∀ H', Same H H' → Q (.bl true) H'
theorem ok_pl {ls : List Str} {k : Nat} : ∀ {r : Row}, plain r → okRow ls k r → okRow ls 0 r
  | .set .., _, h => h
  | .get .., _, h => h
  | .put .., _, h => h
  | .pick .., _, h => h
  | .lt .., _, h => h
section
variable {P : Program} {w : World} {K : PySem.W.Frag} {mg : Str → Option Value} {base : Heap} {aS aD : Addr} {es : Array DictEntry} {n : Nat}
theorem ok_is_row {m : Nat} (T : Tx mg) (B : Tabs K w mg aS aD es n) (D : DefAt K mg "is_row" s_is_row) (c_is_plain_row : C8.Cal P w K mg base 3 "is_plain_row" sp_is_plain_row []) (c_is_operand : C8.Cal P w K mg base 2 "is_operand" sp_is_operand [])
    (c_is_whole : C8.Cal P w K mg base 1 "is_whole" sp_is_whole []) (c_are_rows : C8.Cal P w K mg base (5 + 2 * m) "are_rows" (sp_are_rows m) []) : C8.Cal P w K mg base (6 + 2 * m) "is_row" (sp_is_row m) [] := by
  refine Cal.mono (j := 6 + 2 * m) (D.cal (k := 5 + 2 * m) sc_is_row (fun _ _ _ _ _ _ us hl => match us, hl with | [_, _, _], _ => rfl) (fun vs H Q E h => ?_) (fun f cdv A outer s H vs Q E hr h => ⟨_, (pss_cons (ps_if (PW.pt (pw_or (pt_not (pt_val (pe_callB (call_isK .tuple) (by rfl) T.isinstance_ (by decide +kernel) (pa_cons (pv 0) (pa_cons (pe_bltn (v := .ty "tuple") (u := .type "tuple") (by rfl) T.tuple_ (by decide +kernel) rfl) pa_nil))))) (pw_or (pt_cmpR (op_eqNilT hr.units) (pv 0) (pe_tup pa_nil) (nomark _)) (pw_or1 (pt_not (pt_val (pe_callB (call_isK .str) (by rfl) T.isinstance_ (by decide +kernel) (pa_cons (pe_ix ix_tup (pv 0) pe_int (fun _ _ => rfl)) (pa_cons (pe_bltn (v := .ty "str") (u := .type "str") (by rfl) T.str_ (by decide +kernel) rfl) pa_nil))))))))) (pss_one (ps_ret pe_bl))
    pss_nil)
    (pss_cons (ps_if (pt_cmpR (op_in_kd B.kd) (pe_ix ix_tup (pv 0) pe_int (fun _ _ => rfl)) (pe_glob (v := .ref aS) (by rfl) B.gS rfl) (by rfl)) (pss_one (ps_ret (C8.pe_c c_is_plain_row hr (by omega) (by rfl) (pa_cons (pv 0) (pa_cons (pv 1) pa_nil)))))
    pss_nil)
    (pss_cons (ps_if (pt_cmpR op_eq (pe_ix ix_tup (pv 0) pe_int (fun _ _ => rfl)) pe_str (nomark _)) (pss_one (ps_ret (pe_and (pe_cmpR op_eq (pe_callB call_len_seq (by rfl) T.len_ PySem.boot_len (pa_cons (pv 0) pa_nil)) pe_int (nomark _)) (pe_and (C8.pe_c c_is_operand hr (by omega) (by rfl) (pa_cons (pe_ix ix_tup (pv 0) pe_int (fun _ _ => rfl)) (pa_cons (pv 1) pa_nil))) (pe_one (pe_callB (cr_all rfl) (by rfl) T.all_ (by decide +kernel) (pa_cons (pe_lc (own := [("one", 3)]) (g := (gName 3)) (tt := tYes) rfl sc_is_row.nd (pi_tup (pe_slice sl_tupA (pv 0) (po_some pe_int) po_none)) (blkOk_by (own := [("one", 3)]) (N := N_is_row) (sc := defScope s_is_row) (by decide +kernel)) (fun _ _ _ _ _ => (pg_name (i := 3) sc_is_row.nd rfl (Or.inl rfl))) (fun _ _ _ _ _ => pts_nil) (fun _ _ _ _ _ => (C8.pe_c c_are_rows hr (by omega) (by rfl) (pa_cons (pv 3) (pa_cons (pv 1) (pa_cons (pe_op op_add (pv 2) pe_int) pa_nil)))))) pa_nil)))))))
    pss_nil)
    (pss_cons (ps_if (PW.pt (pw_or (pt_cmpR op_ne (pe_ix ix_tup (pv 0) pe_int (fun _ _ => rfl)) pe_str (nomark _)) (pw_or (pt_cmpR op_ne (pe_callB call_len_seq (by rfl) T.len_ PySem.boot_len (pa_cons (pv 0) pa_nil)) pe_int (nomark _)) (pw_or1 (pt_not (pt_val (C8.pe_c c_is_operand hr (by omega) (by rfl) (pa_cons (pe_ix ix_tup (pv 0) pe_int (fun _ _ => rfl)) (pa_cons (pv 1) pa_nil))))))))) (pss_one (ps_ret pe_bl))
    pss_nil)
    (pss_one (ps_ret (pe_and (C8.pe_c c_is_whole hr (by omega) (by rfl) (pa_cons (pe_ix ix_tup (pv 0) pe_int (fun _ _ => rfl)) (pa_cons pe_int (pa_cons (C8.pe_gc (by rfl) T.g_MOST_ROUNDS) pa_nil)))) (pe_one (C8.pe_c c_are_rows hr (by omega) (by rfl) (pa_cons (pe_ix ix_tup (pv 0) pe_int (fun _ _ => rfl)) (pa_cons (pv 1) (pa_cons (pe_op op_add (pv 2) pe_int) pa_nil)))))))))))), ?_⟩)) (by omega)
  · obtain ⟨r, v, l, ls, deep, rfl, _⟩ := h
    rfl
  · obtain ⟨r, v, l, ls, deep, rfl, hr, ho, h2, hl, hd, q⟩ := h
    cases r with
    | ite a t e =>
      obtain ⟨p, pt, pe, ts, es, rfl, hp, hpt, hpe, ht, he⟩ := hr
      obtain ⟨m0, oa, tl, el, ot, oe⟩ := ho
      walk_at "go"
      refine ⟨_, _, rfl, rfl, B.ni, ?_⟩
      walk_at "go"
      refine ⟨a, l, ls, rfl, by walk_at "hp", oa, h2, fun H1 s1 => ?_⟩
      rename_i p0 np0
      have s0 : Same H H1 := Same.trans (same_nw (Same.refl _) np0) s1
      have hp1 := s0 _ _ hp
      walk_at "go"
      refine ⟨_, _, rfl, SqT.of hp1, (fun e => absurd e.1 (show ¬ HT.sIx 4 0 (some 2) = 0 by decide +kernel)), fun _ p6 n6 => ?_⟩
      refine ⟨_, rfl, ⟨_, SqT.of upd_same⟩, fun D nD => ?_⟩
      have h6 : (upd H1 p6 (.tup [.ref pt, .ref pe])) p6 = some (.tup [.ref pt, .ref pe]) := upd_same
      refine lc_true (walk_tup (a := p6) (xs := [.ref pt, .ref pe])) nD (Nat.le_of_ble_eq_true rfl) (fun _ s2 => SqT.of (s2 _ _ h6)) (fun i x H2 H3 Kf k hi s2 y => ?_) (fun H2 s2 e2 => ?_)
      · obtain ⟨rfl, e'⟩ := y
        have s3 : Same H H3 := Same.trans (Same.trans s0 (same_nw (Same.refl _) n6)) s2
        have t3 := same_ts s3
        refine ⟨rfl, _, rfl, _, rfl, _, rfl, _, _, rfl, rfl, ?_⟩
        match i, e' with
        | 0, e' =>
          cases e'
          exact ⟨t, pt, l, ts, ls, deep + 1, rfl, m0, s3 _ _ hpt, ht.ts t3, ot, by omega, h2, s3 _ _ hl, by omega, fun H4 s4 => k H4 s4⟩
        | 1, e' =>
          cases e'
          exact ⟨e, pe, l, es, ls, deep + 1, rfl, m0, s3 _ _ hpe, he.ts t3, oe, by omega, h2, s3 _ _ hl, by omega, fun H4 s4 => k H4 s4⟩
        | i + 2, e' => cases e'
      · refine ⟨_, _, rfl, SqL.of e2, ?_⟩
        rw [all_rep]
        exact q _ (Same.trans (Same.trans s0 (same_nw (Same.refl _) n6)) s2)
    | whl a k b =>
      obtain ⟨p, pb, bs, rfl, hp, hpb, hb⟩ := hr
      obtain ⟨m0, oa, n0, n1, bl, ob⟩ := ho
      walk_at "go"
      refine ⟨_, _, rfl, rfl, B.nw, ?_⟩
      walk_at "go"
      refine ⟨a, l, ls, rfl, by walk_at "hp", oa, h2, fun H1 s1 => ?_⟩
      rename_i p0 np0
      have s0 : Same H H1 := Same.trans (same_nw (Same.refl _) np0) s1
      have hp1 := s0 _ _ hp
      walk_at "go"
      exact ⟨b, pb, l, bs, ls, deep + 1, rfl, m0, s0 _ _ hpb, hb.ts (same_ts s0), ob, by omega, h2, s0 _ _ hl, by omega, fun H4 s4 => q H4 (s0.trans s4)⟩
    | set x d a b =>
      obtain ⟨p, rfl, hp⟩ := id hr
      obtain ⟨p5, ⟨e5, n5, u5, k1, k2, k3, k4⟩, t5⟩ := B.sh "set" 5 3 (by decide +kernel)
      walk_at "go"
      refine ⟨_, _, rfl, rfl, k3, ?_⟩
      walk_at "go"
      exact ⟨_, _, _, _, rfl, hr.ts (ts_nw (TS.refl _) (by assumption)), True.intro, ok_pl True.intro ho, h2, upd_get (by assumption) hl, fun H' s' => q H' (Same.trans (same_nw (Same.refl _) (by assumption)) s')⟩
    | get x g a =>
      obtain ⟨p, rfl, hp⟩ := id hr
      obtain ⟨p5, ⟨e5, n5, u5, k1, k2, k3, k4⟩, t5⟩ := B.sh "get" 4 3 (by decide +kernel)
      walk_at "go"
      refine ⟨_, _, rfl, rfl, k3, ?_⟩
      walk_at "go"
      exact ⟨_, _, _, _, rfl, hr.ts (ts_nw (TS.refl _) (by assumption)), True.intro, ok_pl True.intro ho, h2, upd_get (by assumption) hl, fun H' s' => q H' (Same.trans (same_nw (Same.refl _) (by assumption)) s')⟩
    | put g a b =>
      obtain ⟨p, rfl, hp⟩ := id hr
      obtain ⟨p5, ⟨e5, n5, u5, k1, k2, k3, k4⟩, t5⟩ := B.sh "put" 4 2 (by decide +kernel)
      walk_at "go"
      refine ⟨_, _, rfl, rfl, k3, ?_⟩
      walk_at "go"
      exact ⟨_, _, _, _, rfl, hr.ts (ts_nw (TS.refl _) (by assumption)), True.intro, ok_pl True.intro ho, h2, upd_get (by assumption) hl, fun H' s' => q H' (Same.trans (same_nw (Same.refl _) (by assumption)) s')⟩
    | pick x a b c =>
      obtain ⟨p, rfl, hp⟩ := id hr
      obtain ⟨p5, ⟨e5, n5, u5, k1, k2, k3, k4⟩, t5⟩ := B.sh "pick" 5 2 (by decide +kernel)
      walk_at "go"
      refine ⟨_, _, rfl, rfl, k3, ?_⟩
      walk_at "go"
      exact ⟨_, _, _, _, rfl, hr.ts (ts_nw (TS.refl _) (by assumption)), True.intro, ok_pl True.intro ho, h2, upd_get (by assumption) hl, fun H' s' => q H' (Same.trans (same_nw (Same.refl _) (by assumption)) s')⟩
    | lt a =>
      obtain ⟨p, rfl, hp⟩ := id hr
      obtain ⟨p5, ⟨e5, n5, u5, k1, k2, k3, k4⟩, t5⟩ := B.sh "let" 2 1 (by decide +kernel)
      walk_at "go"
      refine ⟨_, _, rfl, rfl, k3, ?_⟩
      walk_at "go"
      exact ⟨_, _, _, _, rfl, hr.ts (ts_nw (TS.refl _) (by assumption)), True.intro, ok_pl True.intro ho, h2, upd_get (by assumption) hl, fun H' s' => q H' (Same.trans (same_nw (Same.refl _) (by assumption)) s')⟩
theorem ok_are_rows {m : Nat} (T : Tx mg) (D : DefAt K mg "are_rows" s_are_rows) (c_is_row : C8.Cal P w K mg base (6 + 2 * m) "is_row" (sp_is_row m) []) : C8.Cal P w K mg base (5 + 2 * (m + 1)) "are_rows" (sp_are_rows (m + 1)) [] := by
  refine Cal.mono (j := 5 + 2 * (m + 1)) (D.cal (k := 6 + 2 * m) sc_are_rows (fun _ _ _ _ _ _ us hl => match us, hl with | [_, _, _], _ => rfl) (fun vs H Q E h => ?_) (fun f cdv A outer s H vs Q E hr h => ⟨_, (pss_cons (ps_if (PW.pt (pw_or (pt_not (pt_val (pe_callB (call_isK .tuple) (by rfl) T.isinstance_ (by decide +kernel) (pa_cons (pv 0) (pa_cons (pe_bltn (v := .ty "tuple") (u := .type "tuple") (by rfl) T.tuple_ (by decide +kernel) rfl) pa_nil))))) (pw_or (PW.pt (pw_and (pt_cmpR (op_neNilT hr.units) (pv 0) (pe_tup pa_nil) (nomark _)) (pw_and1 (pt_cmpR op_gt (pv 2) (C8.pe_gc (by rfl) T.g_MOST_DEEP) (nomark _))))) (pw_or1 (pt_cmpR op_gt (pe_callB call_len_seq (by rfl) T.len_ PySem.boot_len (pa_cons (pv 0) pa_nil)) (C8.pe_gc (by rfl) T.g_MOST_ROWS) (nomark _)))))) (pss_one (ps_ret pe_bl))
    pss_nil)
    (pss_one (ps_ret (pe_callB (cr_all rfl) (by rfl) T.all_ (by decide +kernel) (pa_cons (pe_lc (own := [("row", 3)]) (g := (gName 3)) (tt := tYes) rfl sc_are_rows.nd (pi_tup (pv 0)) (blkOk_by (own := [("row", 3)]) (N := N_are_rows) (sc := defScope s_are_rows) (by decide +kernel)) (fun _ _ _ _ _ => (pg_name (i := 3) sc_are_rows.nd rfl (Or.inl rfl))) (fun _ _ _ _ _ => pts_nil) (fun _ _ _ _ _ => (C8.pe_c c_is_row hr (by omega) (by rfl) (pa_cons (pv 3) (pa_cons (pv 1) (pa_cons (pv 2) pa_nil)))))) pa_nil))))), ?_⟩)) (by omega)
  · obtain ⟨rows, p, l, ws, ls, deep, rfl, _⟩ := h
    rfl
  · obtain ⟨rows, p, l, ws, ls, deep, rfl, _, hp, hw, ho, hl5, h2, hl, hd, q⟩ := h
    have hlen : ws.length ≤ 5 := by rw [hw.len]; exact hl5
    cases ws with
    | nil =>
      walk_at "go"
      refine ⟨⟨_, SqT.of (by walk_at "hp")⟩, fun D nD => ?_⟩
      rename_i p0 np0
      have s1 : Same H (upd H p0 (.tup [])) := same_nw (Same.refl _) np0
      refine lc_true (walk_tup (a := p) (xs := [])) nD (by omega) (fun _ s2 => SqT.of (s2 _ _ (s1 _ _ hp))) (fun i x H2 H3 Kf k hi s2 y => ?_) (fun H2 s2 e2 => ?_)
      · obtain ⟨rfl, e⟩ := y
        obtain ⟨r, er, hr'⟩ := hw.at e
        have s3 := s1.trans s2
        refine ⟨rfl, _, rfl, _, rfl, _, rfl, r, x, l, ls, deep, rfl, hr'.ts (same_ts s3), ho.at er, h2, s3 _ _ hl, by omega, fun H4 s4 => k H4 s4⟩
      · refine ⟨_, _, rfl, SqL.of e2, ?_⟩
        rw [all_rep]
        exact q _ (s1.trans s2)
    | cons v ws =>
      walk_at "go"
      refine ⟨⟨_, SqT.of (by walk_at "hp")⟩, fun D nD => ?_⟩
      rename_i p0 np0
      have s1 : Same H (upd H p0 (.tup [])) := same_nw (Same.refl _) np0
      refine lc_true (walk_tup (a := p) (xs := v :: ws)) nD (by omega) (fun _ s2 => SqT.of (s2 _ _ (s1 _ _ hp))) (fun i x H2 H3 Kf k hi s2 y => ?_) (fun H2 s2 e2 => ?_)
      · obtain ⟨rfl, e⟩ := y
        obtain ⟨r, er, hr'⟩ := hw.at e
        have s3 := s1.trans s2
        refine ⟨rfl, _, rfl, _, rfl, _, rfl, r, x, l, ls, deep, rfl, hr'.ts (same_ts s3), ho.at er, h2, s3 _ _ hl, by omega, fun H4 s4 => k H4 s4⟩
      · refine ⟨_, _, rfl, SqL.of e2, ?_⟩
        rw [all_rep]
        exact q _ (s1.trans s2)
end
end NW
/-! ## Walks: rows counted; a whole program is looked at -/
namespace NW
open PySem PySem.Spec PyProof.Rows L2
set_option pp.maxSteps 150
-- an object's place in a heap
local macro_rules | `(tactic| walk_at "hp") => `(tactic| (show _ = some _; first
  | assumption
  | exact upd_same
  | (refine' upd_get ?n ?h; (case n => assumption); (case h => walk_at "hp"))
  | (refine' same_get ?n ?h; (case n => assumption); (case h => walk_at "hp"))))
-- a heap that has grown
local macro_rules | `(tactic| walk_at "sm") => `(tactic| first
  | assumption
  | exact Same.refl _
  | (refine' same_nw ?n ?h; (case h => assumption); (case n => walk_at "sm"))
  | (refine' Same.trans ?n ?h; (case h => assumption); (case n => walk_at "sm")))
local macro_rules | `(tactic| walk_at "ty") => `(tactic| first
  | exact TyN.int _
  | exact TyN.str _
  | exact TyN.non
  | (refine' TyN.tup ?h; (case h => walk_at "hp"))
  | (refine' TyN.lst ?h; (case h => walk_at "hp")))
-- a test whose answer is known
local macro_rules | `(tactic| walk_at "if") => `(tactic| first
  | (refine iteB (by decide +kernel) ?_)
  | (refine iteN (by decide +kernel) ?_)
  | (refine iteB (by rfl) ?_)
  | (refine iteN (by rfl) ?_)
  | (refine iteB (decide_eq_true (by first | omega | assumption)) ?_)
  | (refine iteN (decide_eq_false (by first | omega | assumption)) ?_)
  | (refine iteB (by simp only [Bool.not_eq_true', Bool.not_eq_false', Bool.and_eq_true, Bool.and_eq_false_iff, Bool.or_eq_true, Bool.or_eq_false_iff, decide_eq_true_eq, decide_eq_false_iff_not]; omega) ?_)
  | (refine iteN (by simp only [Bool.not_eq_true', Bool.not_eq_false', Bool.and_eq_true, Bool.and_eq_false_iff, Bool.or_eq_true, Bool.or_eq_false_iff, decide_eq_true_eq, decide_eq_false_iff_not]; omega) ?_))
-- one step of a reading
local macro_rules | `(tactic| walk_at "s") => `(tactic| first
  | refine ⟨_, rfl, ?_⟩
  | refine ⟨_, _, rfl, rfl, ?_⟩
  | refine And.intro (show wipe _ _ = wipe _ _ by kernel_rfl) ?_
  | refine And.intro rfl ?_
  | (refine' ⟨_, _, _, _, rfl, rfl, SqT.of ?h, ?e, ?_⟩; (case h => walk_at "hp"); (case e => exact rfl))
  | (refine' ⟨_, _, rfl, ?t, ?_⟩; (case t => walk_at "ty"))
  | (refine' ⟨_, _, rfl, SqT.of ?h, ?e, ?_⟩; (case h => walk_at "hp"); (case e => exact rfl))
  | refine ⟨_, _, rfl, ?_⟩
  | (refine' ⟨_, _, _, rfl, rfl, ?h1, ?h2, ?_⟩; (case h1 => walk_at "hp"); (case h2 => walk_at "hp"))
  | (refine' ⟨_, _, _, _, rfl, rfl, SqL.of ?h, ?e, ?_⟩; (case h => walk_at "hp"); (case e => exact rfl))
  | (refine' ⟨_, _, rfl, Or.inr (SqT.of ?h), ?_⟩; (case h => walk_at "hp"))
  | (refine' ⟨_, _, rfl, Or.inr (SqT.of ?h), rfl, rfl, ?_⟩; (case h => walk_at "hp"))
  | (refine' ⟨_, _, rfl, Or.inl (SqL.of ?h), ?_⟩; (case h => walk_at "hp"))
  | refine And.intro (flat_strs _) ?_
  | (refine And.intro (sm_sz (Nat.le_of_ble_eq_true rfl)) ?_; intro p np)
  | walk_at "if"
  | (refine' And.intro ?a ?_; (case a => first | assumption | exact sm_sz (by omega) | omega | exact Or.inr ⟨by omega, by omega⟩ | exact Or.inl ⟨by omega, by omega⟩ | exact ⟨by omega, by omega⟩))
  | refine Or.inl ⟨_, _, _, rfl, ?_⟩
  | refine Or.inr ⟨_, _, _, rfl, ?_⟩
  | (intro Hn sn))
local macro_rules | `(tactic| walk_at "go") => `(tactic| repeat (walk_at "s"))

abbrev s_parts_of : Stmt := topS 32
abbrev N_parts_of : List Str := ["row"]
abbrev P_parts_of : List Str := ["row"]
theorem sc_parts_of : FnScope N_parts_of P_parts_of (defScope s_parts_of) := ⟨rfl, rfl, rfl, by decide +kernel, rfl, by decide +kernel, by decide +kernel⟩

abbrev s_many_rows : Stmt := topS 33
abbrev N_many_rows : List Str := ["rows", "row", "part"]
abbrev P_many_rows : List Str := ["rows"]
theorem sc_many_rows : FnScope N_many_rows P_many_rows (defScope s_many_rows) := ⟨rfl, rfl, rfl, by decide +kernel, rfl, by decide +kernel, by decide +kernel⟩

section
variable {P : Program} {w : World} {K : PySem.W.Frag} {mg : Str → Option Value} {base : Heap} {aS aD : Addr} {es : Array DictEntry} {n : Nat}
theorem ok_parts_of (T : Tx mg) (D : DefAt K mg "parts_of" s_parts_of) : C8.Cal P w K mg base 1 "parts_of" sp_parts_of [] := by
  refine D.cal (k := 0) sc_parts_of (fun _ _ _ _ _ _ us hl => match us, hl with | [_], _ => rfl) (fun vs H Q E h => ?_) (fun f cdv A outer s H vs Q E hr h => ⟨_, (pss_cons (ps_if (pt_cmpR op_eq (pe_ix ix_tup (pv 0) pe_int (fun _ _ => rfl)) pe_str (nomark _)) (pss_one (ps_ret (pe_slice sl_tupA (pv 0) (po_some pe_int) po_none)))
    pss_nil)
    (pss_one (ps_ret (pe_ifExp (pt_cmpR op_eq (pe_ix ix_tup (pv 0) pe_int (fun _ _ => rfl)) pe_str (nomark _)) (pe_slice sl_tupA (pv 0) (po_some pe_int) po_none) (pe_tup pa_nil))))), ?_⟩)
  · obtain ⟨r, v, rfl, _⟩ := h
    rfl
  · obtain ⟨r, v, rfl, hr, q⟩ := h
    cases r with
    | ite a t e =>
      obtain ⟨p, pt, pe, ts, es, rfl, hp, hpt, hpe, ht, he⟩ := hr
      walk_at "go"
      refine ⟨_, _, rfl, SqT.of hp, (fun e => absurd e.1 (show ¬ HT.sIx 4 0 (some 2) = 0 by decide +kernel)), fun _ p6 n6 => ?_⟩
      have s0 : Same H (upd H p6 (.tup [.ref pt, .ref pe])) := same_nw (Same.refl _) n6
      exact q _ p6 [.ref pt, .ref pe] s0 upd_same (.cons ⟨pt, ts, rfl, s0 _ _ hpt, ht.ts (same_ts s0)⟩ (.cons ⟨pe, es, rfl, s0 _ _ hpe, he.ts (same_ts s0)⟩ .nil))
    | whl a k b =>
      obtain ⟨p, pb, bs, rfl, hp, hpb, hb⟩ := hr
      walk_at "go"
      refine ⟨_, _, rfl, SqT.of hp, (fun e => absurd e.1 (show ¬ HT.sIx 4 0 (some 3) = 0 by decide +kernel)), fun _ p6 n6 => ?_⟩
      have s0 : Same H (upd H p6 (.tup [.ref pb])) := same_nw (Same.refl _) n6
      exact q _ p6 [.ref pb] s0 upd_same (.cons ⟨pb, bs, rfl, s0 _ _ hpb, hb.ts (same_ts s0)⟩ .nil)
    | _ =>
      obtain ⟨p, rfl, hp⟩ := hr
      walk_at "go"
      exact q _ _ [] (by walk_at "sm") upd_same .nil
theorem ok_many_rows {m : Nat} (T : Tx mg) (D : DefAt K mg "many_rows" s_many_rows) (c_parts_of : C8.Cal P w K mg base 1 "parts_of" sp_parts_of []) (c_many_rows : C8.Cal P w K mg base (2 + m) "many_rows" (sp_many_rows m) []) : C8.Cal P w K mg base (2 + (m + 1)) "many_rows" (sp_many_rows (m + 1)) [] := by
  refine Cal.mono (j := 2 + (m + 1)) (D.cal (k := 2 + m) sc_many_rows (fun _ _ _ _ _ _ us hl => match us, hl with | [_], _ => rfl) (fun vs H Q E h => ?_) (fun f cdv A outer s H vs Q E hr h => ⟨_, (pss_one (ps_ret (pe_callB (cr_sum rfl) (by rfl) T.sum_ (by decide +kernel) (pa_cons (pe_lc (own := [("row", 1)]) (g := (gName 1)) (tt := tYes) rfl sc_many_rows.nd (pi_tup (pv 0)) (blkOk_by (own := [("row", 1)]) (N := N_many_rows) (sc := defScope s_many_rows) (by decide +kernel)) (fun _ _ _ _ _ => (pg_name (i := 1) sc_many_rows.nd rfl (Or.inl rfl))) (fun _ _ _ _ _ => pts_nil) (fun _ _ _ _ _ => (pe_op op_add pe_int (pe_callB (cr_sumK (K := K) rfl rfl) (by rfl) T.sum_ (by decide +kernel) (pa_cons (by exact (pe_lc (own := [("part", 2)]) (g := (gName 2)) (tt := tYes) rfl sc_many_rows.nd (pi_tupK (K := K) rfl (C8.pe_c c_parts_of hr (by omega) (by rfl) (pa_cons (pv 1) pa_nil))) (blkOk_by (own := [("part", 2)]) (N := N_many_rows) (sc := ({ kind := .function, names := [(".0", .local), ("row", .local), ("sum", .globalImplicit), ("parts_of", .globalImplicit)], isGenerator := false, isCoroutine := false } : Scope)) (by decide +kernel)) (fun _ _ _ _ _ => (pg_name (i := 2) sc_many_rows.nd rfl (Or.inl rfl))) (fun _ _ _ _ _ => pts_nil) (fun _ _ _ _ _ => (C8.pe_c c_many_rows hr (by omega) (by rfl) (pa_cons (pv 2) pa_nil))))) pa_nil))))) pa_nil)))), ?_⟩)) (by omega)
  · obtain ⟨rows, p, ws, ls, rfl, _⟩ := h
    rfl
  · obtain ⟨rows, p, ws, ls, rfl, _, hp, hw, ho, hl, q⟩ := h
    have hlen : rows.list.length = ws.length := by rw [hw.len, Rows.list_len]
    have wk : Walk (Itt K p) rows.list.length (fun H => SqT K H p ws) (YAt ws) := by
      rw [hlen]
      exact walk_tup
    refine ⟨_, rfl, _, rfl, ⟨_, SqT.of hp⟩, fun D nD => ?_⟩
    refine lc_rel wk (fun _ r v => v = .int r.cnt) (fun _ _ _ _ _ h => h) nD (by rw [Rows.list_len]; omega) (fun _ s2 => SqT.of (s2 _ _ hp)) (fun i x H2 H3 r Kf k er s2 y => ?_) (fun H2 acc s2 e2 pr => ?_)
    · obtain ⟨rfl, e⟩ := y
      obtain ⟨r', er', hr'⟩ := hw.at e
      cases er.symm.trans er'
      refine ⟨rfl, _, rfl, r, x, rfl, hr'.ts (same_ts s2), fun H4 p4 ws4 s4 hp4 pp => ?_⟩
      refine ⟨_, rfl, ⟨_, SqT.of hp4⟩, fun D2 nD2 => ?_⟩
      have wk2 : Walk (Itt K p4) r.parts.length (fun H => SqT K H p4 ws4) (YAt ws4) := by
        rw [Paired.length pp]
        exact walk_tup
      have ln : r.parts.length ≤ 2 := by cases r <;> simp [Row.parts]
      refine lc_rel wk2 (fun _ rs v => v = .int rs.cnt) (fun _ _ _ _ _ h => h) nD2 (by omega) (fun _ s2 => SqT.of (s2 _ _ hp4)) (fun i2 x2 H5 H6 rs Kf2 k2 er2 s5 y2 => ?_) (fun H5 acc2 s5 e5 pr2 => ?_)
      · obtain ⟨rfl, e2⟩ := y2
        obtain ⟨rs', er2', pb, wb, hx, hpb, hwb⟩ := Paired.at pp e2
        cases er2.symm.trans er2'
        obtain ⟨m0, op, lp⟩ := okRow.parts (okRows.at ho er) (List.mem_of_getElem? er2)
        refine ⟨rfl, _, rfl, rs, pb, wb, ls, by rw [hx]; rfl, by omega, s5 _ _ hpb, hwb.ts (same_ts s5), op, by omega, fun H7 s7 => k2 _ H7 s7 rfl⟩
      · have e6 := paired_map pr2
        refine ⟨_, r.parts.map Rows.cnt, rfl, SqL.of (by rw [e5, e6, List.map_map]; rfl), ?_⟩
        refine ⟨_, _, rfl, rfl, ?_⟩
        exact k _ H5 (Same.trans s4 s5) (congrArg V.int (Row.cnt_parts r).symm)
    · have e6 := paired_map pr
      refine ⟨_, rows.list.map Row.cnt, rfl, SqL.of (by rw [e2, e6, List.map_map]; rfl), ?_⟩
      rw [← Rows.cnt_sum]
      exact q H2 s2
end
end NW
/-! ## Walks: a whole program is looked at -/
namespace NW
open PySem PySem.Spec PyProof.Rows L2
set_option pp.maxSteps 150
-- an object's place in a heap
local macro_rules | `(tactic| walk_at "hp") => `(tactic| (show _ = some _; first
  | assumption
  | exact upd_same
  | (refine' upd_get ?n ?h; (case n => assumption); (case h => walk_at "hp"))
  | (refine' same_get ?n ?h; (case n => assumption); (case h => walk_at "hp"))))
-- a heap that has grown
local macro_rules | `(tactic| walk_at "sm") => `(tactic| first
  | assumption
  | exact Same.refl _
  | (refine' same_nw ?n ?h; (case h => assumption); (case n => walk_at "sm"))
  | (refine' Same.trans ?n ?h; (case h => assumption); (case n => walk_at "sm")))
local macro_rules | `(tactic| walk_at "ty") => `(tactic| first
  | exact TyN.int _
  | exact TyN.str _
  | exact TyN.non
  | (refine' TyN.tup ?h; (case h => walk_at "hp"))
  | (refine' TyN.lst ?h; (case h => walk_at "hp")))
-- a test whose answer is known
local macro_rules | `(tactic| walk_at "if") => `(tactic| first
  | (refine iteB (by decide +kernel) ?_)
  | (refine iteN (by decide +kernel) ?_)
  | (refine iteB (by rfl) ?_)
  | (refine iteN (by rfl) ?_)
  | (refine iteB (decide_eq_true (by first | omega | assumption)) ?_)
  | (refine iteN (decide_eq_false (by first | omega | assumption)) ?_)
  | (refine iteB (by simp only [Bool.not_eq_true', Bool.not_eq_false', Bool.and_eq_true, Bool.and_eq_false_iff, Bool.or_eq_true, Bool.or_eq_false_iff, decide_eq_true_eq, decide_eq_false_iff_not]; omega) ?_)
  | (refine iteN (by simp only [Bool.not_eq_true', Bool.not_eq_false', Bool.and_eq_true, Bool.and_eq_false_iff, Bool.or_eq_true, Bool.or_eq_false_iff, decide_eq_true_eq, decide_eq_false_iff_not]; omega) ?_))
-- one step of a reading
local macro_rules | `(tactic| walk_at "s") => `(tactic| first
  | refine ⟨_, rfl, ?_⟩
  | refine ⟨_, _, rfl, rfl, ?_⟩
  | refine And.intro (show wipe _ _ = wipe _ _ by kernel_rfl) ?_
  | refine And.intro rfl ?_
  | (refine' ⟨_, _, _, _, rfl, rfl, SqT.of ?h, ?e, ?_⟩; (case h => walk_at "hp"); (case e => exact rfl))
  | (refine' ⟨_, _, rfl, ?t, ?_⟩; (case t => walk_at "ty"))
  | (refine' ⟨_, _, rfl, SqT.of ?h, ?e, ?_⟩; (case h => walk_at "hp"); (case e => exact rfl))
  | refine ⟨_, _, rfl, ?_⟩
  | (refine' ⟨_, _, _, rfl, rfl, ?h1, ?h2, ?_⟩; (case h1 => walk_at "hp"); (case h2 => walk_at "hp"))
  | (refine' ⟨_, _, _, _, rfl, rfl, SqL.of ?h, ?e, ?_⟩; (case h => walk_at "hp"); (case e => exact rfl))
  | (refine' ⟨_, _, rfl, Or.inr (SqT.of ?h), ?_⟩; (case h => walk_at "hp"))
  | (refine' ⟨_, _, rfl, Or.inr (SqT.of ?h), rfl, rfl, ?_⟩; (case h => walk_at "hp"))
  | (refine' ⟨_, _, rfl, Or.inl (SqL.of ?h), ?_⟩; (case h => walk_at "hp"))
  | refine And.intro (flat_strs _) ?_
  | (refine And.intro (sm_sz (Nat.le_of_ble_eq_true rfl)) ?_; intro p np)
  | walk_at "if"
  | (refine' And.intro ?a ?_; (case a => first | assumption | exact sm_sz (by omega) | omega | exact Or.inr ⟨by omega, by omega⟩ | exact Or.inl ⟨by omega, by omega⟩ | exact ⟨by omega, by omega⟩))
  | refine Or.inl ⟨_, _, _, rfl, ?_⟩
  | refine Or.inr ⟨_, _, _, rfl, ?_⟩
  | (intro Hn sn))
local macro_rules | `(tactic| walk_at "go") => `(tactic| repeat (walk_at "s"))

abbrev s_are_unlike : Stmt := topS 26
abbrev N_are_unlike : List Str := ["things", "thing"]
abbrev P_are_unlike : List Str := ["things"]
theorem sc_are_unlike : FnScope N_are_unlike P_are_unlike (defScope s_are_unlike) := ⟨rfl, rfl, rfl, by decide +kernel, rfl, by decide +kernel, by decide +kernel⟩

def sp_are_unlike : Sp := fun vs H Q _ => ∃ (p : Addr) (ls : List Str), vs = [.ref p] ∧ (H p = some (.lst (ls.map .str)) ∨ H p = some (.tup (ls.map .str))) ∧ ls.Nodup ∧ ls.length ≤ 100 ∧ ∀ H', Same H H' → Q (.bl true) H'
abbrev s_handings_of : Stmt := topS 27
abbrev N_handings_of : List Str := ["handed", "lists", "kind", "found", "name", "sort", "many", "cells", "empty", "cell"]
abbrev P_handings_of : List Str := ["handed", "lists", "kind"]
theorem sc_handings_of : FnScope N_handings_of P_handings_of (defScope s_handings_of) := ⟨rfl, rfl, rfl, by decide +kernel, rfl, by decide +kernel, by decide +kernel⟩

def sp_handings_of : Sp := fun vs H Q _ => ∃ (p : Prog) (ah al : Addr) (k : Str) (hs ls : List V), vs = [.ref ah, .ref al, .str k] ∧ H ah = some (.tup hs) ∧ TupsL H (p.handed.map PD.vs) hs ∧ H al = some (.tup ls) ∧ TupsL H (p.lists.map LD.vs) ls ∧
  (∀ d ∈ p.handed, okPD d) ∧ (∀ d ∈ p.lists, okLD d) ∧ ∀ H', Same H H' → Q (.int (hof p k)) H'
abbrev s_is_program : Stmt := topS 34
abbrev N_is_program : List Str := ["thing", "names", "handed", "lists", "rows", "told", "one", "name"]
abbrev P_is_program : List Str := ["thing"]
theorem sc_is_program : FnScope N_is_program P_is_program (defScope s_is_program) := ⟨rfl, rfl, rfl, by decide +kernel, rfl, by decide +kernel, by decide +kernel⟩

def sp_is_program : Sp := fun vs H Q _ => ∃ (p : Prog) (v : V), vs = [v] ∧ ProgAt H p v ∧ okProg p ∧ ∀ H', Same H H' → Q (.bl true) H'
abbrev s_check_program : Stmt := topS 35
abbrev N_check_program : List Str := ["thing"]
abbrev P_check_program : List Str := ["thing"]
theorem sc_check_program : FnScope N_check_program P_check_program (defScope s_check_program) := ⟨rfl, rfl, rfl, by decide +kernel, rfl, by decide +kernel, by decide +kernel⟩

def sp_check_program : Sp := fun vs H Q _ => ∃ (p : Prog) (v : V), vs = [v] ∧ ProgAt H p v ∧ okProg p ∧ ∀ H', Same H H' → Q .non H'
theorem dk_none {ls : List Str} {z : Str} (h : z ∉ ls) : valV (ls.map fun x => ((Sum.inr x : Key), V.bl true)) (Sum.inr z) = none := by
  induction ls with
  | nil => rfl
  | cons y ls ih =>
    rw [List.map_cons, valV_neg (fun e => h (by rw [Sum.inr.inj e]; exact List.mem_cons_self))]
    exact ih fun m => h (List.mem_cons_of_mem _ m)
section
variable {P : Program} {w : World} {K : PySem.W.Frag} {mg : Str → Option Value} {base : Heap} {aS aD : Addr} {es : Array DictEntry} {n : Nat}
theorem ok_are_unlike (T : Tx mg) (D : DefAt K mg "are_unlike" s_are_unlike) : C8.Cal P w K mg base 1 "are_unlike" sp_are_unlike [] := by
  refine D.cal (k := 0) sc_are_unlike (fun _ _ _ _ _ _ us hl => match us, hl with | [_], _ => rfl) (fun vs H Q E h => ?_) (fun f cdv A outer s H vs Q E hr h => ⟨_, (pss_one (ps_ret (pe_cmpR op_eq (pe_callB call_lenD (by rfl) T.len_ PySem.boot_len (pa_cons (pe_dc (own := [("thing", 1)]) (g := (gName 1)) (tt := tYes) rfl sc_are_unlike.nd (pi_seq (pv 0)) (blkOk_by (own := [("thing", 1)]) (N := N_are_unlike) (sc := defScope s_are_unlike) (by decide +kernel)) (fun _ _ _ _ _ => (pg_name (i := 1) sc_are_unlike.nd rfl (Or.inl rfl))) (fun _ _ _ _ _ => pts_nil) (fun _ _ _ _ _ => (pv 1)) (fun _ _ _ _ _ => pe_bl)) pa_nil)) (pe_callB call_len_seq (by rfl) T.len_ PySem.boot_len (pa_cons (pv 0) pa_nil)) (nomark _)))), ?_⟩)
  · obtain ⟨p, ls, rfl, _⟩ := h
    rfl
  · obtain ⟨p, ls, rfl, hp, hn, hl, q⟩ := h
    have nw : ∀ i x, ls[i]? = some x → x ∉ ls.take i := fun i x e m => by
      obtain ⟨j, hj, e2⟩ := List.mem_iff_getElem.mp m
      rw [List.length_take] at hj
      rw [List.getElem_take] at e2
      obtain ⟨hi, e3⟩ := List.getElem?_eq_some_iff.mp e
      have := (List.getElem_inj hn).mp (e2.trans e3.symm)
      omega
    rcases hp with hp | hp
    · refine Or.inl ⟨_, rfl, _, rfl, ⟨_, SqL.of hp⟩, fun D nD => ?_⟩
      refine dc_it (walk_list (xs := ls.map .str)) (fun i H' => Same H H' ∧ H' D = some (.dK ((ls.take i).map fun x => (Sum.inr x, V.bl true)))) ⟨same_nw (Same.refl _) nD, upd_same⟩ (fun i H' _ z => SqL.of (z.1 _ _ hp)) ?_ ?_
      · rintro i x H2 H3 hi ⟨s2, d2⟩ ⟨rfl, e⟩
        rw [List.getElem?_map] at e
        cases e3 : ls[i]? with
        | none =>
          rw [e3] at e
          cases e
        | some z =>
          rw [e3] at e
          cases e
          obtain ⟨hi2, e4⟩ := List.getElem?_eq_some_iff.mp e3
          refine ⟨rfl, _, rfl, _, Sum.inr z, rfl, d2, sm_lt (by rw [List.length_map, List.length_take]; omega), same_mut s2 nD, ?_⟩
          rw [upd_same, putK_new _ (dk_none (nw i z e3)), List.take_succ_eq_append_getElem hi2, List.map_append, e4]
          rfl
      · rintro H2 ⟨s2, d2⟩
        rw [List.length_map] at d2
        refine ⟨_, _, rfl, d2, _, rfl, _, _, rfl, Or.inl (SqL.of (s2 _ _ hp)), rfl, ?_⟩
        refine fin_t (Q := Q) (decide_eq_true ?_) (q _ s2)
        rw [List.length_map, List.length_map, List.take_length]
    · refine Or.inr ⟨_, rfl, _, rfl, ⟨_, SqT.of hp⟩, fun D nD => ?_⟩
      refine dc_it (walk_tup (xs := ls.map .str)) (fun i H' => Same H H' ∧ H' D = some (.dK ((ls.take i).map fun x => (Sum.inr x, V.bl true)))) ⟨same_nw (Same.refl _) nD, upd_same⟩ (fun i H' _ z => SqT.of (z.1 _ _ hp)) ?_ ?_
      · rintro i x H2 H3 hi ⟨s2, d2⟩ ⟨rfl, e⟩
        rw [List.getElem?_map] at e
        cases e3 : ls[i]? with
        | none =>
          rw [e3] at e
          cases e
        | some z =>
          rw [e3] at e
          cases e
          obtain ⟨hi2, e4⟩ := List.getElem?_eq_some_iff.mp e3
          refine ⟨rfl, _, rfl, _, Sum.inr z, rfl, d2, sm_lt (by rw [List.length_map, List.length_take]; omega), same_mut s2 nD, ?_⟩
          rw [upd_same, putK_new _ (dk_none (nw i z e3)), List.take_succ_eq_append_getElem hi2, List.map_append, e4]
          rfl
      · rintro H2 ⟨s2, d2⟩
        rw [List.length_map] at d2
        refine ⟨_, _, rfl, d2, _, rfl, _, _, rfl, Or.inr (SqT.of (s2 _ _ hp)), rfl, ?_⟩
        refine fin_t (Q := Q) (decide_eq_true ?_) (q _ s2)
        rw [List.length_map, List.length_map, List.take_length]
theorem ok_handings_of (T : Tx mg) (D : DefAt K mg "handings_of" s_handings_of) : C8.Cal P w K mg base 1 "handings_of" sp_handings_of [] := by
  refine D.cal (k := 0) sc_handings_of (fun _ _ _ _ _ _ us hl => match us, hl with | [_, _, _], _ => rfl) (fun vs H Q E h => ?_) (fun f cdv A outer s H vs Q E hr h => ⟨_, (pss_cons (ps_set (i := 3) sc_handings_of.nd rfl (Or.inl rfl) pe_int)
    (pss_cons (ps_for PassesOwn.never rfl (pi_tup (pv 0)) (pg_tup rfl (pgs_cons (pg_name (i := 4) sc_handings_of.nd rfl (Or.inl rfl)) (pgs_cons (pg_name (i := 5) sc_handings_of.nd rfl (Or.inl rfl)) (pgs_cons (pg_name (i := 6) sc_handings_of.nd rfl (Or.inl rfl)) pgs_nil))))
    (pss_one (ps_set (i := 3) sc_handings_of.nd rfl (Or.inl rfl) (pe_op op_mul (pv 3) (pe_ifExp (pt_cmpR op_eq (pv 5) (pv 2) (nomark _)) (pv 6) pe_int)))))
    (pss_cons (ps_for PassesOwn.never rfl (pi_tup (pv 1)) (pg_tup rfl (pgs_cons (pg_name (i := 4) sc_handings_of.nd rfl (Or.inl rfl)) (pgs_cons (pg_name (i := 5) sc_handings_of.nd rfl (Or.inl rfl)) (pgs_cons (pg_name (i := 7) sc_handings_of.nd rfl (Or.inl rfl)) (pgs_cons (pg_name (i := 6) sc_handings_of.nd rfl (Or.inl rfl)) (pgs_cons (pg_name (i := 8) sc_handings_of.nd rfl (Or.inl rfl)) pgs_nil))))))
    (pss_one (ps_for PassesOwn.never rfl (pi_range1 (by rfl) T.range_ (pa_cons (pe_ifExp (pt_cmpR op_eq (pv 5) (pv 2) (nomark _)) (pv 7) pe_int) pa_nil)) (pg_name (i := 9) sc_handings_of.nd rfl (Or.inl rfl))
    (pss_one (ps_set (i := 3) sc_handings_of.nd rfl (Or.inl rfl) (pe_callB (call_min2 rfl) (by rfl) T.min_ (by decide +kernel) (pa_cons (pe_op op_mul (pv 3) (pv 6)) (pa_cons (pe_op op_add (C8.pe_gc (by rfl) T.g_MOST_HIDDEN) pe_int) pa_nil))))))))
    (pss_one (ps_ret (pv 3)))))), ?_⟩)
  · obtain ⟨p, ah, al, k, hs, ls, rfl, _⟩ := h
    rfl
  · obtain ⟨p, ah, al, k, hs, ls, rfl, h1, h2, h3, h4, h5, h6, q⟩ := h
    walk_at "go"
    refine ⟨⟨_, SqT.of h1⟩, ?_⟩
    refine for_it h2.walk (fun i σ H' => Same H H' ∧ ∃ o4 o5 o6 o7 o8 o9, σ = [some (.ref ah), some (.ref al), some (.str k), some (.int (hofP (p.handed.take i) k)), o4, o5, o6, o7, o8, o9]) ⟨Same.refl _, _, _, _, _, _, _, rfl⟩ (fun i σ H' _ z => SqT.of (z.1 _ _ h1)) ?_ ?_
    · rintro i x σ H2 H3 hi ⟨s2, o4, o5, o6, o7, o8, o9, rfl⟩ ⟨rfl, e⟩
      obtain ⟨d, pd, ed, rfl, hd⟩ := TupsL.at (h2.ts (same_ts s2)) e
      have hd : H3 pd = some (.tup [.str d.nm, .str d.so, .int d.sz]) := hd
      obtain ⟨_, _, b1, b2⟩ := h5 d (List.mem_of_getElem? ed)
      have step : ∀ m : Int, (if d.so = k then d.sz else 1) = m → hofP (p.handed.take (i + 1)) k = hofP (p.handed.take i) k * m := fun m em => by
        unfold hofP
        rw [foldl_take ed, em]
      walk_at "go"
      refine ite_b (fun c => ?_) (fun c => ?_)
      · have c2 : d.so = k := V.str.inj (of_decide_eq_true c)
        walk_at "go"
        exact ⟨_, _, _, _, _, _, by rw [step d.sz (if_pos c2)]; rfl⟩
      · have c2 : ¬ d.so = k := fun z => of_decide_eq_false c (congrArg V.str z)
        walk_at "go"
        exact ⟨_, _, _, _, _, _, by rw [step 1 (if_neg c2)]; rfl⟩
    · rintro σ H2 ⟨s2, o4, o5, o6, o7, o8, o9, rfl⟩
      rw [List.take_length]
      walk_at "go"
      refine ⟨⟨_, SqT.of (s2 _ _ h3)⟩, ?_⟩
      refine for_it h4.walk (fun i σ H' => Same H H' ∧ ∃ o4 o5 o6 o7 o8 o9, σ = [some (.ref ah), some (.ref al), some (.str k), some (.int (hofL (hofP p.handed k) (p.lists.take i) k)), o4, o5, o6, o7, o8, o9]) ⟨s2, _, _, _, _, _, _, rfl⟩ (fun i σ H' _ z => SqT.of (z.1 _ _ h3)) ?_ ?_
      · rintro i x σ H4 H3 hi ⟨s2, o4, o5, o6, o7, o8, o9, rfl⟩ ⟨rfl, e⟩
        obtain ⟨d, pd, ed, rfl, hd⟩ := TupsL.at (h4.ts (same_ts s2)) e
        have hd : H3 pd = some (.tup [.str d.nm, .str d.so, .int d.cells, .int d.wo, .int d.em]) := hd
        obtain ⟨_, _, b1, b2, b3, b4, _⟩ := h6 d (List.mem_of_getElem? ed)
        have main : ∀ (m : Nat), m ≤ 32 → (if d.so = k then d.cells.toNat else 0) = m → hofL (hofP p.handed k) (p.lists.take (i + 1)) k = hofC (hofL (hofP p.handed k) (p.lists.take i) k) d.wo m := fun m _ em => by
          unfold hofL
          rw [foldl_take ed, em]
        walk_at "go"
        refine ite_b (fun c => ?_) (fun c => ?_)
        · have c2 : d.so = k := V.str.inj (of_decide_eq_true c)
          have mm := main d.cells.toNat (by omega) (if_pos c2)
          walk_at "go"
          refine for_it walk_range (fun j σ H' => Same H H' ∧ ∃ o9, σ = [some (.ref ah), some (.ref al), some (.str k), some (.int (hofC (hofL (hofP p.handed k) (p.lists.take i) k) d.wo j)), some (.str d.nm), some (.str d.so), some (.int d.wo), some (.int d.cells), some (.int d.em), o9]) ⟨s2, _, rfl⟩ (fun _ _ _ _ _ => True.intro) ?_ ?_
          · rintro j x σ H6 H7 hj ⟨s6, o9, rfl⟩ ⟨rfl, rfl⟩
            walk_at "go"
            exact ⟨_, rfl⟩
          · rintro σ H6 ⟨s6, o9, rfl⟩
            rw [mm]
            exact ⟨s6, _, _, _, _, _, _, rfl⟩
        · have c2 : ¬ d.so = k := fun z => of_decide_eq_false c (congrArg V.str z)
          have mm := main 0 (by omega) (if_neg c2)
          walk_at "go"
          refine for_it walk_range (fun j σ H' => Same H H' ∧ ∃ o9, σ = [some (.ref ah), some (.ref al), some (.str k), some (.int (hofC (hofL (hofP p.handed k) (p.lists.take i) k) d.wo j)), some (.str d.nm), some (.str d.so), some (.int d.wo), some (.int d.cells), some (.int d.em), o9]) ⟨s2, _, rfl⟩ (fun _ _ _ _ _ => True.intro) ?_ ?_
          · rintro j x σ H6 H7 hj ⟨s6, o9, rfl⟩ ⟨rfl, rfl⟩
            exact absurd hj (Nat.not_lt_zero j)
          · rintro σ H6 ⟨s6, o9, rfl⟩
            rw [mm]
            exact ⟨s6, _, _, _, _, _, _, rfl⟩
      · rintro σ H5 ⟨s2, o4, o5, o6, o7, o8, o9, rfl⟩
        rw [List.take_length]
        walk_at "go"
        exact q H5 s2
theorem ok_is_program (T : Tx mg) (D : DefAt K mg "is_program" s_is_program) (c_is_handed : C8.Cal P w K mg base 2 "is_handed" sp_is_handed []) (c_is_list : C8.Cal P w K mg base 2 "is_list" sp_is_list []) (c_are_unlike : C8.Cal P w K mg base 1 "are_unlike" sp_are_unlike [])
    (c_are_rows : C8.Cal P w K mg base 13 "are_rows" (sp_are_rows 4) []) (c_many_rows : C8.Cal P w K mg base 6 "many_rows" (sp_many_rows 4) []) (c_is_name : C8.Cal P w K mg base 1 "is_name" sp_is_name []) (c_handings_of : C8.Cal P w K mg base 1 "handings_of" sp_handings_of []) : C8.Cal P w K mg base 14 "is_program" sp_is_program [] := by
  refine D.cal (k := 13) sc_is_program (fun _ _ _ _ _ _ us hl => match us, hl with | [_], _ => rfl) (fun vs H Q E h => ?_) (fun f cdv A outer s H vs Q E hr h => ⟨_, (pss_cons (ps_if (PW.pt (pw_or (pt_not (pt_val (pe_callB (call_isK .tuple) (by rfl) T.isinstance_ (by decide +kernel) (pa_cons (pv 0) (pa_cons (pe_bltn (v := .ty "tuple") (u := .type "tuple") (by rfl) T.tuple_ (by decide +kernel) rfl) pa_nil))))) (pw_or (pt_cmpR op_ne (pe_callB call_len_seq (by rfl) T.len_ PySem.boot_len (pa_cons (pv 0) pa_nil)) pe_int (nomark _)) (pw_or1 (pt_not (pt_val (pe_callB (cr_all rfl) (by rfl) T.all_ (by decide +kernel) (pa_cons (pe_lc (own := [("one", 6)]) (g := (gName 6)) (tt := tYes) rfl sc_is_program.nd (pi_tup (pv 0)) (blkOk_by (own := [("one", 6)]) (N := N_is_program) (sc := defScope s_is_program) (by decide +kernel)) (fun _ _ _ _ _ => (pg_name (i := 6) sc_is_program.nd rfl (Or.inl rfl))) (fun _ _ _ _ _ => pts_nil) (fun _ _ _ _ _ => (pe_callB (call_isK .tuple) (by rfl) T.isinstance_ (by decide +kernel) (pa_cons (pv 6) (pa_cons (pe_bltn (v := .ty "tuple") (u := .type "tuple") (by rfl) T.tuple_ (by decide +kernel) rfl) pa_nil))))) pa_nil)))))))) (pss_one (ps_ret pe_bl))
    pss_nil)
    (pss_cons (ps_asg (pv 0) (pg_tup rfl (pgs_cons (pg_name (i := 2) sc_is_program.nd rfl (Or.inl rfl)) (pgs_cons (pg_name (i := 3) sc_is_program.nd rfl (Or.inl rfl)) (pgs_cons (pg_name (i := 4) sc_is_program.nd rfl (Or.inl rfl)) (pgs_cons (pg_name (i := 5) sc_is_program.nd rfl (Or.inl rfl)) pgs_nil))))))
    (pss_cons (ps_if (PW.pt (pw_or (pt_cmpR op_gt (pe_callB call_len_seq (by rfl) T.len_ PySem.boot_len (pa_cons (pv 2) pa_nil)) (C8.pe_gc (by rfl) T.g_MOST_HANDED) (nomark _)) (pw_or (pt_cmpR op_gt (pe_callB call_len_seq (by rfl) T.len_ PySem.boot_len (pa_cons (pv 3) pa_nil)) (C8.pe_gc (by rfl) T.g_MOST_LISTS_programs) (nomark _)) (pw_or1 (pt_cmpR op_gt (pe_callB call_len_seq (by rfl) T.len_ PySem.boot_len (pa_cons (pv 5) pa_nil)) (C8.pe_gc (by rfl) T.g_MOST_TOLD) (nomark _)))))) (pss_one (ps_ret pe_bl))
    pss_nil)
    (pss_cons (ps_if (PW.pt (pw_or (pt_not (pt_val (pe_callB (cr_all rfl) (by rfl) T.all_ (by decide +kernel) (pa_cons (pe_lc (own := [("one", 6)]) (g := (gName 6)) (tt := tYes) rfl sc_is_program.nd (pi_tup (pv 2)) (blkOk_by (own := [("one", 6)]) (N := N_is_program) (sc := defScope s_is_program) (by decide +kernel)) (fun _ _ _ _ _ => (pg_name (i := 6) sc_is_program.nd rfl (Or.inl rfl))) (fun _ _ _ _ _ => pts_nil) (fun _ _ _ _ _ => (C8.pe_c c_is_handed hr (by omega) (by rfl) (pa_cons (pv 6) pa_nil)))) pa_nil)))) (pw_or1 (pt_not (pt_val (pe_callB (cr_all rfl) (by rfl) T.all_ (by decide +kernel) (pa_cons (pe_lc (own := [("one", 6)]) (g := (gName 6)) (tt := tYes) rfl sc_is_program.nd (pi_tup (pv 3)) (blkOk_by (own := [("one", 6)]) (N := N_is_program) (sc := defScope s_is_program) (by decide +kernel)) (fun _ _ _ _ _ => (pg_name (i := 6) sc_is_program.nd rfl (Or.inl rfl))) (fun _ _ _ _ _ => pts_nil) (fun _ _ _ _ _ => (C8.pe_c c_is_list hr (by omega) (by rfl) (pa_cons (pv 6) pa_nil)))) pa_nil))))))) (pss_one (ps_ret pe_bl))
    pss_nil)
    (pss_cons (ps_set (i := 1) sc_is_program.nd rfl (Or.inr rfl) (pe_lc (own := [("one", 6)]) (g := (gName 6)) (tt := tYes) rfl sc_is_program.nd (pi_tup (pv 3)) (blkOk_by (own := [("one", 6)]) (N := N_is_program) (sc := defScope s_is_program) (by decide +kernel)) (fun _ _ _ _ _ => (pg_name (i := 6) sc_is_program.nd rfl (Or.inl rfl))) (fun _ _ _ _ _ => pts_nil) (fun _ _ _ _ _ => (pe_ix (ix_tupK (K := K) rfl) (pv 6) pe_int (fun _ _ => rfl)))))
    (pss_cons (ps_if (PW.pt (pw_or (pt_not (pt_val (C8.pe_c c_are_unlike hr (by omega) (by rfl) (pa_cons (pe_op op_cat (pe_lc (own := [("one", 6)]) (g := (gName 6)) (tt := tYes) rfl sc_is_program.nd (pi_tup (pv 2)) (blkOk_by (own := [("one", 6)]) (N := N_is_program) (sc := defScope s_is_program) (by decide +kernel)) (fun _ _ _ _ _ => (pg_name (i := 6) sc_is_program.nd rfl (Or.inl rfl))) (fun _ _ _ _ _ => pts_nil) (fun _ _ _ _ _ => (pe_ix (ix_tupK (K := K) rfl) (pv 6) pe_int (fun _ _ => rfl)))) (pv 1)) pa_nil)))) (pw_or1 (pt_not (pt_val (C8.pe_c c_are_rows hr (by omega) (by rfl) (pa_cons (pv 4) (pa_cons (pv 1) (pa_cons pe_int pa_nil))))))))) (pss_one (ps_ret pe_bl))
    pss_nil)
    (pss_cons (ps_if (pt_cmpR op_gt (C8.pe_c c_many_rows hr (by omega) (by rfl) (pa_cons (pv 4) pa_nil)) (C8.pe_gc (by rfl) T.g_MOST_ROWS) (nomark _)) (pss_one (ps_ret pe_bl))
    pss_nil)
    (pss_cons (ps_if (PW.pt (pw_or (pt_not (pt_val (pe_callB (cr_all rfl) (by rfl) T.all_ (by decide +kernel) (pa_cons (pe_lc (own := [("name", 7)]) (g := (gName 7)) (tt := tYes) rfl sc_is_program.nd (pi_tup (pv 5)) (blkOk_by (own := [("name", 7)]) (N := N_is_program) (sc := defScope s_is_program) (by decide +kernel)) (fun _ _ _ _ _ => (pg_name (i := 7) sc_is_program.nd rfl (Or.inl rfl))) (fun _ _ _ _ _ => pts_nil) (fun _ _ _ _ _ => (pe_and (C8.pe_c c_is_name hr (by omega) (by rfl) (pa_cons (pv 7) pa_nil)) (pe_one (pe_cmpR (op_notIn_seqK (K := K) rfl) (pv 7) (pv 1) (by rfl)))))) pa_nil)))) (pw_or1 (pt_not (pt_val (C8.pe_c c_are_unlike hr (by omega) (by rfl) (pa_cons (pv 5) pa_nil))))))) (pss_one (ps_ret pe_bl))
    pss_nil)
    (pss_one (ps_ret (pe_and (pe_cmpR op_le (C8.pe_c c_handings_of hr (by omega) (by rfl) (pa_cons (pv 2) (pa_cons (pv 3) (pa_cons pe_str pa_nil)))) (C8.pe_gc (by rfl) T.g_MOST_OPEN) (nomark _)) (pe_one (pe_cmpR op_le (C8.pe_c c_handings_of hr (by omega) (by rfl) (pa_cons (pv 2) (pa_cons (pv 3) (pa_cons pe_str pa_nil)))) (C8.pe_gc (by rfl) T.g_MOST_HIDDEN) (nomark _)))))))))))))), ?_⟩)
  · obtain ⟨p, v, rfl, _⟩ := h
    rfl
  · obtain ⟨p, v, rfl, ⟨a, ah, al, ar, at_, hs, ls, rs, rfl, h0, h1, h2, h3, h4, h5, h6, h7⟩, ho, q⟩ := h
    have ro := ho
    walk_at "go"
    refine ⟨⟨_, SqT.of h0⟩, fun D nD => ?_⟩
    refine lc_true (walk_tup (a := a) (xs := [.ref ah, .ref al, .ref ar, .ref at_])) nD (Nat.le_of_ble_eq_true rfl) (fun _ s2 => SqT.of (s2 _ _ h0)) (fun i x H2 H3 Kf k hi s2 y => ?_) (fun H2 s2 e2 => ?_)
    · obtain ⟨rfl, e'⟩ := y
      refine ⟨rfl, _, rfl, ?_⟩
      match i, e' with
      | 0, e' =>
        cases e'
        exact ⟨_, _, rfl, TyN.tup (s2 _ _ h1), k _ (Same.refl _)⟩
      | 1, e' =>
        cases e'
        exact ⟨_, _, rfl, TyN.tup (s2 _ _ h3), k _ (Same.refl _)⟩
      | 2, e' =>
        cases e'
        exact ⟨_, _, rfl, TyN.tup (s2 _ _ h5), k _ (Same.refl _)⟩
      | 3, e' =>
        cases e'
        exact ⟨_, _, rfl, TyN.tup (s2 _ _ h7), k _ (Same.refl _)⟩
      | i + 4, e' => cases e'
    refine ⟨_, _, rfl, SqL.of e2, ?_⟩
    rw [all_rep]
    have g0 := s2 _ _ h0
    have g1 := s2 _ _ h1
    have g2 := h2.ts (same_ts s2)
    have g3 := s2 _ _ h3
    have g4 := h4.ts (same_ts s2)
    have g5 := s2 _ _ h5
    have g6 := h6.ts (same_ts s2)
    have g7 := s2 _ _ h7
    have l1 : hs.length ≤ 6 := by rw [← h2.len]; exact ho.nh
    have l2 : ls.length ≤ 4 := by rw [← h4.len]; exact ho.nl
    have l3 : (p.told.map V.str).length ≤ 6 := by rw [List.length_map]; exact ho.nt
    walk_at "go"
    refine ⟨⟨_, SqT.of g1⟩, fun D3 nD3 => ?_⟩
    refine lc_true g2.walk nD3 (by have := ho.nh; omega) (fun _ s3 => SqT.of (s3 _ _ g1)) (fun i x H4 H5 Kf k hi s3 y => ?_) (fun H4 s3 e3 => ?_)
    · obtain ⟨rfl, e'⟩ := y
      obtain ⟨d, pd, ed, rfl, hd⟩ := TupsL.at (g2.ts (same_ts s3)) e'
      obtain ⟨o1, o2, o3, o4⟩ := ho.ph d (List.mem_of_getElem? ed)
      exact ⟨rfl, _, rfl, pd, d, rfl, hd, o1, o2, o3, o4, fun H6 s6 => k H6 s6⟩
    refine ⟨_, _, rfl, SqL.of e3, ?_⟩
    rw [all_rep]
    have f1 := s3 _ _ g1
    have f2 := g2.ts (same_ts s3)
    have f3 := s3 _ _ g3
    have f4 := g4.ts (same_ts s3)
    have f5 := s3 _ _ g5
    have f6 := g6.ts (same_ts s3)
    have f7 := s3 _ _ g7
    walk_at "go"
    refine ⟨⟨_, SqT.of f3⟩, fun D5 nD5 => ?_⟩
    refine lc_true f4.walk nD5 (by have := ho.nl; omega) (fun _ s3 => SqT.of (s3 _ _ f3)) (fun i x H6 H7 Kf k hi s5 y => ?_) (fun H6 s5 e5 => ?_)
    · obtain ⟨rfl, e'⟩ := y
      obtain ⟨d, pd, ed, rfl, hd⟩ := TupsL.at (f4.ts (same_ts s5)) e'
      exact ⟨rfl, _, rfl, pd, d, rfl, hd, ho.pl d (List.mem_of_getElem? ed), fun H6 s6 => k H6 s6⟩
    refine ⟨_, _, rfl, SqL.of e5, ?_⟩
    rw [all_rep]
    have i1 := s5 _ _ f1
    have i2 := f2.ts (same_ts s5)
    have i3 := s5 _ _ f3
    have i4 := f4.ts (same_ts s5)
    have i5 := s5 _ _ f5
    have i6 := f6.ts (same_ts s5)
    have i7 := s5 _ _ f7
    walk_at "go"
    refine ⟨⟨_, SqT.of i3⟩, fun D6 nD6 => ?_⟩
    refine lc_rel i4.walk (fun _ d v => v = .str d.nm) (fun _ _ _ _ _ h => h) nD6 (by have := ho.nl; omega) (fun _ s3 => SqT.of (s3 _ _ i3)) (fun i x H8 H9 d Kf k ed s6 y => ?_) (fun H7 acc s6 e6 pr6 => ?_)
    · obtain ⟨rfl, e'⟩ := y
      obtain ⟨d', pd, ed', rfl, hd⟩ := TupsL.at (i4.ts (same_ts s6)) e'
      cases ed.symm.trans ed'
      have hd : H9 pd = some (.tup [.str d.nm, .str d.so, .int d.cells, .int d.wo, .int d.em]) := hd
      walk_at "go"
      exact k _ _ (Same.refl _) rfl
    have e6 : H7 D6 = some (.lst ((p.lists.map LD.nm).map V.str)) := by rw [e6, paired_map pr6, List.map_map]; rfl
    have j1 := s6 _ _ i1
    have j2 := i2.ts (same_ts s6)
    have j3 := s6 _ _ i3
    have j4 := i4.ts (same_ts s6)
    have j5 := s6 _ _ i5
    have j6 := i6.ts (same_ts s6)
    have j7 := s6 _ _ i7
    walk_at "go"
    refine ⟨⟨_, SqT.of j1⟩, fun D7 nD7 => ?_⟩
    refine lc_rel j2.walk (fun _ d v => v = .str d.nm) (fun _ _ _ _ _ h => h) nD7 (by have := ho.nh; omega) (fun _ s3 => SqT.of (s3 _ _ j1)) (fun i x H9 H10 d Kf k ed s7 y => ?_) (fun H8 acc7 s7 e7 pr7 => ?_)
    · obtain ⟨rfl, e'⟩ := y
      obtain ⟨d', pd, ed', rfl, hd⟩ := TupsL.at (j2.ts (same_ts s7)) e'
      cases ed.symm.trans ed'
      have hd : H10 pd = some (.tup [.str d.nm, .str d.so, .int d.sz]) := hd
      walk_at "go"
      exact k _ _ (Same.refl _) rfl
    have e7 : H8 D7 = some (.lst ((p.handed.map PD.nm).map V.str)) := by rw [e7, paired_map pr7, List.map_map]; rfl
    have e6 := s7 _ _ e6
    have ln : (p.handed.map PD.nm ++ p.lists.map LD.nm).length ≤ 100 := by
      rw [List.length_append, List.length_map, List.length_map]
      have := ho.nh
      have := ho.nl
      omega
    walk_at "go"
    refine ⟨_, _, _, _, rfl, rfl, e7, e6, sm_sz (by simp only [List.length_map]; have := ho.nh; have := ho.nl; omega), fun D8 nD8 => ?_⟩
    rw [← List.map_append]
    have j8 : (upd H8 D8 (.lst ((p.handed.map PD.nm ++ p.lists.map LD.nm).map V.str))) D8 = _ := upd_same
    refine ⟨_, _, rfl, Or.inl j8, ho.nd, ln, fun H9 s9 => ⟨_, rfl, ?_⟩⟩
    have t9 : Same H7 H9 := (same_nw s7 nD8).trans s9
    have k1 := t9 _ _ j1
    have k2 := j2.ts (same_ts t9)
    have k3 := t9 _ _ j3
    have k4 := j4.ts (same_ts t9)
    have k5 := t9 _ _ j5
    have k6 := j6.ts (same_ts t9)
    have k7 := t9 _ _ j7
    have k8 : H9 D6 = some (.lst ((p.lists.map LD.nm).map V.str)) := s9 _ _ (upd_get nD8 e6)
    walk_at "go"
    refine ⟨p.rows, _, _, _, _, _, rfl, by omega, k5, k6, ho.rw, ho.rl, ho.ls, k8, by omega, fun H10 s10 => ⟨_, rfl, ?_⟩⟩
    walk_at "go"
    refine ⟨p.rows, _, _, _, rfl, by omega, s10 _ _ k5, k6.ts (same_ts s10), ho.rw, ho.rl, fun H11 s11 => ?_⟩
    have bnd := Rows.cnt_le p.rows 3 ho.rw
    have bn2 : cb 3 * (p.rows.len : Int) ≤ cb 3 * ((5 : Nat) : Int) := cb_mul ho.rl
    have bn3 : cb 3 * ((5 : Nat) : Int) = 200 := by decide
    have s12 := s10.trans s11
    have m1 := s12 _ _ k1
    have m2 := k2.ts (same_ts s12)
    have m3 := s12 _ _ k3
    have m4 := k4.ts (same_ts s12)
    have m7 := s12 _ _ k7
    have m8 := s12 _ _ k8
    walk_at "go"
    refine ⟨⟨_, SqT.of m7⟩, fun D9 nD9 => ?_⟩
    refine lc_true (walk_tup (a := at_) (xs := p.told.map .str)) nD9 (by omega) (fun _ s3 => SqT.of (s3 _ _ m7)) (fun i x H12 H13 Kf k hi s13 y => ?_) (fun H12 s13 e13 => ?_)
    · obtain ⟨rfl, e'⟩ := y
      rw [List.getElem?_map] at e'
      cases e4 : p.told[i]? with
      | none =>
        rw [e4] at e'
        cases e'
      | some z =>
        rw [e4] at e'
        cases e'
        have oz := ho.tn z (List.mem_of_getElem? e4)
        refine ⟨rfl, _, rfl, z, rfl, okNm_of oz, fun H14 s14 => ⟨_, rfl, ?_⟩⟩
        have nin : (V.bl (!inV (.str z) ((p.lists.map LD.nm).map .str))) = V.bl true := by
          rw [inV_strs, decide_eq_false (okN_ls ho.ls oz)]
          rfl
        have m9 := (s13.trans s14) _ _ m8
        refine iteB rfl ?_
        refine ⟨_, rfl, _, rfl, ?_⟩
        refine ⟨_, _, rfl, Or.inl (SqL.of m9), rfl, flat_strs _, ?_⟩
        show Kf _ H14
        have nk := k H14 s14
        rw [← nin] at nk
        exact nk
    refine ⟨_, _, rfl, SqL.of e13, ?_⟩
    rw [all_rep]
    have s14 := s13
    have n1 := s14 _ _ m1
    have n2 := m2.ts (same_ts s14)
    have n3 := s14 _ _ m3
    have n4 := m4.ts (same_ts s14)
    have n7 := s14 _ _ m7
    walk_at "go"
    refine ⟨_, p.told, rfl, Or.inr n7, ho.td, by have := ho.nt; omega, fun H15 s15 => ⟨_, rfl, ?_⟩⟩
    walk_at "go"
    refine ⟨p, ah, al, _, hs, ls, rfl, s15 _ _ n1, n2.ts (same_ts s15), s15 _ _ n3, n4.ts (same_ts s15), ho.ph, ho.pl, fun H16 s16 => ?_⟩
    have h64 := ho.ho
    have h256 := ho.hh
    walk_at "go"
    have s16 := s15.trans s16
    refine ⟨p, ah, al, _, hs, ls, rfl, s16 _ _ n1, n2.ts (same_ts s16), s16 _ _ n3, n4.ts (same_ts s16), ho.ph, ho.pl, fun H17 s17 => ?_⟩
    walk_at "go"
    refine fin_t (Q := Q) (decide_eq_true ho.hh) (q _ ?_)
    exact s2.trans (s3.trans (s5.trans (s6.trans (t9.trans (s12.trans (s14.trans (s16.trans s17)))))))
theorem ok_check_program (T : Tx mg) (D : DefAt K mg "check_program" s_check_program) (c_is_program : C8.Cal P w K mg base 14 "is_program" sp_is_program []) : C8.Cal P w K mg base 15 "check_program" sp_check_program [] := by
  refine D.cal (k := 14) sc_check_program (fun _ _ _ _ _ _ us hl => match us, hl with | [_], _ => rfl) (fun vs H Q E h => ?_) (fun f cdv A outer s H vs Q E hr h => ⟨_, (pss_one (ps_if (pt_not (pt_val (C8.pe_c c_is_program hr (by omega) (by rfl) (pa_cons (pv 0) pa_nil)))) (pss_one ps_never)
    pss_nil)), ?_⟩)
  · obtain ⟨p, v, rfl, _⟩ := h
    rfl
  · obtain ⟨p, v, rfl, hp, ho, q⟩ := h
    walk_at "go"
    exact ⟨p, v, rfl, hp, ho, fun H1 s1 => by
      refine ⟨_, rfl, ?_⟩
      walk_at "go"
      exact q H1 s1⟩
end
end NW
/-! ## Walks: layouts -/
namespace NW
open PySem PySem.Spec PyProof.Rows L2
set_option pp.maxSteps 150
-- an object's place in a heap
local macro_rules | `(tactic| walk_at "hp") => `(tactic| (show _ = some _; first
  | assumption
  | exact upd_same
  | (refine' upd_get ?n ?h; (case n => assumption); (case h => walk_at "hp"))
  | (refine' same_get ?n ?h; (case n => assumption); (case h => walk_at "hp"))))
-- a heap that has grown
local macro_rules | `(tactic| walk_at "sm") => `(tactic| first
  | assumption
  | exact Same.refl _
  | (refine' same_nw ?n ?h; (case h => assumption); (case n => walk_at "sm"))
  | (refine' Same.trans ?n ?h; (case h => assumption); (case n => walk_at "sm")))
local macro_rules | `(tactic| walk_at "ty") => `(tactic| first
  | exact TyN.int _
  | exact TyN.str _
  | exact TyN.non
  | (refine' TyN.tup ?h; (case h => walk_at "hp"))
  | (refine' TyN.lst ?h; (case h => walk_at "hp")))
-- a test whose answer is known
local macro_rules | `(tactic| walk_at "if") => `(tactic| first
  | (refine iteB (by decide +kernel) ?_)
  | (refine iteN (by decide +kernel) ?_)
  | (refine iteB (by rfl) ?_)
  | (refine iteN (by rfl) ?_)
  | (refine iteB (decide_eq_true (by first | omega | assumption)) ?_)
  | (refine iteN (decide_eq_false (by first | omega | assumption)) ?_)
  | (refine iteB (by simp only [Bool.not_eq_true', Bool.not_eq_false', Bool.and_eq_true, Bool.and_eq_false_iff, Bool.or_eq_true, Bool.or_eq_false_iff, decide_eq_true_eq, decide_eq_false_iff_not]; omega) ?_)
  | (refine iteN (by simp only [Bool.not_eq_true', Bool.not_eq_false', Bool.and_eq_true, Bool.and_eq_false_iff, Bool.or_eq_true, Bool.or_eq_false_iff, decide_eq_true_eq, decide_eq_false_iff_not]; omega) ?_))
-- one step of a reading
local macro_rules | `(tactic| walk_at "s") => `(tactic| first
  | refine ⟨_, rfl, ?_⟩
  | refine ⟨_, _, rfl, rfl, ?_⟩
  | refine And.intro (show wipe _ _ = wipe _ _ by kernel_rfl) ?_
  | refine And.intro rfl ?_
  | (refine' ⟨_, _, _, _, rfl, rfl, SqT.of ?h, ?e, ?_⟩; (case h => walk_at "hp"); (case e => exact rfl))
  | (refine' ⟨_, _, rfl, ?t, ?_⟩; (case t => walk_at "ty"))
  | (refine' ⟨_, _, rfl, SqT.of ?h, ?e, ?_⟩; (case h => walk_at "hp"); (case e => exact rfl))
  | refine ⟨_, _, rfl, ?_⟩
  | (refine' ⟨_, _, _, rfl, rfl, ?h1, ?h2, ?_⟩; (case h1 => walk_at "hp"); (case h2 => walk_at "hp"))
  | (refine' ⟨_, _, _, _, rfl, rfl, SqL.of ?h, ?e, ?_⟩; (case h => walk_at "hp"); (case e => exact rfl))
  | (refine' ⟨_, _, rfl, Or.inr (SqT.of ?h), ?_⟩; (case h => walk_at "hp"))
  | (refine' ⟨_, _, rfl, Or.inr (SqT.of ?h), rfl, rfl, ?_⟩; (case h => walk_at "hp"))
  | (refine' ⟨_, _, rfl, Or.inl (SqL.of ?h), ?_⟩; (case h => walk_at "hp"))
  | refine And.intro (flat_strs _) ?_
  | (refine And.intro (sm_sz (Nat.le_of_ble_eq_true rfl)) ?_; intro p np)
  | walk_at "if"
  | (refine' And.intro ?a ?_; (case a => first | assumption | exact sm_sz (by omega) | omega | exact Or.inr ⟨by omega, by omega⟩ | exact Or.inl ⟨by omega, by omega⟩ | exact ⟨by omega, by omega⟩))
  | refine Or.inl ⟨_, _, _, rfl, ?_⟩
  | refine Or.inr ⟨_, _, _, rfl, ?_⟩
  | (intro Hn sn))
local macro_rules | `(tactic| walk_at "go") => `(tactic| repeat (walk_at "s"))

abbrev s_with_layout : Stmt := topS 74
abbrev N_with_layout : List Str := ["program", "order", "gaps", "lists", "at", "gap"]
abbrev P_with_layout : List Str := ["program", "order", "gaps"]
theorem sc_with_layout : FnScope N_with_layout P_with_layout (defScope s_with_layout) := ⟨rfl, rfl, rfl, by decide +kernel, rfl, by decide +kernel, by decide +kernel⟩

abbrev s_permutations_of : Stmt := topS 76
abbrev N_permutations_of : List Str := ["many", "found", "turn", "order", "at"]
abbrev P_permutations_of : List Str := ["many"]
theorem sc_permutations_of : FnScope N_permutations_of P_permutations_of (defScope s_permutations_of) := ⟨rfl, rfl, rfl, by decide +kernel, rfl, by decide +kernel, by decide +kernel⟩

abbrev s_gap_lists : Stmt := topS 77
abbrev N_gap_lists : List Str := ["many", "whole", "found", "turn", "some", "gap"]
abbrev P_gap_lists : List Str := ["many", "whole"]
theorem sc_gap_lists : FnScope N_gap_lists P_gap_lists (defScope s_gap_lists) := ⟨rfl, rfl, rfl, by decide +kernel, rfl, by decide +kernel, by decide +kernel⟩

def ldAt (ls : List LD) (i : Int) : LD := ls.getD i.toNat ⟨"", "", 0, 0, 0⟩
def layP (p : Prog) (o g : List Int) : Prog := { p with lists := (o.zip g).map fun x => { ldAt p.lists x.1 with em := x.2 } }
def sp_with_layout : Sp := fun vs H Q _ => ∃ (p : Prog) (v : V) (o g : List Int) (po pg : Addr), vs = [v, .ref po, .ref pg] ∧ ProgAt H p v ∧ H po = some (.lst (o.map .int)) ∧ (H pg = some (.lst (g.map .int)) ∨ H pg = some (.tup (g.map .int))) ∧ o.length = g.length ∧ o.length ≤ 4 ∧
  (∀ i ∈ o, 0 ≤ i ∧ i < (p.lists.length : Int)) ∧ ∀ H' v', Same H H' → ProgAt H' (layP p o g) v' → Q v' H'
/-- a list of lists of ints -/
def IntsL (H : Hp) (xss : List (List Int)) (vs : List V) : Prop := Paired (fun xs v => ∃ q, v = .ref q ∧ H q = some (.lst (xs.map .int))) xss vs
def IntsD (D : Addr) (H : Hp) (xss : List (List Int)) (vs : List V) : Prop := Paired (fun xs v => ∃ q, v = .ref q ∧ H q = some (.lst (xs.map .int)) ∧ q ≠ D) xss vs
def permsStep (n : Nat) (xss : List (List Int)) : List (List Int) := xss.flatMap fun xs => ((rng n).filter fun a => decide (a ∉ xs)).map fun a => xs ++ [a]
theorem permsStep_snoc {n : Nat} {xss : List (List Int)} {i : Nat} {xs : List Int} (e : xss[i]? = some xs) : permsStep n (xss.take (i + 1)) = permsStep n (xss.take i) ++ ((rng n).filter fun a => decide (a ∉ xs)).map fun a => xs ++ [a] := by
  obtain ⟨hi, ex⟩ := List.getElem?_eq_some_iff.mp e
  unfold permsStep
  rw [List.take_succ_eq_append_getElem hi, ex, List.flatMap_append]
  congr 1
  exact List.append_nil _
def permsM (n : Nat) : Nat → List (List Int)
  | 0 => [[]]
  | i + 1 => permsStep n (permsM n i)
def sp_gap_lists : Sp := fun vs H Q _ => ∃ (n : Nat) (wh : Int), vs = [.int n, .int wh] ∧ n ≤ 2 ∧ ∀ H' q ws, Same H H' → H' q = some (.lst ws) → IntsL H' ((prodL (List.replicate n (rng 4))).filter fun xs => decide (xs.sum = wh)) ws → Q (.ref q) H'
def gapsM (n wh : Nat) : List (List Int) := (prodL (List.replicate n (rng 4))).filter fun xs => decide (xs.sum = ((wh : Nat) : Int))
def sp_moved : Sp := fun vs H Q _ => ∃ (p : Prog) (v : V) (o g : List Int) (po pg : Addr), vs = [v, .ref po, .ref pg] ∧ ProgAt H p v ∧ okProg p ∧ p.lists.length ≤ 2 ∧ H po = some (.lst (o.map .int)) ∧ H pg = some (.tup (g.map .int)) ∧ o.length = p.lists.length ∧ g.length = p.lists.length ∧
  (o = [] ∨ o = [0] ∨ o = [0, 1] ∨ o = [1, 0]) ∧ (∀ i ∈ g, 0 ≤ i ∧ i ≤ 15) ∧ True ∧ ∀ H' v', Same H H' → ProgAt H' (layP p o g) v' → Q v' H'
/-- the layouts, as they are tried -/
def laysM (n : Nat) : List (List Int × List Int) := (List.range (3 * n + 1)).flatMap fun wh => (permsM n n).flatMap fun o => ((prodL (List.replicate n (rng 4))).filter fun xs => decide (xs.sum = ((wh : Nat) : Int))).map fun g => (o, g)
open Classical in
noncomputable def laidM (p : Prog) (m : Nat) : Option (List Int × List Int) := (laysM p.lists.length).find? fun x => decide (stillP (layP p x.1 x.2) m)
def sp_laid (cL : Addr) : Sp := fun vs H Q _ => ∃ (p : Prog) (v : V) (m : Nat), vs = [v, .int m] ∧ ProgAt H p v ∧ okProg p ∧ 1 ≤ m ∧ m ≤ 8 ∧ p.lists.length ≤ 2 ∧ (∀ x ∈ laysM p.lists.length, LearnOk (layP p x.1 x.2) m) ∧
  ((laidM p m = none → ∀ H', Same H H' → Q .non H') ∧ ∀ o g, laidM p m = some (o, g) → ∀ H' x, Same H H' → LaidAt cL H' x o g → Q (.ref x) H')
theorem perms_all {n i : Nat} (hn : n ≤ 2) (hi : i ≤ 2) : (permsM n i).length ≤ 2 ∧ ∀ xs ∈ permsM n i, xs.length ≤ 2 := by
  have hn' : n = 0 ∨ n = 1 ∨ n = 2 := by omega
  have hi' : i = 0 ∨ i = 1 ∨ i = 2 := by omega
  rcases hn' with rfl | rfl | rfl <;> rcases hi' with rfl | rfl | rfl <;> decide
theorem perms_len {n i : Nat} {xs : List Int} (hn : n ≤ 2) (hi : i ≤ 2) (m : xs ∈ permsM n i) : xs.length ≤ 2 := (perms_all hn hi).2 xs m
theorem step_len (n : Nat) (hn : n ≤ 2) : ∀ xss : List (List Int), (permsStep n xss).length ≤ 2 * xss.length
  | [] => Nat.le_refl _
  | xs :: xss => by
    have ih := step_len n hn xss
    have : ((rng (n : Int)).filter fun a => decide (a ∉ xs)).length ≤ 2 := Nat.le_trans (List.length_filter_le _ _) (by rw [rng_len]; omega)
    unfold permsStep at ih ⊢
    rw [List.flatMap_cons, List.length_append, List.length_map, List.length_cons]
    omega
theorem perms_small {n i j k : Nat} {xs : List Int} (hn : n ≤ 2) (hi : i ≤ 2) (e : (permsM n i)[j]? = some xs) : (permsStep n ((permsM n i).take j) ++ (((rng (n : Int)).take k).filter fun a => decide (a ∉ xs)).map fun a => xs ++ [a]).length ≤ 100 := by
  have h1 := step_len n hn ((permsM n i).take j)
  have h2 := (perms_all hn hi).1
  have h3 : (((rng (n : Int)).take k).filter fun a => decide (a ∉ xs)).length ≤ 2 := Nat.le_trans (List.length_filter_le _ _) (by rw [List.length_take, rng_len]; omega)
  rw [List.length_append, List.length_map]
  rw [List.length_take] at h1
  omega
def sp_permutations_of : Sp := fun vs H Q _ => ∃ n : Nat, vs = [.int n] ∧ n ≤ 2 ∧ ∀ H' q ws, Same H H' → H' q = some (.lst ws) → IntsL H' (permsM n n) ws → Q (.ref q) H'
section
variable {P : Program} {w : World} {K : PySem.W.Frag} {mg : Str → Option Value} {base : Heap} {cR cN cT cS cL : Addr}
theorem ok_with_layout (T : Tx mg) (D : DefAt K mg "with_layout" s_with_layout) : C8.Cal P w K mg base 1 "with_layout" sp_with_layout [] := by
  refine D.cal (k := 0) sc_with_layout (fun _ _ _ _ _ _ us hl => match us, hl with | [_, _, _], _ => rfl) (fun vs H Q E h => ?_) (fun f cdv A outer s H vs Q E hr h => ⟨_, (pss_cons (ps_set (i := 3) sc_with_layout.nd rfl (Or.inl rfl) (pe_callTy call_tuple_of (by rfl) T.tuple_ (by decide +kernel) (pa_cons (pe_lc (own := [("at", 4), ("gap", 5)]) (g := (gTup K 2 (gCons (gName 4) (gCons (gName 5) gNil)))) (tt := tYes) rfl sc_with_layout.nd (pi_zipLX (by rfl) T.zip_ (pa_cons (pv 1) (pa_cons (pv 2) pa_nil))) (blkOk_by (own := [("at", 4), ("gap", 5)]) (N := N_with_layout) (sc := defScope s_with_layout) (by decide +kernel)) (fun _ _ _ _ _ => (pg_tup rfl (pgs_cons (pg_name (i := 4) sc_with_layout.nd rfl (Or.inl rfl)) (pgs_cons (pg_name (i := 5) sc_with_layout.nd rfl (Or.inl rfl)) pgs_nil)))) (fun _ _ _ _ _ => pts_nil) (fun _ _ _ _ _ => (pe_op (op_catAK (K := K) rfl) (pe_slice (sl_tupAK (K := K) rfl) (pe_ix (ix_tupK (K := K) rfl) (pe_ix (ix_tupK (K := K) rfl) (pv 0) pe_int (fun _ _ => rfl)) (pv 4) (fun _ _ => rfl)) po_none (po_some pe_int)) (pe_tup (pa_cons (pv 5) pa_nil))))) pa_nil)))
    (pss_one (ps_ret (pe_op op_catA (pe_op op_catA (pe_slice sl_tupA (pv 0) po_none (po_some pe_int)) (pe_tup (pa_cons (pv 3) pa_nil))) (pe_slice sl_tupA (pv 0) (po_some pe_int) po_none))))), ?_⟩)
  · obtain ⟨p, v, o, g, po, pg, rfl, _⟩ := h
    rfl
  · obtain ⟨p, v, o, g, po, pg, rfl, ⟨a, ah, al, ar, at_, hs, ls, rs, rfl, h0, h1, h2, h3, h4, h5, h6, h7⟩, hpo, hpg, hl, h44, hr1, q⟩ := h
    have hx : SqB false K H po (o.map V.int) := SqL.of hpo
    have hlm : (o.map V.int).length = (g.map V.int).length := by rw [List.length_map, List.length_map, hl]
    have lz : (o.zip g).length = (o.map V.int).length := by rw [List.length_zip, List.length_map]; omega
    rcases hpg with hpg | hpg
    have hy : SqB false K H pg (g.map V.int) := SqL.of hpg
    refine Or.inl ⟨_, rfl, _, rfl, po, pg, _, _, rfl, hx, hy, fun D nD => ?_⟩
    have hpg' : ∀ H', Same H H' → SqB false K H' pg (g.map V.int) := fun H' s => SqL.of (s _ _ hpg)
    have wk : Walk (ItzB false false K po pg) (o.zip g).length (fun H => SqB false K H po (o.map V.int) ∧ SqB false K H pg (g.map V.int)) (YPair (fun i => (o.map V.int)[i]?) (fun i => (g.map V.int)[i]?)) := by
      rw [lz]
      exact walk_zipB hlm
    rotate_left 1
    have hy : SqB true K H pg (g.map V.int) := SqT.of hpg
    refine Or.inr ⟨_, rfl, _, rfl, po, pg, _, _, rfl, hx, hy, fun D nD => ?_⟩
    have hpg' : ∀ H', Same H H' → SqB true K H' pg (g.map V.int) := fun H' s => SqT.of (s _ _ hpg)
    have wk : Walk (ItzB false true K po pg) (o.zip g).length (fun H => SqB false K H po (o.map V.int) ∧ SqB true K H pg (g.map V.int)) (YPair (fun i => (o.map V.int)[i]?) (fun i => (g.map V.int)[i]?)) := by
      rw [lz]
      exact walk_zipB hlm
    all_goals
      refine lc_rel wk (fun H x v => ∃ q, v = .ref q ∧ H q = some (.tup (LD.vs { ldAt p.lists x.1 with em := x.2 }))) (fun _ _ _ _ t ⟨q, e, h⟩ => ⟨q, e, t _ _ h⟩) nD (by rw [lz, List.length_map]; omega) (fun H' s2 => ⟨SqL.of (s2 _ _ hpo), hpg' _ s2⟩) (fun i x H2 H3 y Kf k ey s2 yy => ?_) (fun H2 acc s2 e2 pr => ?_)
      · obtain ⟨T1, x1, y1, rfl, nT, rfl, ex1, ey1⟩ := yy
        obtain ⟨io, ig⟩ := y
        obtain ⟨eo, eg⟩ := List.getElem?_zip_eq_some.mp ey
        have ex1 : (o.map V.int)[i]? = some x1 := ex1
        have ey1 : (g.map V.int)[i]? = some y1 := ey1
        have k : ∀ v H4, Same H2 H4 → (∃ q, v = V.ref q ∧ H4 q = some (.tup [.str (ldAt p.lists io).nm, .str (ldAt p.lists io).so, .int (ldAt p.lists io).cells, .int (ldAt p.lists io).wo, .int ig])) → Kf v H4 := k
        rw [List.getElem?_map, eo] at ex1
        rw [List.getElem?_map, eg] at ey1
        cases ex1
        cases ey1
        obtain ⟨r0, r1⟩ := hr1 io (List.mem_of_getElem? eo)
        have s3 : Same H (upd H2 T1 (.tup [.int io, .int ig])) := same_nw s2 nT
        have s23 : Same H2 (upd H2 T1 (.tup [.int io, .int ig])) := same_nw (Same.refl _) nT
        have f0 := s3 _ _ h0
        have f3 := s3 _ _ h3
        have f4 := h4.ts (same_ts s3)
        have fT : (upd H2 T1 (.tup [.int io, .int ig])) T1 = some (.tup [.int io, .int ig]) := upd_same
        generalize upd H2 T1 (.tup [.int io, .int ig]) = H4 at s3 s23 f0 f3 f4 fT ⊢
        have li : io.toNat < p.lists.length := by omega
        obtain ⟨vd, evd, pd, rfl, hd⟩ := Paired.one f4 (show (p.lists.map LD.vs)[io.toNat]? = some (LD.vs (ldAt p.lists io)) by
          rw [List.getElem?_map, List.getElem?_eq_getElem li]
          unfold ldAt
          rw [List.getD_eq_getElem?_getD, List.getElem?_eq_getElem li]
          rfl)
        have ixl : atI ls io = some (.ref pd) := by
          rw [← Int.toNat_of_nonneg r0]
          exact atI_nat evd
        generalize ldAt p.lists io = d at hd k
        have hd : H4 pd = some (.tup [.str d.nm, .str d.so, .int d.cells, .int d.wo, .int d.em]) := hd
        walk_at "go"
        refine ⟨_, _, _, _, rfl, rfl, SqT.of f3, ixl, ?_⟩
        walk_at "go"
        refine ⟨_, _, rfl, SqT.of hd, (fun e => absurd e.2 (show ¬ HT.sIx 5 5 (some 4) = 5 by decide +kernel)), fun _ p6 n6 => ?_⟩
        walk_at "go"
        rename_i p8 n8
        refine catA_1 (z := .int ig) (upd_get n8 upd_same) upd_same (Nat.le_of_ble_eq_true rfl) fun p9 H9 s9 h9 => ?_
        exact k _ _ (((s23.trans (same_nw (Same.refl _) n6)).trans (same_nw (Same.refl _) n8)).trans s9) ⟨p9, rfl, h9⟩
      · have g0 := s2 _ _ h0
        have g1 := s2 _ _ h1
        walk_at "go"
        refine ⟨_, acc, rfl, .inl ⟨SqL.of e2, fun l nl => ?_⟩⟩
        have sl : Same H2 (upd H2 l (.tup acc)) := same_nw (Same.refl _) nl
        have pl := tupsL_of (f := fun x : Int × Int => LD.vs { ldAt p.lists x.1 with em := x.2 }) (Paired.mapP pr fun x v ⟨q, e, h⟩ => ⟨q, e, sl _ _ h⟩)
        have hl4 : (upd H2 l (.tup acc)) l = some (.tup acc) := upd_same
        have s5 := s2.trans sl
        generalize upd H2 l (.tup acc) = H5 at sl pl hl4 s5 ⊢
        have g0 := s5 _ _ h0
        walk_at "go"
        refine ⟨_, _, rfl, SqT.of g0, (fun e => absurd e.2 (show ¬ HT.sIx 4 4 (some 1) = 4 by decide +kernel)), fun _ p6 n6 => ?_⟩
        walk_at "go"
        rename_i p7 n7
        refine catA_1 (z := .ref l) (upd_get n7 upd_same) upd_same (Nat.le_of_ble_eq_true rfl) fun p8 H8 s8 h8 => ?_
        have s58 : Same H5 H8 := ((same_nw (Same.refl _) n6).trans (same_nw (Same.refl _) n7)).trans s8
        have g8 := s58 _ _ g0
        walk_at "go"
        refine ⟨_, _, rfl, SqT.of g8, (fun e => absurd e.1 (show ¬ HT.sIx 4 0 (some 2) = 0 by decide +kernel)), fun _ q6 m6 => ?_⟩
        refine ⟨p8, q6, _, _, rfl, rfl, SqT.of (upd_get m6 h8), SqT.of upd_same, sm_sz (Nat.le_of_ble_eq_true rfl), fun e => absurd e (List.cons_ne_nil _ _), fun _ e => absurd e (List.cons_ne_nil _ _), fun _ _ r nr => ?_⟩
        have sf := (s5.trans s58).trans ((same_nw (o := .tup [.ref ar, .ref at_]) (Same.refl _) m6).trans (same_nw (o := .tup [.ref ah, .ref l, .ref ar, .ref at_]) (Same.refl _) nr))
        have sf5 := s58.trans ((same_nw (o := .tup [.ref ar, .ref at_]) (Same.refl _) m6).trans (same_nw (o := .tup [.ref ah, .ref l, .ref ar, .ref at_]) (Same.refl _) nr))
        refine q _ _ sf ⟨r, ah, l, ar, at_, hs, acc, rs, rfl, upd_same, sf _ _ h1, h2.ts (same_ts sf), sf5 _ _ hl4, ?_, sf _ _ h5, h6.ts (same_ts sf), sf _ _ h7⟩
        show TupsL _ (((o.zip g).map fun x => { ldAt p.lists x.1 with em := x.2 }).map LD.vs) acc
        rw [List.map_map]
        exact TupsL.ts (same_ts sf5) pl
theorem ok_permutations_of (T : Tx mg) (D : DefAt K mg "permutations_of" s_permutations_of) : C8.Cal P w K mg base 1 "permutations_of" sp_permutations_of [] := by
  refine D.cal (k := 0) sc_permutations_of (fun _ _ _ _ _ _ us hl => match us, hl with | [_], _ => rfl) (fun vs H Q E h => ?_) (fun f cdv A outer s H vs Q E hr h => ⟨_, (pss_cons (ps_set (i := 1) sc_permutations_of.nd rfl (Or.inl rfl) (pe_lst (pa_cons (pe_lst pa_nil) pa_nil)))
    (pss_cons (ps_for PassesOwn.never rfl (pi_range1 (by rfl) T.range_ (pa_cons (pv 0) pa_nil)) (pg_name (i := 2) sc_permutations_of.nd rfl (Or.inl rfl))
    (pss_one (ps_setLc2 (own := [("order", 3), ("at", 4)]) (vs1 := [4]) (g := (gName 3)) (tt := tYes) (g1 := (gName 4)) (i := 1) rfl sc_permutations_of.nd rfl rfl (sw_true rfl rfl rfl (by decide +kernel)) (pi_list (pv 1)) (blkOk_by (own := [("order", 3), ("at", 4)]) (N := N_permutations_of) (sc := defScope s_permutations_of) (by decide +kernel)) (by decide) (fun _ _ _ _ _ => (pg_name (i := 3) sc_permutations_of.nd rfl (Or.inl rfl))) (fun _ _ _ _ _ => pts_nil) (fun _ _ _ _ _ => (pi_range1 (by rfl) T.range_ (pa_cons (pv 0) pa_nil))) (fun _ _ _ _ _ => (pg_name (i := 4) sc_permutations_of.nd rfl (Or.inl rfl))) (fun _ _ _ _ _ => (pts_one (pt_cmpR (op_notIn_seqK (K := K) rfl) (pv 4) (pv 3) (by rfl)))) (fun _ _ _ _ _ => (pe_op op_cat (pv 3) (pe_lst (pa_cons (pv 4) pa_nil)))))))
    (pss_one (ps_ret (pv 1))))), ?_⟩)
  · obtain ⟨n, rfl, _⟩ := h
    rfl
  · obtain ⟨n, rfl, hn, q⟩ := h
    walk_at "go"
    rename_i p1 n1 F0 nF0
    refine for_it walk_range (fun i σ H' => Same H H' ∧ ∃ F vs, H' F = some (.lst vs) ∧ IntsL H' (permsM n i) vs ∧ ∃ o2 o3 o4, σ = [some (.int n), some (.ref F), o2, o3, o4]) ⟨same_nw (same_nw (Same.refl _) n1) nF0, F0, _, upd_same, .cons ⟨p1, rfl, upd_get nF0 upd_same⟩ .nil, _, _, _, rfl⟩ (fun _ _ _ _ _ => True.intro) ?_ ?_
    · rintro i x σ H2 H3 hi ⟨s2, F, vs, hF, hvs, o2, o3, o4, rfl⟩ ⟨rfl, rfl⟩
      have lv : (permsM n i).length = vs.length := Paired.length hvs
      walk_at "go"
      refine ⟨⟨_, SqL.of hF⟩, fun D nD => ?_⟩
      have bl : (permsM n i).length ≤ 2 := by
        have : n = 0 ∨ n = 1 ∨ n = 2 := by omega
        have hi' : i = 0 ∨ i = 1 ∨ i = 2 := by omega
        rcases this with rfl | rfl | rfl <;> rcases hi' with rfl | rfl | rfl <;> decide
      have hvD : IntsD D H3 (permsM n i) vs := Paired.mapP hvs fun xs v ⟨q, e, h⟩ => ⟨q, e, h, ne_of_none h nD⟩
      refine lc2_out (walk_list (a := F) (xs := vs)) (fun j H' => Same H3 H' ∧ ∃ acc, H' D = some (.lst acc) ∧ IntsD D H' (permsStep n ((permsM n i).take j)) acc) ⟨same_nw (Same.refl _) nD, [], upd_same, .nil⟩ (fun j H' _ z => SqL.of (z.1 _ _ hF)) ?_ ?_
      · rintro j x H4 H5 hj ⟨s4, acc, hacc, hr⟩ ⟨rfl, e'⟩
        obtain ⟨xs, ex, px, rfl, hxs, nxD⟩ := Paired.at hvD e'
        walk_at "go"
        refine lc2_in walk_range (fun k H' => Same H3 H' ∧ ∃ acc, H' D = some (.lst acc) ∧ IntsD D H' (permsStep n ((permsM n i).take j) ++ (((rng n).take k).filter fun a => decide (a ∉ xs)).map fun a => xs ++ [a]) acc) ⟨s4, acc, hacc, by rw [List.take_zero, List.filter_nil, List.map_nil, List.append_nil]; exact hr⟩ (fun _ _ _ _ => True.intro) ?_ ?_
        · rintro k x H6 H7 hk ⟨s6, acc6, hacc6, hr6⟩ ⟨rfl, rfl⟩
          have hx7 := s6 _ _ hxs
          walk_at "go"
          refine ⟨flat_ints _, _, rfl, ?_⟩
          have zk : ((0 : Int) + (k : Int)) = (k : Int) := by omega
          have hk' : (rng (n : Int))[k]? = some (k : Int) := by
            unfold rng
            rw [List.getElem?_map, List.getElem?_range hk]
            rfl
          obtain ⟨hk2, ek⟩ := List.getElem?_eq_some_iff.mp hk'
          have tk : ((rng (n : Int)).take (k + 1)).filter (fun a => decide (a ∉ xs)) = ((rng (n : Int)).take k).filter (fun a => decide (a ∉ xs)) ++ (if (k : Int) ∈ xs then [] else [(k : Int)]) := by
            rw [List.take_succ_eq_append_getElem hk2, ek, List.filter_append]
            congr 1
            rw [List.filter_cons]
            by_cases c : (k : Int) ∈ xs
            · rw [if_pos c, if_neg (by rw [decide_eq_true_eq]; exact fun z => z c)]
              rfl
            · rw [if_neg c, if_pos (by rw [decide_eq_true_eq]; exact c)]
              rfl
          have la : acc6.length ≤ 100 := by
            rw [← Paired.length hr6]
            exact perms_small (by omega) (by omega) ex
          have lx : xs.length ≤ 2 := perms_len hn (by omega) (List.mem_of_getElem? ex)
          by_cases hm : (k : Int) ∈ xs
          · refine iteN (show (!inV (.int (0 + (k : Int))) (xs.map .int)) = false by rw [zk, inV_ints, decide_eq_true hm]; rfl) ?_
            refine ⟨s6, acc6, hacc6, ?_⟩
            rw [tk, if_pos hm, List.append_nil]
            exact hr6
          · refine iteB (show (!inV (.int (0 + (k : Int))) (xs.map .int)) = true by rw [zk, inV_ints, decide_eq_false hm]; rfl) ?_
            walk_at "go"
            rename_i p8 n8
            refine ⟨px, p8, _, _, rfl, rfl, upd_get n8 hx7, upd_same, sm_sz (by rw [List.length_map]; show xs.length + 1 ≤ 100000; omega), fun p9 n9 => ?_⟩
            have s79 : Same H7 (upd (upd H7 p8 (.lst [.int (0 + (k : Int))])) p9 (.lst (xs.map V.int ++ [.int (0 + (k : Int))]))) := same_nw (same_nw (Same.refl _) n8) n9
            have hacc9 := s79 _ _ hacc6
            have p9D : p9 ≠ D := Ne.symm (ne_of_none (upd_get (o := .lst [.int (0 + (k : Int))]) n8 hacc6) n9)
            have h9 : (upd (upd H7 p8 (.lst [.int (0 + (k : Int))])) p9 (.lst (xs.map V.int ++ [.int (0 + (k : Int))]))) p9 = some (.lst ((xs ++ [(k : Int)]).map V.int)) := by
              rw [upd_same, zk, List.map_append]
              rfl
            generalize upd (upd H7 p8 (.lst [.int (0 + (k : Int))])) p9 (.lst (xs.map V.int ++ [.int (0 + (k : Int))])) = H9 at s79 hacc9 h9 ⊢
            refine ⟨acc6, hacc9, sm_lt (by omega), same_mut (s6.trans s79) nD, _, upd_same, ?_⟩
            rw [tk, if_neg hm, List.map_append, ← List.append_assoc]
            refine paired_app (Paired.mapP hr6 fun xs v ⟨q, e, h, nq⟩ => ⟨q, e, upd_mut nq (s79 _ _ h), nq⟩) (.cons ⟨p9, rfl, upd_mut p9D h9, p9D⟩ .nil)
        · rintro H6 ⟨s6, acc6, hacc6, hr6⟩
          refine ⟨s6, acc6, hacc6, ?_⟩
          rw [permsStep_snoc ex]
          rw [show (rng n).take (n : Int).toNat = rng n from by rw [← rng_len (n : Int), List.take_length]] at hr6
          exact hr6
      · rintro H4 ⟨s4, acc, hacc, hr⟩
        rw [← lv, List.take_length] at hr
        exact ⟨s2.trans s4, D, acc, hacc, Paired.mapP hr fun xs v ⟨q, e, h, _⟩ => ⟨q, e, h⟩, _, _, _, rfl⟩
    · rintro σ H2 ⟨s2, F, vs, hF, hvs, o2, o3, o4, rfl⟩
      walk_at "go"
      exact q _ F vs s2 hF hvs
theorem ok_gap_lists (T : Tx mg) (D : DefAt K mg "gap_lists" s_gap_lists) : C8.Cal P w K mg base 1 "gap_lists" sp_gap_lists [] := by
  refine D.cal (k := 0) sc_gap_lists (fun _ _ _ _ _ _ us hl => match us, hl with | [_, _], _ => rfl) (fun vs H Q E h => ?_) (fun f cdv A outer s H vs Q E hr h => ⟨_, (pss_cons (ps_set (i := 2) sc_gap_lists.nd rfl (Or.inl rfl) (pe_lst (pa_cons (pe_lst pa_nil) pa_nil)))
    (pss_cons (ps_for PassesOwn.never rfl (pi_range1 (by rfl) T.range_ (pa_cons (pv 0) pa_nil)) (pg_name (i := 3) sc_gap_lists.nd rfl (Or.inl rfl))
    (pss_one (ps_setLc2 (own := [("some", 4), ("gap", 5)]) (vs1 := [5]) (g := (gName 4)) (tt := tYes) (g1 := (gName 5)) (tt1 := tYes) (i := 2) rfl sc_gap_lists.nd rfl rfl (sw_true rfl rfl rfl (by decide +kernel)) (pi_list (pv 2)) (blkOk_by (own := [("some", 4), ("gap", 5)]) (N := N_gap_lists) (sc := defScope s_gap_lists) (by decide +kernel)) (by decide) (fun _ _ _ _ _ => (pg_name (i := 4) sc_gap_lists.nd rfl (Or.inl rfl))) (fun _ _ _ _ _ => pts_nil) (fun _ _ _ _ _ => (pi_range1 (by rfl) T.range_ (pa_cons (pe_op op_add (C8.pe_gc (by rfl) T.g_MOST_TRIED) pe_int) pa_nil))) (fun _ _ _ _ _ => (pg_name (i := 5) sc_gap_lists.nd rfl (Or.inl rfl))) (fun _ _ _ _ _ => pts_nil) (fun _ _ _ _ _ => (pe_op op_cat (pv 4) (pe_lst (pa_cons (pv 5) pa_nil)))))))
    (pss_one (ps_ret (pe_lc (own := [("some", 4)]) (g := (gName 4)) rfl sc_gap_lists.nd (pi_list (pv 2)) (blkOk_by (own := [("some", 4)]) (N := N_gap_lists) (sc := defScope s_gap_lists) (by decide +kernel)) (fun _ _ _ _ _ => (pg_name (i := 4) sc_gap_lists.nd rfl (Or.inl rfl))) (fun _ _ _ _ _ => (pts_one (pt_cmpR op_eq (pe_callB (cr_sumK (K := K) rfl rfl) (by rfl) T.sum_ (by decide +kernel) (pa_cons (pv 4) pa_nil)) (pv 1) (nomark _)))) (fun _ _ _ _ _ => (pv 4))))))), ?_⟩)
  · obtain ⟨n, wh, rfl, _⟩ := h
    rfl
  · obtain ⟨n, wh, rfl, hn, q⟩ := h
    have bl : ∀ i, i ≤ 2 → (prodL (List.replicate i (rng 4))).length ≤ 16 := fun i hi => by
      rw [tups_len]
      exact Nat.pow_le_pow_right (by decide) hi
    have bx : ∀ i, i ≤ 2 → ∀ xs ∈ prodL (List.replicate i (rng 4)), xs.length ≤ 2 := fun i hi xs m => by
      rw [prodL_mem_len m, List.length_replicate]
      exact hi
    walk_at "go"
    rename_i p1 n1 F0 nF0
    refine for_it walk_range (fun i σ H' => Same H H' ∧ ∃ F vs, H' F = some (.lst vs) ∧ IntsL H' (prodL (List.replicate i (rng 4))) vs ∧ ∃ o3 o4 o5, σ = [some (.int n), some (.int wh), some (.ref F), o3, o4, o5]) ⟨same_nw (same_nw (Same.refl _) n1) nF0, F0, _, upd_same, .cons ⟨p1, rfl, upd_get nF0 upd_same⟩ .nil, _, _, _, rfl⟩ (fun _ _ _ _ _ => True.intro) ?_ ?_
    · rintro i x σ H2 H3 hi ⟨s2, F, vs, hF, hvs, o3, o4, o5, rfl⟩ ⟨rfl, rfl⟩
      have lv : (prodL (List.replicate i (rng 4))).length = vs.length := Paired.length hvs
      have bli := bl i (by omega)
      walk_at "go"
      refine ⟨⟨_, SqL.of hF⟩, fun D nD => ?_⟩
      have hvD : IntsD D H3 (prodL (List.replicate i (rng 4))) vs := Paired.mapP hvs fun xs v ⟨q, e, h⟩ => ⟨q, e, h, ne_of_none h nD⟩
      refine lc2_out (walk_list (a := F) (xs := vs)) (fun j H' => Same H3 H' ∧ ∃ acc, H' D = some (.lst acc) ∧ IntsD D H' (longer ((prodL (List.replicate i (rng 4))).take j) (rng 4)) acc) ⟨same_nw (Same.refl _) nD, [], upd_same, .nil⟩ (fun j H' _ z => SqL.of (z.1 _ _ hF)) ?_ ?_
      · rintro j x H4 H5 hj ⟨s4, acc, hacc, hr⟩ ⟨rfl, e'⟩
        obtain ⟨xs, ex, px, rfl, hxs, nxD⟩ := Paired.at hvD e'
        walk_at "go"
        refine lc2_in walk_range (fun k H' => Same H3 H' ∧ ∃ acc, H' D = some (.lst acc) ∧ IntsD D H' (longer ((prodL (List.replicate i (rng 4))).take j) (rng 4) ++ ((rng 4).take k).map fun a => xs ++ [a]) acc) ⟨s4, acc, hacc, by rw [List.take_zero, List.map_nil, List.append_nil]; exact hr⟩ (fun _ _ _ _ => True.intro) ?_ ?_
        · rintro k x H6 H7 hk ⟨s6, acc6, hacc6, hr6⟩ ⟨rfl, rfl⟩
          have hx7 := s6 _ _ hxs
          have zk : ((0 : Int) + (k : Int)) = (k : Int) := by omega
          have hk4 : k < (4 : Int).toNat := hk
          have hk' : (rng 4)[k]? = some (k : Int) := by
            unfold rng
            rw [List.getElem?_map, List.getElem?_range hk4]
            rfl
          obtain ⟨hk2, ek⟩ := List.getElem?_eq_some_iff.mp hk'
          have la : acc6.length ≤ 100 := by
            rw [← Paired.length hr6, List.length_append, List.length_map, longer_len, List.length_take, List.length_take, rng_len]
            have : min j (prodL (List.replicate i (rng 4))).length * (4 : Int).toNat ≤ 16 * 4 := Nat.mul_le_mul (by omega) (Nat.le_refl _)
            have : min k (4 : Int).toNat ≤ 4 := Nat.min_le_right _ _
            omega
          have lx := bx i (by omega) xs (List.mem_of_getElem? ex)
          walk_at "go"
          rename_i p8 n8
          refine ⟨px, p8, _, _, rfl, rfl, upd_get n8 hx7, upd_same, sm_sz (by rw [List.length_map]; show xs.length + 1 ≤ 100000; omega), fun p9 n9 => ?_⟩
          have s79 : Same H7 (upd (upd H7 p8 (.lst [.int (0 + (k : Int))])) p9 (.lst (xs.map V.int ++ [.int (0 + (k : Int))]))) := same_nw (same_nw (Same.refl _) n8) n9
          have hacc9 := s79 _ _ hacc6
          have p9D : p9 ≠ D := Ne.symm (ne_of_none (upd_get (o := .lst [.int (0 + (k : Int))]) n8 hacc6) n9)
          have h9 : (upd (upd H7 p8 (.lst [.int (0 + (k : Int))])) p9 (.lst (xs.map V.int ++ [.int (0 + (k : Int))]))) p9 = some (.lst ((xs ++ [(k : Int)]).map V.int)) := by
            rw [upd_same, zk, List.map_append]
            rfl
          generalize upd (upd H7 p8 (.lst [.int (0 + (k : Int))])) p9 (.lst (xs.map V.int ++ [.int (0 + (k : Int))])) = H9 at s79 hacc9 h9 ⊢
          refine ⟨acc6, hacc9, sm_lt (by omega), same_mut (s6.trans s79) nD, _, upd_same, ?_⟩
          rw [List.take_succ_eq_append_getElem hk2, ek, List.map_append, ← List.append_assoc]
          exact paired_app (Paired.mapP hr6 fun xs v ⟨q, e, h, nq⟩ => ⟨q, e, upd_mut nq (s79 _ _ h), nq⟩) (.cons ⟨p9, rfl, upd_mut p9D h9, p9D⟩ .nil)
        · rintro H6 ⟨s6, acc6, hacc6, hr6⟩
          refine ⟨s6, acc6, hacc6, ?_⟩
          rw [longer_snoc ex]
          exact hr6
      · rintro H4 ⟨s4, acc, hacc, hr⟩
        rw [← lv, List.take_length, ← tups_succ] at hr
        exact ⟨s2.trans s4, D, acc, hacc, Paired.mapP hr fun xs v ⟨q, e, h, _⟩ => ⟨q, e, h⟩, _, _, _, rfl⟩
    · rintro σ H2 ⟨s2, F, vs, hF, hvs, o3, o4, o5, rfl⟩
      have lv : (prodL (List.replicate n (rng 4))).length = vs.length := Paired.length hvs
      have hvs : IntsL H2 (prodL (List.replicate n (rng 4))) vs := hvs
      have bln := bl n hn
      walk_at "go"
      refine ⟨⟨_, SqL.of hF⟩, fun D nD => ?_⟩
      have hvD : IntsD D H2 (prodL (List.replicate n (rng 4))) vs := Paired.mapP hvs fun xs v ⟨q, e, h⟩ => ⟨q, e, h, ne_of_none h nD⟩
      refine lc_it (walk_list (a := F) (xs := vs)) (fun j H' => Same H2 H' ∧ ∃ acc, H' D = some (.lst acc) ∧ acc.length ≤ j ∧ IntsD D H' (((prodL (List.replicate n (rng 4))).take j).filter fun xs => decide (xs.sum = wh)) acc) ⟨same_nw (Same.refl _) nD, [], upd_same, Nat.le_refl _, .nil⟩ (fun j H' _ z => SqL.of (z.1 _ _ hF)) ?_ ?_
      · rintro j x H4 H5 hj ⟨s4, acc, hacc, hle, hr⟩ ⟨rfl, e'⟩
        obtain ⟨xs, ex, px, rfl, hxs, nxD⟩ := Paired.at hvD e'
        have hx5 := s4 _ _ hxs
        obtain ⟨hj2, ej⟩ := List.getElem?_eq_some_iff.mp ex
        have tk : ((prodL (List.replicate n (rng 4))).take (j + 1)).filter (fun xs => decide (xs.sum = wh)) = ((prodL (List.replicate n (rng 4))).take j).filter (fun xs => decide (xs.sum = wh)) ++ (if xs.sum = wh then [xs] else []) := by
          rw [List.take_succ_eq_append_getElem hj2, ej, List.filter_append]
          congr 1
          rw [List.filter_cons]
          by_cases c : xs.sum = wh
          · rw [if_pos c, if_pos (decide_eq_true c)]
            rfl
          · rw [if_neg c, if_neg (by rw [decide_eq_true_eq]; exact c)]
            rfl
        walk_at "go"
        refine ⟨px, xs, rfl, SqL.of hx5, ?_⟩
        walk_at "go"
        refine ite_b (fun c => ?_) (fun c => ?_)
        · have c : xs.sum = wh := V.int.inj (of_decide_eq_true c)
          refine ⟨_, rfl, acc, hacc, sm_lt (by omega), same_mut s4 nD, _, upd_same, by rw [List.length_append, List.length_singleton]; omega, ?_⟩
          rw [tk, if_pos c]
          exact paired_app (Paired.mapP hr fun xs v ⟨q, e, h, nq⟩ => ⟨q, e, upd_mut nq h, nq⟩) (.cons ⟨px, rfl, upd_mut nxD hx5, nxD⟩ .nil)
        · have c : ¬ xs.sum = wh := fun z => of_decide_eq_false c (congrArg V.int z)
          refine ⟨s4, acc, hacc, by omega, ?_⟩
          rw [tk, if_neg c, List.append_nil]
          exact hr
      · rintro H4 ⟨s4, acc, hacc, hle, hr⟩
        rw [← lv, List.take_length] at hr
        exact q _ D acc (s2.trans s4) hacc (Paired.mapP hr fun xs v ⟨q, e, h, _⟩ => ⟨q, e, h⟩)
end
end NW
/-! ## Walks: the first layout -/
namespace NW
open PySem PySem.Spec PyProof.Rows L2
set_option pp.maxSteps 150
-- an object's place in a heap
local macro_rules | `(tactic| walk_at "hp") => `(tactic| (show _ = some _; first
  | assumption
  | exact upd_same
  | (refine' upd_get ?n ?h; (case n => assumption); (case h => walk_at "hp"))
  | (refine' same_get ?n ?h; (case n => assumption); (case h => walk_at "hp"))))
-- a heap that has grown
local macro_rules | `(tactic| walk_at "sm") => `(tactic| first
  | assumption
  | exact Same.refl _
  | (refine' same_nw ?n ?h; (case h => assumption); (case n => walk_at "sm"))
  | (refine' Same.trans ?n ?h; (case h => assumption); (case n => walk_at "sm")))
local macro_rules | `(tactic| walk_at "ty") => `(tactic| first
  | exact TyN.int _
  | exact TyN.str _
  | exact TyN.non
  | (refine' TyN.tup ?h; (case h => walk_at "hp"))
  | (refine' TyN.lst ?h; (case h => walk_at "hp")))
-- a test whose answer is known
local macro_rules | `(tactic| walk_at "if") => `(tactic| first
  | (refine iteB (by decide +kernel) ?_)
  | (refine iteN (by decide +kernel) ?_)
  | (refine iteB (by rfl) ?_)
  | (refine iteN (by rfl) ?_)
  | (refine iteB (decide_eq_true (by first | omega | assumption)) ?_)
  | (refine iteN (decide_eq_false (by first | omega | assumption)) ?_)
  | (refine iteB (by simp only [Bool.not_eq_true', Bool.not_eq_false', Bool.and_eq_true, Bool.and_eq_false_iff, Bool.or_eq_true, Bool.or_eq_false_iff, decide_eq_true_eq, decide_eq_false_iff_not]; omega) ?_)
  | (refine iteN (by simp only [Bool.not_eq_true', Bool.not_eq_false', Bool.and_eq_true, Bool.and_eq_false_iff, Bool.or_eq_true, Bool.or_eq_false_iff, decide_eq_true_eq, decide_eq_false_iff_not]; omega) ?_))
-- one step of a reading
local macro_rules | `(tactic| walk_at "s") => `(tactic| first
  | refine ⟨_, rfl, ?_⟩
  | refine ⟨_, _, rfl, rfl, ?_⟩
  | refine And.intro (show wipe _ _ = wipe _ _ by kernel_rfl) ?_
  | refine And.intro rfl ?_
  | (refine' ⟨_, _, _, _, rfl, rfl, SqT.of ?h, ?e, ?_⟩; (case h => walk_at "hp"); (case e => exact rfl))
  | (refine' ⟨_, _, rfl, ?t, ?_⟩; (case t => walk_at "ty"))
  | (refine' ⟨_, _, rfl, SqT.of ?h, ?e, ?_⟩; (case h => walk_at "hp"); (case e => exact rfl))
  | refine ⟨_, _, rfl, ?_⟩
  | (refine' ⟨_, _, _, rfl, rfl, ?h1, ?h2, ?_⟩; (case h1 => walk_at "hp"); (case h2 => walk_at "hp"))
  | (refine' ⟨_, _, _, _, rfl, rfl, SqL.of ?h, ?e, ?_⟩; (case h => walk_at "hp"); (case e => exact rfl))
  | (refine' ⟨_, _, rfl, Or.inr (SqT.of ?h), ?_⟩; (case h => walk_at "hp"))
  | (refine' ⟨_, _, rfl, Or.inr (SqT.of ?h), rfl, rfl, ?_⟩; (case h => walk_at "hp"))
  | (refine' ⟨_, _, rfl, Or.inl (SqL.of ?h), ?_⟩; (case h => walk_at "hp"))
  | refine And.intro (flat_strs _) ?_
  | (refine And.intro (sm_sz (Nat.le_of_ble_eq_true rfl)) ?_; intro p np)
  | walk_at "if"
  | (refine' And.intro ?a ?_; (case a => first | assumption | exact sm_sz (by omega) | omega | exact Or.inr ⟨by omega, by omega⟩ | exact Or.inl ⟨by omega, by omega⟩ | exact ⟨by omega, by omega⟩))
  | refine Or.inl ⟨_, _, _, rfl, ?_⟩
  | refine Or.inr ⟨_, _, _, rfl, ?_⟩
  | (intro Hn sn))
local macro_rules | `(tactic| walk_at "go") => `(tactic| repeat (walk_at "s"))

abbrev s_laid : Stmt := topS 78
abbrev N_laid : List Str := ["program", "lines", "many", "whole", "order", "gaps"]
abbrev P_laid : List Str := ["program", "lines"]
theorem sc_laid : FnScope N_laid P_laid (defScope s_laid) := ⟨rfl, rfl, rfl, by decide +kernel, rfl, by decide +kernel, by decide +kernel⟩

theorem perms_good {n : Nat} (h : n ≤ 2) : ∀ o ∈ permsM n n, o.length = n ∧ ∀ z ∈ o, 0 ≤ z ∧ z < (n : Int) := by
  have : n = 0 ∨ n = 1 ∨ n = 2 := by omega
  rcases this with rfl | rfl | rfl <;> decide
theorem find_at {α : Type} {pr : α → Bool} {xs : List α} {k : Nat} {x : α} (e : xs[k]? = some x) (h : ∀ y ∈ xs.take k, pr y = false) (hx : pr x = true) : xs.find? pr = some x := by
  obtain ⟨hk, ex⟩ := List.getElem?_eq_some_iff.mp e
  have d : xs = xs.take k ++ x :: xs.drop (k + 1) := by
    rw [← ex, ← List.drop_eq_getElem_cons hk, List.take_append_drop]
  rw [d, List.find?_append, List.find?_eq_none.mpr (fun y m => by rw [h y m]; exact Bool.false_ne_true), List.find?_cons, hx]
  rfl
theorem find_flat {α β : Type} {f : α → List β} {pr : β → Bool} {xs : List α} {i : Nat} {x : α} {r : β} (e : xs[i]? = some x) (h : ∀ y ∈ xs.take i, (f y).find? pr = none) (hx : (f x).find? pr = some r) : (xs.flatMap f).find? pr = some r := by
  obtain ⟨hk, ex⟩ := List.getElem?_eq_some_iff.mp e
  have d : xs = xs.take i ++ x :: xs.drop (i + 1) := by
    rw [← ex, ← List.drop_eq_getElem_cons hk, List.take_append_drop]
  have n : ((xs.take i).flatMap f).find? pr = none := by
    rw [List.find?_eq_none]
    intro y m
    obtain ⟨z, mz, my⟩ := List.mem_flatMap.mp m
    exact List.find?_eq_none.mp (h z mz) y my
  rw [d, List.flatMap_append, List.flatMap_cons, List.find?_append, n, List.find?_append, hx]
  rfl
section
variable {P : Program} {w : World} {K : PySem.W.Frag} {mg : Str → Option Value} {base : Heap} {cR cN cT cS cL : Addr}
theorem ok_laid (T : Tx mg) (D : DefAt K mg "laid" s_laid) (k_Still : mg "Still" = some (.ref cS)) (m_Still : Mk0 K cS) (c_check_program : C8.Cal P w K mg base 15 "check_program" sp_check_program []) (c_check_many : C8.Cal P w K mg base 2 "check_many" sp_check_many []) (c_permutations_of : C8.Cal P w K mg base 1 "permutations_of" sp_permutations_of []) (c_gap_lists : C8.Cal P w K mg base 1 "gap_lists" sp_gap_lists [])
    (c_learnt_of : C8.Cal P w K mg base 13 "learnt_of" (sp_learnt_of cT cS) []) (c_with_layout : C8.Cal P w K mg base 1 "with_layout" sp_with_layout []) (c_Laid : C8.Mak P w K mg base 1 "Laid" cL (sp_laidI cL) [])
    (c_Still_eq : C8.Met P w K mg base 1 cS "__eq__" (sp_seq cS) []) (c_Tells_eq : C8.Met P w K mg base 1 cT "__eq__" (sp_teq cT cS) []) (nf_SS : PySem.W.notFirst K cS (.ref cS) = true) (nf_TS : PySem.W.notFirst K cT (.ref cS) = true) : C8.Cal P w K mg base 16 "laid" (sp_laid cL) [] := by
  refine D.cal (k := 15) sc_laid (fun _ _ _ _ _ _ us hl => match us, hl with | [_, _], _ => rfl) (fun vs H Q E h => ?_) (fun f cdv A outer s H vs Q E hr h => ⟨_, (pss_cons (ps_expr (C8.pe_c c_check_program hr (by omega) (by rfl) (pa_cons (pv 0) pa_nil)))
    (pss_cons (ps_expr (C8.pe_c c_check_many hr (by omega) (by rfl) (pa_cons pe_str (pa_cons (pv 1) pa_nil))))
    (pss_cons (ps_set (i := 2) sc_laid.nd rfl (Or.inl rfl) (pe_callB call_len_seq (by rfl) T.len_ PySem.boot_len (pa_cons (pe_ix ix_tup (pv 0) pe_int (fun _ _ => rfl)) pa_nil)))
    (pss_cons (ps_if (pt_cmpR op_gt (pv 2) (C8.pe_gc (by rfl) T.g_MOST_LISTS_lines) (nomark _)) (pss_one ps_never)
    pss_nil)
    (pss_cons (ps_for PassesOwn.never rfl (pi_range1 (by rfl) T.range_ (pa_cons (pe_op op_add (pe_op op_mul (C8.pe_gc (by rfl) T.g_MOST_TRIED) (pv 2)) pe_int) pa_nil)) (pg_name (i := 3) sc_laid.nd rfl (Or.inl rfl))
    (pss_one (ps_for PassesOwn.never rfl (pi_list (C8.pe_c c_permutations_of hr (by omega) (by rfl) (pa_cons (pv 2) pa_nil))) (pg_name (i := 4) sc_laid.nd rfl (Or.inl rfl))
    (pss_one (ps_for PassesOwn.never rfl (pi_list (C8.pe_c c_gap_lists hr (by omega) (by rfl) (pa_cons (pv 2) (pa_cons (pv 3) pa_nil)))) (pg_name (i := 5) sc_laid.nd rfl (Or.inl rfl))
    (pss_one (ps_if (pt_cmpR (OpR.or (op_eqI c_Still_eq nf_SS hr (by omega)) (op_eqI c_Tells_eq nf_TS hr (by omega))) (C8.pe_c c_learnt_of hr (by omega) (by rfl) (pa_cons (C8.pe_c c_with_layout hr (by omega) (by rfl) (pa_cons (pv 0) (pa_cons (pv 4) (pa_cons (pv 5) pa_nil)))) (pa_cons pe_str (pa_cons (pv 1) pa_nil)))) (pe_mk0 m_Still (by rfl) k_Still) (nomark _)) (pss_one (ps_ret (C8.pe_mk c_Laid hr (by omega) (by rfl) (pa_cons (pv 4) (pa_cons (pv 5) pa_nil)))))
    pss_nil)))))))
    (pss_one (ps_ret pe_non))))))), ?_⟩)
  · obtain ⟨p, v, m, rfl, _⟩ := h
    rfl
  · obtain ⟨p, v, m, rfl, hp, hk, h1, h2, hl, hLk, q1, q2⟩ := h
    walk_at "go"
    refine ⟨p, v, rfl, hp, hk, fun H1 s1 => ?_⟩
    have hp1 := hp.ts (same_ts s1)
    obtain ⟨a, ah, al, ar, at_, hs, ls, rs, rfl, g0, g1, g2, g3, g4, g5, g6, g7⟩ := id hp1
    have lls : ls.length = p.lists.length := (TupsL.len g4).symm
    walk_at "go"
    have n2 : ls.length ≤ 2 := by omega
    have rg : ((3 * (ls.length : Int) + 1)).toNat = 3 * ls.length + 1 := by omega
    refine for_it walk_range (fun i σ H' => Same H1 H' ∧ (∀ wh, wh < i → ∀ o ∈ permsM ls.length ls.length, ∀ g ∈ gapsM ls.length wh, ¬ stillP (layP p o g) m) ∧ ∃ o3 o4 o5, σ = [some (.ref a), some (.int m), some (.int ls.length), o3, o4, o5]) ⟨Same.refl _, fun _ h => absurd h (Nat.not_lt_zero _), _, _, _, rfl⟩ (fun _ _ _ _ _ => True.intro) ?_ ?_
    · rintro i x σ H2 H3 hi ⟨s2, hok, o3, o4, o5, rfl⟩ ⟨rfl, rfl⟩
      have zi : ((0 : Int) + (i : Int)) = (i : Int) := by omega
      refine ⟨_, rfl, ls.length, rfl, n2, fun H4 qo vo s4 hqo hvo => ?_⟩
      refine ⟨_, rfl, ⟨_, SqL.of hqo⟩, ?_⟩
      have lo : (permsM ls.length ls.length).length = vo.length := Paired.length hvo
      have wko : Walk (Itl K qo) (permsM ls.length ls.length).length (fun H => SqL K H qo vo) (YAt vo) := by
        rw [lo]
        exact walk_list
      refine for_it wko (fun j σ H' => Same H4 H' ∧ (∀ o ∈ (permsM ls.length ls.length).take j, ∀ g ∈ gapsM ls.length i, ¬ stillP (layP p o g) m) ∧ ∃ o4 o5, σ = [some (.ref a), some (.int m), some (.int ls.length), some (.int (0 + (i : Int))), o4, o5]) ⟨Same.refl _, (fun o h => by rw [List.take_zero] at h; cases h), _, _, rfl⟩ (fun j σ H' _ z => SqL.of (z.1 _ _ hqo)) ?_ ?_
      · rintro j x σ H5 H6 hj ⟨s5, hok2, o4, o5, rfl⟩ ⟨rfl, e'⟩
        obtain ⟨o, eo, po, rfl, hpo⟩ := Paired.at hvo e'
        have hpo6 := s5 _ _ hpo
        refine ⟨_, rfl, _, rfl, ls.length, 0 + (i : Int), rfl, n2, fun H7 qg vg s7 hqg hvg => ?_⟩
        refine ⟨_, rfl, ⟨_, SqL.of hqg⟩, ?_⟩
        rw [zi] at hvg
        have hvg : IntsL H7 (gapsM ls.length i) vg := hvg
        have lg : (gapsM ls.length i).length = vg.length := Paired.length hvg
        have wkg : Walk (Itl K qg) (gapsM ls.length i).length (fun H => SqL K H qg vg) (YAt vg) := by
          rw [lg]
          exact walk_list
        refine for_it wkg (fun k σ H' => Same H7 H' ∧ (∀ g ∈ (gapsM ls.length i).take k, ¬ stillP (layP p o g) m) ∧ ∃ o5, σ = [some (.ref a), some (.int m), some (.int ls.length), some (.int (0 + (i : Int))), some (.ref po), o5]) ⟨Same.refl _, (fun o h => by rw [List.take_zero] at h; cases h), _, rfl⟩ (fun j σ H' _ z => SqL.of (z.1 _ _ hqg)) ?_ ?_
        · rintro k x σ H8 H9 hk' ⟨s8, hok3, o5, rfl⟩ ⟨rfl, e''⟩
          obtain ⟨g, eg, pg, rfl, hpg⟩ := Paired.at hvg e''
          have hpg9 := s8 _ _ hpg
          have hpo9 := s8 _ _ (s7 _ _ hpo6)
          have s19 : Same H1 H9 := s2.trans (s4.trans (s5.trans (s7.trans s8)))
          have mo := List.mem_of_getElem? eo
          have mgg := List.mem_of_getElem? eg
          have lno : o.length = ls.length := (perms_good n2 o mo).1
          have lng : g.length = ls.length := by
            have := prodL_mem_len (List.mem_filter.mp mgg).1
            rw [List.length_replicate] at this
            exact this
          have mlay : (o, g) ∈ laysM p.lists.length := by
            rw [← lls]
            refine List.mem_flatMap.mpr ⟨i, List.mem_range.mpr (by omega), List.mem_flatMap.mpr ⟨o, mo, List.mem_map.mpr ⟨g, mgg, rfl⟩⟩⟩
          walk_at "go"
          refine ⟨p, _, o, g, po, pg, rfl, hp1.ts (same_ts s19), hpo9, Or.inl hpg9, by omega, by omega, fun z mz => ?_, fun HA vA sA hA => ?_⟩
          · have := (perms_good n2 o mo).2 z mz
            omega
          walk_at "go"
          refine ⟨layP p o g, vA, m, rfl, hA, hLk (o, g) mlay, fun st HB y dx fs sB hy => ?_, fun nst HB y dx fs sB hy => ?_⟩
          · refine fun z dz n1 n3 ne => Or.inl ?_
            have hy' := upd_mut (o := .ins cS dz []) (ne_of_none hy n1) (upd_get (o := .own z) n3 hy)
            refine ⟨y, dx, fs, z, dz, [], rfl, rfl, hy', upd_same, ?_⟩
            refine ⟨y, dx, z, dz, fs, [], rfl, hy', upd_same, ?_⟩
            refine ⟨_, rfl, iteB rfl ?_⟩
            have sC : Same H9 (upd (upd HB dz (.own z)) z (.ins cS dz [])) := fun b u e => by
              have eB := sB _ _ (sA _ _ e)
              exact upd_mut (ne_of_none eB n1) (upd_get n3 eB)
            have hpoC := sC _ _ hpo9
            have hpgC := sC _ _ hpg9
            have sH : Same H (upd (upd HB dz (.own z)) z (.ins cS dz [])) := s1.trans (s19.trans sC)
            generalize upd (upd HB dz (.own z)) z (.ins cS dz []) = HC at sC hpoC hpgC sH ⊢
            refine ⟨_, rfl, _, rfl, fun xL dL m1 m2 neL => ?_⟩
            have kL : ∀ {b : Addr} {u : HO}, HC b = some u → (upd (upd HC dL (.own xL)) xL (.ins cL dL [])) b = some u := fun e => upd_mut (ne_of_none e m1) (upd_get m2 e)
            refine ⟨xL, dL, po, pg, _, _, rfl, upd_same, kL hpoC, kL hpgC, fun H' p1 p2 kp hx hp1' hp2' => ⟨rfl, ?_⟩⟩
            refine q2 o g ?_ H' xL (fun b u e => kp b u (ne_of_none (sH _ _ e) m1) (kL (sH _ _ e))) ⟨dL, p1, p2, hx, hp1', hp2'⟩
            unfold laidM laysM
            rw [← lls]
            refine find_flat (i := i) (x := i) (List.getElem?_range (by omega)) (fun wh mw => ?_) (find_flat eo (fun o' mo' => ?_) ?_)
            · have mw := (List.mem_take_iff_getElem.mp mw)
              obtain ⟨w', hw', ew'⟩ := mw
              rw [List.getElem_range] at ew'
              subst ew'
              rw [List.find?_eq_none]
              intro x mx
              obtain ⟨o', mo', mx⟩ := List.mem_flatMap.mp mx
              obtain ⟨g', mg', rfl⟩ := List.mem_map.mp mx
              simpa using hok w' (by omega) o' mo' g' mg'
            · rw [List.find?_eq_none]
              intro x mx
              obtain ⟨g', mg', rfl⟩ := List.mem_map.mp mx
              simpa using hok2 o' mo' g' mg'
            · refine find_at (k := k) (by rw [List.getElem?_map]; show Option.map _ ((gapsM ls.length i)[k]?) = _; rw [eg]; rfl) (fun y my => ?_) (by simpa using st)
              rw [← List.map_take] at my
              obtain ⟨g', mg', rfl⟩ := List.mem_map.mp my
              simpa using hok3 g' mg'
          · refine fun z dz n1 n3 ne => Or.inr ?_
            have hy' := upd_mut (o := .ins cS dz []) (ne_of_none hy n1) (upd_get (o := .own z) n3 hy)
            refine ⟨y, dx, fs, z, dz, [], rfl, rfl, hy', upd_same, ?_⟩
            refine ⟨y, dx, z, dz, fs, [], rfl, hy', upd_same, ?_⟩
            have sC : Same H9 (upd (upd HB dz (.own z)) z (.ins cS dz [])) := fun b u e => by
              have eB := sB _ _ (sA _ _ e)
              exact upd_mut (ne_of_none eB n1) (upd_get n3 eB)
            walk_at "go"
            refine ⟨s8.trans sC, fun g' m' => ?_, _, rfl⟩
            obtain ⟨hk2, ek⟩ := List.getElem?_eq_some_iff.mp eg
            rw [List.take_succ_eq_append_getElem hk2, ek] at m'
            rcases List.mem_append.mp m' with m' | m'
            · exact hok3 g' m'
            · rw [List.mem_singleton.mp m']
              exact nst
        · rintro σ H8 ⟨s8, hok3, o5, rfl⟩
          rw [List.take_length] at hok3
          refine ⟨s5.trans (s7.trans s8), fun o' m' => ?_, _, _, rfl⟩
          obtain ⟨hj2, ej⟩ := List.getElem?_eq_some_iff.mp eo
          rw [List.take_succ_eq_append_getElem hj2, ej] at m'
          rcases List.mem_append.mp m' with m' | m'
          · exact hok2 o' m'
          · rw [List.mem_singleton.mp m']
            exact hok3
      · rintro σ H5 ⟨s5, hok2, o4, o5, rfl⟩
        rw [List.take_length] at hok2
        refine ⟨s2.trans (s4.trans s5), fun wh hw => ?_, _, _, _, rfl⟩
        rcases Nat.lt_or_eq_of_le (Nat.le_of_lt_succ hw) with lt | e
        · exact hok wh lt
        · subst e
          exact hok2
    · rintro σ H2 ⟨s2, hok, o3, o4, o5, rfl⟩
      walk_at "go"
      refine q1 ?_ _ (s1.trans s2)
      unfold laidM
      rw [List.find?_eq_none]
      intro x mx
      obtain ⟨wh, mw, mx⟩ := List.mem_flatMap.mp mx
      obtain ⟨o, mo, mx⟩ := List.mem_flatMap.mp mx
      obtain ⟨g, mg', rfl⟩ := List.mem_map.mp mx
      rw [← lls] at mw mo mg'
      have := hok wh (by rw [rg]; exact List.mem_range.mp mw) o mo g mg'
      simpa using this
end
end NW
/-! ## Walks: the law draws -/
namespace NW
open PySem PySem.Spec PyProof.Rows L2
set_option pp.maxSteps 150
-- an object's place in a heap
local macro_rules | `(tactic| walk_at "hp") => `(tactic| (show _ = some _; first
  | assumption
  | exact upd_same
  | (refine' upd_get ?n ?h; (case n => assumption); (case h => walk_at "hp"))
  | (refine' same_get ?n ?h; (case n => assumption); (case h => walk_at "hp"))))
-- a heap that has grown
local macro_rules | `(tactic| walk_at "sm") => `(tactic| first
  | assumption
  | exact Same.refl _
  | (refine' same_nw ?n ?h; (case h => assumption); (case n => walk_at "sm"))
  | (refine' Same.trans ?n ?h; (case h => assumption); (case n => walk_at "sm")))
local macro_rules | `(tactic| walk_at "ty") => `(tactic| first
  | exact TyN.int _
  | exact TyN.str _
  | exact TyN.non
  | (refine' TyN.tup ?h; (case h => walk_at "hp"))
  | (refine' TyN.lst ?h; (case h => walk_at "hp")))
-- a test whose answer is known
local macro_rules | `(tactic| walk_at "if") => `(tactic| first
  | (refine iteB (by decide +kernel) ?_)
  | (refine iteN (by decide +kernel) ?_)
  | (refine iteB (by rfl) ?_)
  | (refine iteN (by rfl) ?_)
  | (refine iteB (decide_eq_true (by first | omega | assumption)) ?_)
  | (refine iteN (decide_eq_false (by first | omega | assumption)) ?_)
  | (refine iteB (by simp only [Bool.not_eq_true', Bool.not_eq_false', Bool.and_eq_true, Bool.and_eq_false_iff, Bool.or_eq_true, Bool.or_eq_false_iff, decide_eq_true_eq, decide_eq_false_iff_not]; omega) ?_)
  | (refine iteN (by simp only [Bool.not_eq_true', Bool.not_eq_false', Bool.and_eq_true, Bool.and_eq_false_iff, Bool.or_eq_true, Bool.or_eq_false_iff, decide_eq_true_eq, decide_eq_false_iff_not]; omega) ?_))
-- one step of a reading
local macro_rules | `(tactic| walk_at "s") => `(tactic| first
  | refine ⟨_, rfl, ?_⟩
  | refine ⟨_, _, rfl, rfl, ?_⟩
  | refine And.intro (show wipe _ _ = wipe _ _ by kernel_rfl) ?_
  | refine And.intro rfl ?_
  | (refine' ⟨_, _, _, _, rfl, rfl, SqT.of ?h, ?e, ?_⟩; (case h => walk_at "hp"); (case e => exact rfl))
  | (refine' ⟨_, _, rfl, ?t, ?_⟩; (case t => walk_at "ty"))
  | (refine' ⟨_, _, rfl, SqT.of ?h, ?e, ?_⟩; (case h => walk_at "hp"); (case e => exact rfl))
  | refine ⟨_, _, rfl, ?_⟩
  | (refine' ⟨_, _, _, rfl, rfl, ?h1, ?h2, ?_⟩; (case h1 => walk_at "hp"); (case h2 => walk_at "hp"))
  | (refine' ⟨_, _, _, _, rfl, rfl, SqL.of ?h, ?e, ?_⟩; (case h => walk_at "hp"); (case e => exact rfl))
  | (refine' ⟨_, _, rfl, Or.inr (SqT.of ?h), ?_⟩; (case h => walk_at "hp"))
  | (refine' ⟨_, _, rfl, Or.inr (SqT.of ?h), rfl, rfl, ?_⟩; (case h => walk_at "hp"))
  | (refine' ⟨_, _, rfl, Or.inl (SqL.of ?h), ?_⟩; (case h => walk_at "hp"))
  | refine And.intro (flat_strs _) ?_
  | (refine And.intro (sm_sz (Nat.le_of_ble_eq_true rfl)) ?_; intro p np)
  | walk_at "if"
  | (refine' And.intro ?a ?_; (case a => first | assumption | exact sm_sz (by omega) | omega | exact Or.inr ⟨by omega, by omega⟩ | exact Or.inl ⟨by omega, by omega⟩ | exact ⟨by omega, by omega⟩))
  | refine Or.inl ⟨_, _, _, rfl, ?_⟩
  | refine Or.inr ⟨_, _, _, rfl, ?_⟩
  | (intro Hn sn))
local macro_rules | `(tactic| walk_at "go") => `(tactic| repeat (walk_at "s"))

abbrev s__law_cell_at : Stmt := topS 80
abbrev N__law_cell_at : List Str := ["_law_script", "_law_k"]
abbrev P__law_cell_at : List Str := ["_law_script", "_law_k"]
theorem sc__law_cell_at : FnScope N__law_cell_at P__law_cell_at (defScope s__law_cell_at) := ⟨rfl, rfl, rfl, by decide +kernel, rfl, by decide +kernel, by decide +kernel⟩

abbrev s__law_draw : Stmt := topS 81
abbrev N__law_draw : List Str := ["_law_cell_here", "_law_k", "_law_below", "_law_primes"]
abbrev P__law_draw : List Str := ["_law_cell_here", "_law_k", "_law_below"]
theorem sc__law_draw : FnScope N__law_draw P__law_draw (defScope s__law_draw) := ⟨rfl, rfl, rfl, by decide +kernel, rfl, by decide +kernel, by decide +kernel⟩

abbrev s__law_number : Stmt := topS 82
abbrev N__law_number : List Str := ["_law_cell_here", "_law_k", "_law_below", "_law_power", "_law_times", "_law_remains", "_law_small"]
abbrev P__law_number : List Str := ["_law_cell_here", "_law_k", "_law_below"]
theorem sc__law_number : FnScope N__law_number P__law_number (defScope s__law_number) := ⟨rfl, rfl, rfl, by decide +kernel, rfl, by decide +kernel, by decide +kernel⟩

abbrev s__law_next : Stmt := topS 83
abbrev N__law_next : List Str := ["_law_state", "_law_below", "_law_at", "_law_cell_here"]
abbrev P__law_next : List Str := ["_law_state", "_law_below"]
theorem sc__law_next : FnScope N__law_next P__law_next (defScope s__law_next) := ⟨rfl, rfl, rfl, by decide +kernel, rfl, by decide +kernel, by decide +kernel⟩

def sp_law_cell_at (K : PySem.W.Frag) : Sp := fun vs H Q _ => ∃ (sc : Addr) (xs : List Int) (k : Int), vs = [.ref sc, .int k] ∧ SqL K H sc (xs.map .int) ∧ 0 ≤ k ∧ ∀ i, Q (.int i) H
def sp_law_draw : Sp := fun vs H Q _ => ∃ c k b : Int, vs = [.int c, .int k, .int b] ∧ 0 ≤ c ∧ c ≤ 10 ^ 13 ∧ 0 ≤ k ∧ k ≤ 100 ∧ 0 < b ∧ b ≤ 10 ^ 7 ∧ ∀ i H', 0 ≤ i → i < b → Same H H' → Q (.int i) H'
def sp_law_number : Sp := fun vs H Q _ => ∃ c k b : Int, vs = [.int c, .int k, .int b] ∧ 0 ≤ k ∧ k ≤ 100 ∧ 0 < b ∧ b ≤ 1000 ∧ ∀ i H', 0 ≤ i → i < b → Same H H' → Q (.int i) H'
theorem sqL_keep {K : PySem.W.Frag} {H H' : Hp} {st sc r : Addr} {xs : List Int} {vs : List V} (k : ∀ a u, a ≠ st → H a = some u → H' a = some u) (h : H st = some (.lst (.ref r :: vs))) (q : SqL K H sc (xs.map .int)) : SqL K H' sc (xs.map .int) := by
  have ne : ∀ {u : HO}, H sc = some u → u ≠ .lst (.ref r :: vs) → sc ≠ st := fun e d => ne_of e h d
  rcases q with (q | ⟨o, q⟩) | q
  · refine Or.inl (Or.inl (k _ _ (ne q fun z => ?_) q))
    have z := HO.lst.inj z
    cases xs with
    | nil => cases z
    | cons x xs => cases z
  · exact Or.inl (Or.inr ⟨o, k _ _ (ne q fun z => nomatch z) q⟩)
  · exact Or.inr q
/-- the state of the draws -/
def DrawAt (K : PySem.W.Frag) (H : Hp) (st sc : Addr) (xs : List Int) (y c : Int) : Prop := H st = some (.lst [.ref sc, .int y, .int c]) ∧ SqL K H sc (xs.map .int) ∧ 0 ≤ y ∧ 0 ≤ c ∧ c ≤ 1000000
def sp_law_next (K : PySem.W.Frag) : Sp := fun vs H Q _ => ∃ (st sc : Addr) (xs : List Int) (y c b : Int), vs = [.ref st, .int b] ∧ DrawAt K H st sc xs y c ∧ c < 1000000 ∧ 0 < b ∧ b ≤ 1000 ∧
  ∀ i H', 0 ≤ i → i < b → (∀ a u, a ≠ st → H a = some u → H' a = some u) → DrawAt K H' st sc xs y (c + 1) → Q (.int i) H'
section
variable {P : Program} {w : World} {K : PySem.W.Frag} {mg : Str → Option Value} {base : Heap}
theorem ok_law_cell_at (T : Tx mg) (D : DefAt K mg "_law_cell_at" s__law_cell_at) : C8.Cal P w K mg base 1 "_law_cell_at" (sp_law_cell_at K) [] := by
  refine D.cal (k := 0) sc__law_cell_at (fun _ _ _ _ _ _ us hl => match us, hl with | [_, _], _ => rfl) (fun vs H Q E h => ?_) (fun f cdv A outer s H vs Q E hr h => ⟨_, (pss_cons (ps_if (pt_cmpR op_lt (pv 1) (pe_callB call_len_seq (by rfl) T.len_ PySem.boot_len (pa_cons (pv 0) pa_nil)) (nomark _)) (pss_one (ps_ret (pe_ix ix_list (pv 0) (pv 1) (fun _ _ => rfl))))
    pss_nil)
    (pss_one (ps_ret pe_int))), ?_⟩)
  · obtain ⟨sc, xs, k, rfl, _⟩ := h
    rfl
  · obtain ⟨sc, xs, k, rfl, hs, hk, q⟩ := h
    walk_at "go"
    refine ⟨_, _, rfl, Or.inl hs, ?_⟩
    walk_at "go"
    refine ite_b (fun c => ?_) (fun c => ?_)
    · have c := of_decide_eq_true c
      rw [List.length_map] at c
      have hk2 : k.toNat < xs.length := by omega
      have hx : (xs.map V.int)[k.toNat]? = some (.int xs[k.toNat]) := by
        rw [List.getElem?_map, List.getElem?_eq_getElem hk2]
        rfl
      have ha := atI_nat hx
      rw [Int.toNat_of_nonneg hk] at ha
      exact ⟨_, rfl, _, rfl, sc, xs.map .int, k, .int xs[k.toNat], rfl, rfl, hs, ha, q _⟩
    · walk_at "go"
      exact q 0
theorem ok_law_draw (T : Tx mg) (D : DefAt K mg "_law_draw" s__law_draw) : C8.Cal P w K mg base 1 "_law_draw" sp_law_draw [] := by
  refine D.cal (k := 0) sc__law_draw (fun _ _ _ _ _ _ us hl => match us, hl with | [_, _, _], _ => rfl) (fun vs H Q E h => ?_) (fun f cdv A outer s H vs Q E hr h => ⟨_, (pss_cons (ps_set (i := 3) sc__law_draw.nd rfl (Or.inl rfl) (pe_tup (pa_cons pe_int (pa_cons pe_int (pa_cons pe_int (pa_cons pe_int (pa_cons pe_int (pa_cons pe_int (pa_cons pe_int (pa_cons pe_int (pa_cons pe_int (pa_cons pe_int (pa_cons pe_int (pa_cons pe_int (pa_cons pe_int (pa_cons pe_int (pa_cons pe_int (pa_cons pe_int pa_nil))))))))))))))))))
    (pss_one (ps_ret (pe_op op_mod (pe_op op_mod (pe_op op_add (pe_op op_mul (pv 0) pe_int) (pe_op op_mul (pv 1) pe_int)) (pe_ix ix_tup (pv 3) (pe_op op_mod (pv 1) pe_int) (fun _ _ => rfl))) (pv 2))))), ?_⟩)
  · obtain ⟨c, k, b, rfl, _⟩ := h
    rfl
  · obtain ⟨c, k, b, rfl, c0, c1, k0, k1, b0, b1, q⟩ := h
    walk_at "go"
    have m16 : 0 ≤ k % 16 ∧ k % 16 < 16 := ⟨Int.emod_nonneg _ (by decide), Int.emod_lt_of_pos _ (by decide)⟩
    obtain ⟨pr, epr, ppr⟩ : ∃ pr : Int, atI ([1000003, 1000033, 1000037, 1000039, 1000081, 1000099, 1000117, 1000121, 1000133, 1000151, 1000159, 1000171, 1000183, 1000187, 1000193, 1000199].map V.int) (k % 16) = some (.int pr) ∧ 0 < pr := by
      generalize k % 16 = j at m16
      have : j = 0 ∨ j = 1 ∨ j = 2 ∨ j = 3 ∨ j = 4 ∨ j = 5 ∨ j = 6 ∨ j = 7 ∨ j = 8 ∨ j = 9 ∨ j = 10 ∨ j = 11 ∨ j = 12 ∨ j = 13 ∨ j = 14 ∨ j = 15 := by omega
      rcases this with rfl | rfl | rfl | rfl | rfl | rfl | rfl | rfl | rfl | rfl | rfl | rfl | rfl | rfl | rfl | rfl <;> exact ⟨_, rfl, by decide⟩
    refine ⟨_, _, _, _, rfl, rfl, SqT.of upd_same, epr, ?_⟩
    refine ⟨_, _, rfl, rfl, ppr, ?_⟩
    refine ⟨_, rfl, _, _, rfl, rfl, b0, ?_⟩
    exact q _ _ (Int.emod_nonneg _ (by omega)) (Int.emod_lt_of_pos _ b0) (by walk_at "sm")
theorem ok_law_number (T : Tx mg) (D : DefAt K mg "_law_number" s__law_number) (c__law_draw : C8.Cal P w K mg base 1 "_law_draw" sp_law_draw []) : C8.Cal P w K mg base 2 "_law_number" sp_law_number [] := by
  refine D.cal (k := 1) sc__law_number (fun _ _ _ _ _ _ us hl => match us, hl with | [_, _, _], _ => rfl) (fun vs H Q E h => ?_) (fun f cdv A outer s H vs Q E hr h => ⟨_, (pss_cons (ps_set (i := 3) sc__law_number.nd rfl (Or.inl rfl) pe_int)
    (pss_cons (ps_for PassesOwn.never rfl (pi_range1 (by rfl) T.range_ (pa_cons (pe_op op_mod (pv 1) pe_int) pa_nil)) (pg_name (i := 4) sc__law_number.nd rfl (Or.inl rfl))
    (pss_one (ps_set (i := 3) sc__law_number.nd rfl (Or.inl rfl) (pe_op op_mul (pv 3) pe_int))))
    (pss_cons (ps_set (i := 5) sc__law_number.nd rfl (Or.inl rfl) (pe_op op_fdivW (pe_op op_sub (pv 0) (pe_op op_pow pe_int pe_int)) (pv 3)))
    (pss_cons (ps_if (pt_cmpR op_gt (pv 5) pe_int (nomark _)) (pss_one (ps_ret (pe_op op_mod (pe_op op_mod (pv 5) pe_int) (pv 2))))
    pss_nil)
    (pss_cons (ps_set (i := 6) sc__law_number.nd rfl (Or.inl rfl) (pe_op op_mod (pv 0) pe_int))
    (pss_one (ps_ret (pe_op op_mod (C8.pe_c c__law_draw hr (by omega) (by rfl) (pa_cons (pe_op op_mul (pe_op op_add (pv 6) (pe_op op_mul pe_int (pv 1))) (pe_op op_add (pe_op op_add (pv 6) (pe_op op_mul pe_int (pv 1))) pe_int)) (pa_cons (pe_op op_add (pe_op op_mod (pv 1) pe_int) pe_int) (pa_cons pe_int pa_nil)))) (pv 2))))))))), ?_⟩)
  · obtain ⟨c, k, b, rfl, _⟩ := h
    rfl
  · obtain ⟨c, k, b, rfl, k0, k1, b0, b1, q⟩ := h
    have m24 : 0 ≤ k % 24 ∧ k % 24 < 24 := ⟨Int.emod_nonneg _ (by decide), Int.emod_lt_of_pos _ (by decide)⟩
    walk_at "go"
    refine for_it walk_range (fun i σ H' => H' = H ∧ ∃ o4 o5 o6, σ = [some (.int c), some (.int k), some (.int b), some (.int (1009 ^ i)), o4, o5, o6]) ⟨rfl, _, _, _, rfl⟩ (fun _ _ _ _ _ => True.intro) ?_ ?_
    · rintro i x σ H2 H3 hi ⟨rfl, o4, o5, o6, rfl⟩ ⟨rfl, rfl⟩
      walk_at "go"
      exact ⟨_, _, _, by rw [Int.pow_succ]; rfl⟩
    · rintro σ H2 ⟨rfl, o4, o5, o6, rfl⟩
      have n24 : (k % 24).toNat ≤ 23 := by omega
      have cd : CDivW (c - 10 ^ Int.toNat 18) (1009 ^ (k % 24).toNat) := by
        refine wide_div (b := 240) (Int.pow_pos (by decide)) ?_ (by decide) (by decide)
        rw [Int.natAbs_pow]
        exact Nat.lt_of_le_of_lt (Nat.pow_le_pow_right (by decide) n24) (by decide)
      have sm : 0 ≤ c % 1000003 ∧ c % 1000003 < 1000003 := ⟨Int.emod_nonneg _ (by decide), Int.emod_lt_of_pos _ (by decide)⟩
      walk_at "go"
      refine ite_b (fun cc => ?_) (fun cc => ?_)
      · walk_at "go"
        exact q _ _ (Int.emod_nonneg _ (by omega)) (Int.emod_lt_of_pos _ b0) (Same.refl _)
      · have k9 : 0 ≤ k % 9 ∧ k % 9 < 9 := ⟨Int.emod_nonneg _ (by decide), Int.emod_lt_of_pos _ (by decide)⟩
        walk_at "go"
        generalize c % 1000003 = z at sm ⊢
        have hm : (z + 977 * k) * (z + 31 * k + 5) ≤ 1100703 * 1003108 := Int.mul_le_mul (by omega) (by omega) (by omega) (by decide)
        have hn : 0 ≤ (z + 977 * k) * (z + 31 * k + 5) := Int.mul_nonneg (by omega) (by omega)
        refine ⟨_, _, _, rfl, hn, Int.le_trans hm (by decide), ?_, ?_, by decide, by decide, fun i H' i0 i1 s' => ?_⟩
        · show 0 ≤ k % 9 + 1
          omega
        · show k % 9 + 1 ≤ 100
          omega
        · walk_at "go"
          exact q _ _ (Int.emod_nonneg _ (by omega)) (Int.emod_lt_of_pos _ b0) s'
theorem ok_law_next (T : Tx mg) (D : DefAt K mg "_law_next" s__law_next) (c__law_cell_at : C8.Cal P w K mg base 1 "_law_cell_at" (sp_law_cell_at K) []) (c__law_number : C8.Cal P w K mg base 2 "_law_number" sp_law_number []) : C8.Cal P w K mg base 3 "_law_next" (sp_law_next K) [] := by
  refine D.cal (k := 2) sc__law_next (fun _ _ _ _ _ _ us hl => match us, hl with | [_, _], _ => rfl) (fun vs H Q E h => ?_) (fun f cdv A outer s H vs Q E hr h => ⟨_, (pss_cons (ps_asg (pe_op op_add (pe_ix ix_list (pv 0) pe_int (fun _ _ => rfl)) pe_int) (pg_sub (pv 0) pe_int set_list))
    (pss_cons (ps_set (i := 2) sc__law_next.nd rfl (Or.inl rfl) (pe_op op_fdiv (pe_ix ix_list (pv 0) pe_int (fun _ _ => rfl)) pe_int))
    (pss_cons (ps_set (i := 3) sc__law_next.nd rfl (Or.inl rfl) (pe_op op_add (C8.pe_c c__law_cell_at hr (by omega) (by rfl) (pa_cons (pe_ix ix_list (pv 0) pe_int (fun _ _ => rfl)) (pa_cons (pe_op op_add (pe_ix ix_list (pv 0) pe_int (fun _ _ => rfl)) (pv 2)) pa_nil))) (pe_op op_mul pe_int (pv 2))))
    (pss_one (ps_ret (C8.pe_c c__law_number hr (by omega) (by rfl) (pa_cons (pv 3) (pa_cons (pe_op op_add (pe_op op_mod (pe_ix ix_list (pv 0) pe_int (fun _ _ => rfl)) pe_int) pe_int) (pa_cons (pv 1) pa_nil))))))))), ?_⟩)
  · obtain ⟨st, sc, xs, by_, c, b, rfl, _⟩ := h
    rfl
  · obtain ⟨st, sc, xs, by_, c, b, rfl, ⟨hst, hs, y0, c0, c9⟩, c8, b0, b1, q⟩ := h
    walk_at "go"
    refine ⟨st, _, 2, 2, rfl, rfl, hst, rfl, ?_⟩
    have hs' : SqL K (upd H st (.lst [.ref sc, .int by_, .int (c + 1)])) sc (xs.map .int) := sqL_keep (fun a u n e => upd_mut n e) hst hs
    have hst' : (upd H st (.lst [.ref sc, .int by_, .int (c + 1)])) st = some (.lst [.ref sc, .int by_, .int (c + 1)]) := upd_same
    have kp : ∀ a u, a ≠ st → H a = some u → (upd H st (.lst [.ref sc, .int by_, .int (c + 1)])) a = some u := fun a u n e => upd_mut n e
    have dv : 0 ≤ (c + 1) / 12 := Int.ediv_nonneg (by omega) (by decide)
    have m12 : 0 ≤ (c + 1) % 12 ∧ (c + 1) % 12 < 12 := ⟨Int.emod_nonneg _ (by decide), Int.emod_lt_of_pos _ (by decide)⟩
    walk_at "go"
    refine ⟨sc, xs, _, rfl, hs', ?_, fun i => ?_⟩
    · show 0 ≤ by_ + (c + 1) / 12
      omega
    refine ⟨_, rfl, _, _, rfl, rfl, .inl ⟨by decide, by decide⟩, ?_⟩
    walk_at "go"
    refine ⟨_, _, _, rfl, ?_, ?_, b0, b1, fun j H' j0 j1 s' => ?_⟩
    · show 0 ≤ (c + 1) % 12 + 1
      omega
    · show (c + 1) % 12 + 1 ≤ 100
      omega
    exact q j H' j0 j1 (fun a u n e => s' _ _ (kp a u n e)) ⟨s' _ _ hst', sqL_keep (fun a u _ e => s' a u e) hst' hs', y0, by omega, by omega⟩
end
end NW
/-! ## Walks: the law's handings -/
namespace NW
open PySem PySem.Spec PyProof.Rows L2
set_option pp.maxSteps 150
-- an object's place in a heap
local macro_rules | `(tactic| walk_at "hp") => `(tactic| (show _ = some _; first
  | assumption
  | exact upd_same
  | (refine' upd_get ?n ?h; (case n => assumption); (case h => walk_at "hp"))
  | (refine' same_get ?n ?h; (case n => assumption); (case h => walk_at "hp"))))
-- a heap that has grown
local macro_rules | `(tactic| walk_at "sm") => `(tactic| first
  | assumption
  | exact Same.refl _
  | (refine' same_nw ?n ?h; (case h => assumption); (case n => walk_at "sm"))
  | (refine' Same.trans ?n ?h; (case h => assumption); (case n => walk_at "sm")))
local macro_rules | `(tactic| walk_at "ty") => `(tactic| first
  | exact TyN.int _
  | exact TyN.str _
  | exact TyN.non
  | (refine' TyN.tup ?h; (case h => walk_at "hp"))
  | (refine' TyN.lst ?h; (case h => walk_at "hp")))
-- a test whose answer is known
local macro_rules | `(tactic| walk_at "if") => `(tactic| first
  | (refine iteB (by decide +kernel) ?_)
  | (refine iteN (by decide +kernel) ?_)
  | (refine iteB (by rfl) ?_)
  | (refine iteN (by rfl) ?_)
  | (refine iteB (decide_eq_true (by first | omega | assumption)) ?_)
  | (refine iteN (decide_eq_false (by first | omega | assumption)) ?_)
  | (refine iteB (by simp only [Bool.not_eq_true', Bool.not_eq_false', Bool.and_eq_true, Bool.and_eq_false_iff, Bool.or_eq_true, Bool.or_eq_false_iff, decide_eq_true_eq, decide_eq_false_iff_not]; omega) ?_)
  | (refine iteN (by simp only [Bool.not_eq_true', Bool.not_eq_false', Bool.and_eq_true, Bool.and_eq_false_iff, Bool.or_eq_true, Bool.or_eq_false_iff, decide_eq_true_eq, decide_eq_false_iff_not]; omega) ?_))
-- one step of a reading
local macro_rules | `(tactic| walk_at "s") => `(tactic| first
  | refine ⟨_, rfl, ?_⟩
  | refine ⟨_, _, rfl, rfl, ?_⟩
  | refine And.intro (show wipe _ _ = wipe _ _ by kernel_rfl) ?_
  | refine And.intro rfl ?_
  | (refine' ⟨_, _, _, _, rfl, rfl, SqT.of ?h, ?e, ?_⟩; (case h => walk_at "hp"); (case e => exact rfl))
  | (refine' ⟨_, _, rfl, ?t, ?_⟩; (case t => walk_at "ty"))
  | (refine' ⟨_, _, rfl, SqT.of ?h, ?e, ?_⟩; (case h => walk_at "hp"); (case e => exact rfl))
  | refine ⟨_, _, rfl, ?_⟩
  | (refine' ⟨_, _, _, rfl, rfl, ?h1, ?h2, ?_⟩; (case h1 => walk_at "hp"); (case h2 => walk_at "hp"))
  | (refine' ⟨_, _, _, _, rfl, rfl, SqL.of ?h, ?e, ?_⟩; (case h => walk_at "hp"); (case e => exact rfl))
  | (refine' ⟨_, _, rfl, Or.inr (SqT.of ?h), ?_⟩; (case h => walk_at "hp"))
  | (refine' ⟨_, _, rfl, Or.inr (SqT.of ?h), rfl, rfl, ?_⟩; (case h => walk_at "hp"))
  | (refine' ⟨_, _, rfl, Or.inl (SqL.of ?h), ?_⟩; (case h => walk_at "hp"))
  | refine And.intro (flat_strs _) ?_
  | (refine And.intro (sm_sz (Nat.le_of_ble_eq_true rfl)) ?_; intro p np)
  | walk_at "if"
  | (refine' And.intro ?a ?_; (case a => first | assumption | exact sm_sz (by omega) | omega | exact Or.inr ⟨by omega, by omega⟩ | exact Or.inl ⟨by omega, by omega⟩ | exact ⟨by omega, by omega⟩))
  | refine Or.inl ⟨_, _, _, rfl, ?_⟩
  | refine Or.inr ⟨_, _, _, rfl, ?_⟩
  | (intro Hn sn))
local macro_rules | `(tactic| walk_at "go") => `(tactic| repeat (walk_at "s"))

abbrev s__law_longer : Stmt := topS 89
abbrev N__law_longer : List Str := ["_law_found", "_law_some", "_law_late", "_law_one", "_law_other"]
abbrev P__law_longer : List Str := ["_law_found", "_law_some"]
theorem sc__law_longer : FnScope N__law_longer P__law_longer (defScope s__law_longer) := ⟨rfl, rfl, rfl, by decide +kernel, rfl, by decide +kernel, by decide +kernel⟩

abbrev s__law_handings : Stmt := topS 88
abbrev N__law_handings : List Str := ["_law_program_here", "_law_found", "_law_name", "_law_sort", "_law_amount", "_law_cells", "_law_empty", "_law_some", "_law_cell_here"]
abbrev P__law_handings : List Str := ["_law_program_here"]
theorem sc__law_handings : FnScope N__law_handings P__law_handings (defScope s__law_handings) := ⟨rfl, rfl, rfl, by decide +kernel, rfl, by decide +kernel, by decide +kernel⟩

def sp_law_longer : Sp := fun vs H Q _ => ∃ (a b : Addr) (xss : List (List V)) (us zs : List V), vs = [.ref a, .ref b] ∧ H a = some (.lst us) ∧ TupsL H xss us ∧ H b = some (.lst zs) ∧ xss.length * zs.length ≤ 1000 ∧ xss.length ≤ 1000 ∧ zs.length ≤ 1000 ∧ (∀ xs ∈ xss, xs.length ≤ 100) ∧
  ∀ H' q ws, Same H H' → H' q = some (.lst ws) → TupsL H' (longer xss zs) ws → Q (.ref q) H'
def sp_law_handings : Sp := fun vs H Q _ => ∃ (p : Prog) (v : V), vs = [v] ∧ ProgAt H p v ∧ okS p ∧ okL p.lists ∧ ∀ H' q ws, Same H H' → H' q = some (.lst ws) → HandsL H' (hands p) ws → (hands p).length ≤ 1000 → Q (.ref q) H'
theorem rgV_rngI (m : Int) : rgV 0 m = (rng m).map V.int := by
  unfold rgV rng
  rw [Int.sub_zero, List.map_map]
  congr 1
  funext i
  show V.int (0 + (i : Int)) = V.int (i : Int)
  rw [Int.zero_add]
theorem hands_len {H : Hp} {gs : List (List Part)} {xss : List (List V)} {n : Nat} (pp : Paired (Paired (PartAt H)) gs xss) (h : ∀ g ∈ gs, g.length ≤ n) : ∀ xs ∈ xss, xs.length ≤ n := fun xs m => by
  obtain ⟨i, hi, e⟩ := List.getElem_of_mem m
  obtain ⟨g, eg, pg⟩ := Paired.at pp (List.getElem?_eq_some_iff.mpr ⟨hi, e⟩)
  rw [← Paired.length pg]
  exact h g (List.mem_of_getElem? eg)
theorem take_snoc {α : Type} {xs : List α} {i : Nat} {x : α} (e : xs[i]? = some x) : xs.take (i + 1) = xs.take i ++ [x] := by
  obtain ⟨hi, ex⟩ := List.getElem?_eq_some_iff.mp e
  rw [List.take_succ_eq_append_getElem hi, ex]
theorem pair_ws {H : Hp} : ∀ xs : List Int, Paired (PartAt H) (xs.map Part.w) (xs.map V.int)
  | [] => .nil
  | _ :: xs => .cons rfl (pair_ws xs)
theorem nonown_snoc1 {xs : List LD} {d : LD} (h : ¬ d.so = "own") : nonown (xs ++ [d]) = nonown xs ++ [d] := by
  unfold nonown
  simp [List.filter_append, h]
theorem nonown_snoc2 {xs : List LD} {d : LD} (h : d.so = "own") : nonown (xs ++ [d]) = nonown xs := by
  unfold nonown
  simp [List.filter_append, h]
theorem tups_small {m c : Int} (hm : m = 1 ∨ (m = 2 ∧ c ≤ 2)) (k : Nat) (hk : k ≤ c.toNat) : (prodL (List.replicate k (rng m))).length ≤ 4 := by
  rw [tups_len]
  rcases hm with rfl | ⟨rfl, hc⟩
  · rw [show (1 : Int).toNat = 1 from rfl, Nat.one_pow]
    decide
  · have k2 : k ≤ 2 := by omega
    have : (2 : Int).toNat ^ k ≤ 2 ^ 2 := Nat.pow_le_pow_right (by decide) k2
    omega
theorem pair_cs {H : Hp} : ∀ {xss : List (List Int)} {vs : List V}, TupsL H (xss.map fun xs => xs.map V.int) vs → Paired (PartAt H) (xss.map Part.cs) vs
  | [], _, .nil => .nil
  | _ :: _, _, .cons h t => .cons h (pair_cs t)
section
variable {P : Program} {w : World} {K : PySem.W.Frag} {mg : Str → Option Value} {base : Heap}
theorem ok_law_longer (T : Tx mg) (D : DefAt K mg "_law_longer" s__law_longer) : C8.Cal P w K mg base 1 "_law_longer" sp_law_longer [] := by
  refine D.cal (k := 0) sc__law_longer (fun _ _ _ _ _ _ us hl => match us, hl with | [_, _], _ => rfl) (fun vs H Q E h => ?_) (fun f cdv A outer s H vs Q E hr h => ⟨_, (pss_cons (ps_set (i := 2) sc__law_longer.nd rfl (Or.inl rfl) (pe_lst pa_nil))
    (pss_cons (ps_for PassesOwn.never rfl (pi_list (pv 0)) (pg_name (i := 3) sc__law_longer.nd rfl (Or.inr rfl))
    (pss_one (ps_set (i := 2) sc__law_longer.nd rfl (Or.inl rfl) (pe_op op_cat (pv 2) (pe_lc (own := [("_law_other", 4)]) (g := (gName 4)) (tt := tYes) rfl sc__law_longer.nd (pi_list (pv 1)) (blkOk_by (own := [("_law_other", 4)]) (N := N__law_longer) (sc := defScope s__law_longer) (by decide +kernel)) (fun _ _ _ _ _ => (pg_name (i := 4) sc__law_longer.nd rfl (Or.inl rfl))) (fun _ _ _ _ _ => pts_nil) (fun _ _ _ _ _ => (pe_op (op_catAK (K := K) rfl) (pv 3) (pe_tup (pa_cons (pv 4) pa_nil)))))))))
    (pss_one (ps_ret (pv 2))))), ?_⟩)
  · obtain ⟨a, b, xss, us, zs, rfl, _⟩ := h
    rfl
  · obtain ⟨a, b, xss, us, zs, rfl, ha, tl, hb, lm, lx, lz, le, q⟩ := h
    walk_at "go"
    rename_i L nL
    have lu : xss.length = us.length := Paired.length tl
    refine ⟨⟨_, SqL.of (upd_get nL ha)⟩, ?_⟩
    refine for_it (walk_list (a := a) (xs := us)) (fun i σ H' => Same H H' ∧ ∃ L acc o3 o4, H' L = some (.lst acc) ∧ TupsL H' (longer (xss.take i) zs) acc ∧ σ = [some (.ref a), some (.ref b), some (.ref L), o3, o4]) ?_ (fun i σ H' _ z => SqL.of (z.1 _ _ ha)) ?_ ?_
    · exact ⟨same_nw (Same.refl _) nL, L, [], _, _, upd_same, .nil, rfl⟩
    · rintro i x σ H2 H3 hi ⟨s2, L, acc, o3, o4, hL, ta, rfl⟩ ⟨rfl, e⟩
      obtain ⟨xs, ex, p, rfl, hp⟩ := Paired.at tl e
      have hp := s2 _ _ hp
      walk_at "go"
      have hb2 := s2 _ _ hb
      refine ⟨⟨_, SqL.of hb2⟩, fun D nD => ?_⟩
      refine lc_rel (xs := zs) walk_list (fun H z v => ∃ p, v = .ref p ∧ H p = some (.tup (xs ++ [z]))) (fun _ _ _ _ t ⟨p, e, q⟩ => ⟨p, e, t _ _ q⟩) nD (by omega) (fun _ s => SqL.of (s _ _ hb2)) (fun j x H4 H5 z Kf kf ez s4 y4 => ?_) (fun H4 acc2 s4 hD4 pr => ?_)
      · obtain ⟨rfl, ex2⟩ := y4
        cases ez.symm.trans ex2
        have hp5 := s4 _ _ hp
        walk_at "go"
        rename_i p8 n8
        exact catA_1 (upd_get n8 hp5) upd_same (Nat.le_trans (le xs (List.mem_of_getElem? ex)) (by decide)) fun p9 H8 s8 h8 => kf _ H8 ((same_nw (Same.refl _) n8).trans s8) ⟨p9, rfl, h8⟩
      · have hL4 := s4 _ _ hL
        have la : acc.length ≤ 1000 := by
          rw [← Paired.length ta, longer_len, List.length_take]
          exact Nat.le_trans (Nat.mul_le_mul_right _ (Nat.min_le_right _ _)) lm
        have la2 : acc2.length ≤ 1000 := by
          rw [← Paired.length pr]
          exact lz
        refine ⟨L, D, acc, acc2, rfl, rfl, hL4, hD4, sm_sz (by omega), fun pn npn => ?_⟩
        have s5 : Same H3 (upd H4 pn (.lst (acc ++ acc2))) := same_nw s4 npn
        refine ⟨s2.trans s5, pn, acc ++ acc2, _, _, upd_same, ?_, rfl⟩
        rw [longer_snoc ex]
        exact paired_app (ta.ts (same_ts s5)) (TupsL.ts (ts_nw (TS.refl _) npn) (tupsL_of pr))
    · rintro σ H2 ⟨s2, L, acc, o3, o4, hL, ta, rfl⟩
      rw [← lu, List.take_length] at ta
      walk_at "go"
      exact q _ L acc s2 hL ta
theorem ok_law_handings (T : Tx mg) (D : DefAt K mg "_law_handings" s__law_handings) (c__law_longer : C8.Cal P w K mg base 1 "_law_longer" sp_law_longer []) : C8.Cal P w K mg base 2 "_law_handings" sp_law_handings [] := by
  refine D.cal (k := 1) sc__law_handings (fun _ _ _ _ _ _ us hl => match us, hl with | [_], _ => rfl) (fun vs H Q E h => ?_) (fun f cdv A outer s H vs Q E hr h => ⟨_, (pss_cons (ps_set (i := 1) sc__law_handings.nd rfl (Or.inl rfl) (pe_lst (pa_cons (pe_tup pa_nil) pa_nil)))
    (pss_cons (ps_for PassesOwn.never rfl (pi_tup (pe_ix ix_tup (pv 0) pe_int (fun _ _ => rfl))) (pg_tup rfl (pgs_cons (pg_name (i := 2) sc__law_handings.nd rfl (Or.inl rfl)) (pgs_cons (pg_name (i := 3) sc__law_handings.nd rfl (Or.inl rfl)) (pgs_cons (pg_name (i := 4) sc__law_handings.nd rfl (Or.inl rfl)) pgs_nil))))
    (pss_one (ps_set (i := 1) sc__law_handings.nd rfl (Or.inl rfl) (C8.pe_c c__law_longer hr (by omega) (by rfl) (pa_cons (pv 1) (pa_cons (pe_listRg rfl (by rfl) T.list_ (prg_1 (by rfl) T.range_ (pv 4))) pa_nil))))))
    (pss_cons (ps_for PassesOwn.never rfl (pi_tup (pe_ix ix_tup (pv 0) pe_int (fun _ _ => rfl))) (pg_tup rfl (pgs_cons (pg_name (i := 2) sc__law_handings.nd rfl (Or.inl rfl)) (pgs_cons (pg_name (i := 3) sc__law_handings.nd rfl (Or.inl rfl)) (pgs_cons (pg_name (i := 5) sc__law_handings.nd rfl (Or.inl rfl)) (pgs_cons (pg_name (i := 4) sc__law_handings.nd rfl (Or.inl rfl)) (pgs_cons (pg_name (i := 6) sc__law_handings.nd rfl (Or.inl rfl)) pgs_nil))))))
    (pss_one (ps_if (pt_cmpR op_ne (pv 3) pe_str (nomark _)) (pss_cons (ps_set (i := 7) sc__law_handings.nd rfl (Or.inl rfl) (pe_lst (pa_cons (pe_tup pa_nil) pa_nil)))
    (pss_cons (ps_for PassesOwn.never rfl (pi_range1 (by rfl) T.range_ (pa_cons (pv 5) pa_nil)) (pg_name (i := 8) sc__law_handings.nd rfl (Or.inl rfl))
    (pss_one (ps_set (i := 7) sc__law_handings.nd rfl (Or.inl rfl) (C8.pe_c c__law_longer hr (by omega) (by rfl) (pa_cons (pv 7) (pa_cons (pe_listRg rfl (by rfl) T.list_ (prg_1 (by rfl) T.range_ (pv 4))) pa_nil))))))
    (pss_one (ps_set (i := 1) sc__law_handings.nd rfl (Or.inl rfl) (C8.pe_c c__law_longer hr (by omega) (by rfl) (pa_cons (pv 1) (pa_cons (pv 7) pa_nil)))))))
    pss_nil)))
    (pss_one (ps_ret (pv 1)))))), ?_⟩)
  · obtain ⟨p, v, rfl, _⟩ := h
    rfl
  · obtain ⟨p, v, rfl, ⟨a, ah, al, ar, at_, hs, ls, rs, rfl, h0, h1, h2, h3, h4, h5, h6, h7⟩, hS, hL, q⟩ := h
    walk_at "go"
    rename_i p1 n1 F nF
    have s0 : Same H (upd (upd H p1 (.tup [])) F (.lst [.ref p1])) := same_nw (same_nw (Same.refl _) n1) nF
    refine ⟨⟨_, SqT.of (s0 _ _ h1)⟩, ?_⟩
    refine for_it h2.walk (fun i σ H' => Same H H' ∧ ∃ F ws o2 o3 o4 o5 o6 o7 o8, H' F = some (.lst ws) ∧ HandsL H' (prodL ((p.handed.take i).map PD.opts)) ws ∧ (prodL ((p.handed.take i).map PD.opts)).length ≤ 3 ^ i ∧ σ = [some (.ref a), some (.ref F), o2, o3, o4, o5, o6, o7, o8]) ?_ (fun i σ H' _ z => SqT.of (z.1 _ _ h1)) ?_ ?_
    · exact ⟨s0, F, _, _, _, _, _, _, _, _, upd_same, ⟨[[]], .cons ⟨p1, rfl, upd_get nF upd_same⟩ .nil, .cons .nil .nil⟩, Nat.le_refl _, rfl⟩
    · rintro i x σ H2 H3 hi ⟨s2, F, ws, o2, o3, o4, o5, o6, o7, o8, hF, hh, hle, rfl⟩ ⟨rfl, e⟩
      obtain ⟨d, pd, ed, rfl, hpd⟩ := (h2.ts (same_ts s2)).at e
      have hpd : H3 pd = some (.tup [.str d.nm, .str d.so, .int d.sz]) := hpd
      have hsz := hS.sz d (List.mem_of_getElem? ed)
      have i2 : i < 2 := Nat.lt_of_lt_of_le hi hS.len
      have i9 : 3 ^ i ≤ 3 := Nat.pow_le_pow_right (n := 3) (by decide) (show i ≤ 1 by omega)
      obtain ⟨xss, tl, pp⟩ := hh
      walk_at "go"
      rename_i R nR
      have hR : (upd H3 R (.lst (rgV 0 d.sz))) R = some (.lst ((rng d.sz).map .int)) := by rw [upd_same, rgV_rngI]
      have sR : Same H3 (upd H3 R (.lst (rgV 0 d.sz))) := same_nw (Same.refl _) nR
      have lz : ((rng d.sz).map V.int).length ≤ 3 := by rw [List.length_map, rng_len]; omega
      have lx : xss.length ≤ 3 := by rw [← Paired.length pp]; omega
      have lm : xss.length * ((rng d.sz).map V.int).length ≤ 3 * 3 := Nat.mul_le_mul lx lz
      refine ⟨F, R, xss, ws, _, rfl, sR _ _ hF, tl.ts (same_ts sR), hR, by omega, by omega, by omega, fun ys my => ?_, fun H5 F5 ws5 s5 hF5 tl5 => ?_⟩
      · exact Nat.le_trans (hands_len pp (n := 2) (fun g mg => by rw [prodL_mem_len mg, List.length_map, List.length_take]; omega) ys my) (by decide)
      · have s35 := sR.trans s5
        refine ⟨s2.trans s35, F5, ws5, _, _, _, _, _, _, _, hF5, ⟨_, tl5, ?_⟩, ?_, rfl⟩
        · rw [take_snoc ed, List.map_append, show [d].map PD.opts = [d.opts] from rfl, prodL_snoc]
          exact pair_longer (Paired.mapP pp fun _ _ q => Paired.mapP q fun _ _ z => z.ts (same_ts s35)) (pair_ws _)
        · rw [take_snoc ed, List.map_append, show [d].map PD.opts = [d.opts] from rfl, prodL_snoc, longer_len, Nat.pow_succ]
          refine Nat.mul_le_mul hle ?_
          show ((rng d.sz).map Part.w).length ≤ 3
          rw [List.length_map, rng_len]
          omega
    rintro σ H2 ⟨s2, F, ws, o2, o3, o4, o5, o6, o7, o8, hF, hh, hle, rfl⟩
    rw [List.take_length] at hh hle
    have h92 : 3 ^ p.handed.length ≤ 9 := Nat.pow_le_pow_right (n := 3) (by decide) hS.len
    walk_at "go"
    refine ⟨⟨_, SqT.of (s2 _ _ h3)⟩, ?_⟩
    refine for_it (TupsL.walk h4) (fun i σ H' => Same H H' ∧ ∃ F ws o2 o3 o4 o5 o6 o7 o8, H' F = some (.lst ws) ∧ HandsL H' (prodL (p.handed.map PD.opts ++ (nonown (p.lists.take i)).map LD.opts)) ws ∧ (prodL (p.handed.map PD.opts ++ (nonown (p.lists.take i)).map LD.opts)).length ≤ 9 * 4 ^ i ∧ σ = [some (.ref a), some (.ref F), o2, o3, o4, o5, o6, o7, o8]) ?_ (fun i σ H' _ z => SqT.of (z.1 _ _ h3)) ?_ ?_
    · refine ⟨s2, F, ws, _, _, _, _, _, _, _, hF, ?_, ?_, rfl⟩
      · rw [show (nonown (p.lists.take 0)).map LD.opts = [] from rfl, List.append_nil]
        exact hh
      · rw [show (nonown (p.lists.take 0)).map LD.opts = [] from rfl, List.append_nil]
        omega
    · rintro i x σ H3 H4 hi ⟨s3, F, ws, o2, o3, o4, o5, o6, o7, o8, hF, hh, hle, rfl⟩ ⟨rfl, e⟩
      obtain ⟨d, pd, ed, rfl, hpd⟩ := (h4.ts (same_ts s3)).at e
      have hpd : H4 pd = some (.tup [.str d.nm, .str d.so, .int d.cells, .int d.wo, .int d.em]) := hpd
      have hok := hL.ok d (List.mem_of_getElem? ed)
      have hsm := hL.sm d (List.mem_of_getElem? ed)
      have i2 : i < 2 := Nat.lt_of_lt_of_le hi hL.len
      have i9 : 4 ^ i ≤ 4 := Nat.pow_le_pow_right (n := 4) (by decide) (show i ≤ 1 by omega)
      walk_at "go"
      refine ite_b (fun b => ?_) (fun b => ?_)
      · have nown : ¬ d.so = "own" := fun z => by rw [z] at b; exact absurd b (by decide +kernel)
        have en : nonown (p.lists.take (i + 1)) = nonown (p.lists.take i) ++ [d] := by rw [take_snoc ed, nonown_snoc1 nown]
        have bd : ∀ k : Nat, k ≤ d.cells.toNat → (prodL (List.replicate k (rng d.wo))).length ≤ 4 := fun k hk => tups_small hsm k hk
        have w2 : (rng d.wo).length ≤ 2 := by
          rw [rng_len]
          rcases hsm with e | ⟨e, _⟩ <;> (rw [e]; decide)
        walk_at "go"
        rename_i q1 m1 S0 mS
        have s4 : Same H4 (upd (upd H4 q1 (.tup [])) S0 (.lst [.ref q1])) := same_nw (same_nw (Same.refl _) m1) mS
        refine for_it walk_range (fun j σ H' => Same H4 H' ∧ ∃ S ws2 o8, H' S = some (.lst ws2) ∧ TupsL H' ((prodL (List.replicate j (rng d.wo))).map fun xs => xs.map V.int) ws2 ∧ σ = [some (.ref a), some (.ref F), some (.str d.nm), some (.str d.so), some (.int d.wo), some (.int d.cells), some (.int d.em), some (.ref S), o8]) ?_ (fun _ _ _ _ _ => True.intro) ?_ ?_
        · exact ⟨s4, S0, _, _, upd_same, .cons ⟨q1, rfl, upd_get mS upd_same⟩ .nil, rfl⟩
        · rintro j x σ H5 H6 hj ⟨s5, S, ws2, o8, hS5, tl5, rfl⟩ ⟨rfl, rfl⟩
          walk_at "go"
          rename_i R nR
          have hR : (upd H6 R (.lst (rgV 0 d.wo))) R = some (.lst ((rng d.wo).map .int)) := by rw [upd_same, rgV_rngI]
          have sR : Same H6 (upd H6 R (.lst (rgV 0 d.wo))) := same_nw (Same.refl _) nR
          have lb := bd j (by omega)
          have lm := Nat.mul_le_mul lb w2
          refine ⟨S, R, _, ws2, _, rfl, sR _ _ hS5, tl5.ts (same_ts sR), hR, by rw [List.length_map, List.length_map]; omega, by rw [List.length_map]; omega, by rw [List.length_map]; omega, fun ys my => ?_, fun H7 S7 ws7 s7 hS7 tl7 => ?_⟩
          · obtain ⟨zs, mz, rfl⟩ := List.mem_map.mp my
            rw [List.length_map, prodL_mem_len mz, List.length_replicate]
            omega
          · refine ⟨s5.trans (sR.trans s7), S7, ws7, _, hS7, ?_, rfl⟩
            rw [tups_succ, longer_map V.int]
            exact tl7
        · rintro σ H5 ⟨s5, S, ws2, o8, hS5, tl5, rfl⟩
          have lb := bd d.cells.toNat (Nat.le_refl _)
          have s35 := s3.trans s5
          obtain ⟨xss, tl, pp⟩ := hh
          have lx : xss.length ≤ 9 * 4 ^ i := by rw [← Paired.length pp]; exact hle
          have lw : ws2.length = (prodL (List.replicate d.cells.toNat (rng d.wo))).length := by rw [← Paired.length tl5, List.length_map]
          have lm : xss.length * ws2.length ≤ (9 * 4 ^ i) * 4 := Nat.mul_le_mul lx (by omega)
          walk_at "go"
          refine ⟨F, S, xss, ws, ws2, rfl, s5 _ _ hF, tl.ts (same_ts s5), hS5, by omega, by omega, by omega, fun ys my => ?_, fun H7 F7 ws7 s7 hF7 tl7 => ?_⟩
          · refine Nat.le_trans (hands_len pp (n := 4) (fun g mg => ?_) ys my) (by decide)
            rw [prodL_mem_len mg, List.length_append, List.length_map, List.length_map]
            have : (nonown (p.lists.take i)).length ≤ (p.lists.take i).length := List.length_filter_le _ _
            rw [List.length_take] at this
            have := hS.len
            omega
          · have s57 := s5.trans s7
            refine ⟨s3.trans s57, F7, ws7, _, _, _, _, _, _, _, hF7, ⟨_, tl7, ?_⟩, ?_, rfl⟩
            · rw [en, List.map_append, ← List.append_assoc, show [d].map LD.opts = [d.opts] from rfl, prodL_snoc]
              exact pair_longer (Paired.mapP pp fun _ _ q => Paired.mapP q fun _ _ z => z.ts (same_ts s57)) (pair_cs (tl5.ts (same_ts s7)))
            · rw [en, List.map_append, ← List.append_assoc, show [d].map LD.opts = [d.opts] from rfl, prodL_snoc, longer_len, Nat.pow_succ, ← Nat.mul_assoc]
              refine Nat.mul_le_mul hle ?_
              show ((prodL (List.replicate d.cells.toNat (rng d.wo))).map Part.cs).length ≤ 4
              rw [List.length_map]
              exact lb
      · have nown : d.so = "own" := by
          have b : (!decide (V.str d.so = V.str "own")) = false := b
          rw [Bool.not_eq_false', decide_eq_true_eq] at b
          exact V.str.inj b
        have en : nonown (p.lists.take (i + 1)) = nonown (p.lists.take i) := by rw [take_snoc ed, nonown_snoc2 nown]
        refine ⟨s3, F, ws, _, _, _, _, _, _, _, hF, by rw [en]; exact hh, by rw [en, Nat.pow_succ]; omega, rfl⟩
    rintro σ H3 ⟨s3, F, ws, o2, o3, o4, o5, o6, o7, o8, hF, hh, hle, rfl⟩
    rw [List.take_length] at hh hle
    have h16 : 4 ^ p.lists.length ≤ 16 := Nat.pow_le_pow_right (n := 4) (by decide) hL.len
    have eh : prodL (p.handed.map PD.opts ++ (nonown p.lists).map LD.opts) = hands p := by
      unfold hands partsP
      rw [List.map_append, List.map_map, List.map_map]
      rfl
    rw [eh] at hh hle
    walk_at "go"
    exact q H3 F ws s3 hF hh (by omega)
end
end NW
/-! ## Walks: parts of a handing, a moved program, by the law -/
namespace NW
open PySem PySem.Spec PyProof.Rows L2
set_option pp.maxSteps 150
-- an object's place in a heap
local macro_rules | `(tactic| walk_at "hp") => `(tactic| (show _ = some _; first
  | assumption
  | exact upd_same
  | (refine' upd_get ?n ?h; (case n => assumption); (case h => walk_at "hp"))
  | (refine' same_get ?n ?h; (case n => assumption); (case h => walk_at "hp"))))
-- a heap that has grown
local macro_rules | `(tactic| walk_at "sm") => `(tactic| first
  | assumption
  | exact Same.refl _
  | (refine' same_nw ?n ?h; (case h => assumption); (case n => walk_at "sm"))
  | (refine' Same.trans ?n ?h; (case h => assumption); (case n => walk_at "sm")))
local macro_rules | `(tactic| walk_at "ty") => `(tactic| first
  | exact TyN.int _
  | exact TyN.str _
  | exact TyN.non
  | (refine' TyN.tup ?h; (case h => walk_at "hp"))
  | (refine' TyN.lst ?h; (case h => walk_at "hp")))
-- a test whose answer is known
local macro_rules | `(tactic| walk_at "if") => `(tactic| first
  | (refine iteB (by decide +kernel) ?_)
  | (refine iteN (by decide +kernel) ?_)
  | (refine iteB (by rfl) ?_)
  | (refine iteN (by rfl) ?_)
  | (refine iteB (decide_eq_true (by first | omega | assumption)) ?_)
  | (refine iteN (decide_eq_false (by first | omega | assumption)) ?_)
  | (refine iteB (by simp only [Bool.not_eq_true', Bool.not_eq_false', Bool.and_eq_true, Bool.and_eq_false_iff, Bool.or_eq_true, Bool.or_eq_false_iff, decide_eq_true_eq, decide_eq_false_iff_not]; omega) ?_)
  | (refine iteN (by simp only [Bool.not_eq_true', Bool.not_eq_false', Bool.and_eq_true, Bool.and_eq_false_iff, Bool.or_eq_true, Bool.or_eq_false_iff, decide_eq_true_eq, decide_eq_false_iff_not]; omega) ?_))
-- one step of a reading
local macro_rules | `(tactic| walk_at "s") => `(tactic| first
  | refine ⟨_, rfl, ?_⟩
  | refine ⟨_, _, rfl, rfl, ?_⟩
  | refine And.intro (show wipe _ _ = wipe _ _ by kernel_rfl) ?_
  | refine And.intro rfl ?_
  | (refine' ⟨_, _, _, _, rfl, rfl, SqT.of ?h, ?e, ?_⟩; (case h => walk_at "hp"); (case e => exact rfl))
  | (refine' ⟨_, _, rfl, ?t, ?_⟩; (case t => walk_at "ty"))
  | (refine' ⟨_, _, rfl, SqT.of ?h, ?e, ?_⟩; (case h => walk_at "hp"); (case e => exact rfl))
  | refine ⟨_, _, rfl, ?_⟩
  | (refine' ⟨_, _, _, rfl, rfl, ?h1, ?h2, ?_⟩; (case h1 => walk_at "hp"); (case h2 => walk_at "hp"))
  | (refine' ⟨_, _, _, _, rfl, rfl, SqL.of ?h, ?e, ?_⟩; (case h => walk_at "hp"); (case e => exact rfl))
  | (refine' ⟨_, _, rfl, Or.inr (SqT.of ?h), ?_⟩; (case h => walk_at "hp"))
  | (refine' ⟨_, _, rfl, Or.inr (SqT.of ?h), rfl, rfl, ?_⟩; (case h => walk_at "hp"))
  | (refine' ⟨_, _, rfl, Or.inl (SqL.of ?h), ?_⟩; (case h => walk_at "hp"))
  | refine And.intro (flat_strs _) ?_
  | (refine And.intro (sm_sz (Nat.le_of_ble_eq_true rfl)) ?_; intro p np)
  | walk_at "if"
  | (refine' And.intro ?a ?_; (case a => first | assumption | exact sm_sz (by omega) | omega | exact Or.inr ⟨by omega, by omega⟩ | exact Or.inl ⟨by omega, by omega⟩ | exact ⟨by omega, by omega⟩))
  | refine Or.inl ⟨_, _, _, rfl, ?_⟩
  | refine Or.inr ⟨_, _, _, rfl, ?_⟩
  | (intro Hn sn))
local macro_rules | `(tactic| walk_at "go") => `(tactic| repeat (walk_at "s"))

abbrev s__law_part : Stmt := topS 90
abbrev N__law_part : List Str := ["_law_program_here", "_law_handing", "_law_kind", "_law_sorts", "_law_one", "_law_sort"]
abbrev P__law_part : List Str := ["_law_program_here", "_law_handing", "_law_kind"]
theorem sc__law_part : FnScope N__law_part P__law_part (defScope s__law_part) := ⟨rfl, rfl, rfl, by decide +kernel, rfl, by decide +kernel, by decide +kernel⟩

abbrev s__law_moved : Stmt := topS 102
abbrev N__law_moved : List Str := ["_law_program_here", "_law_order", "_law_gaps", "_law_lists", "_law_at", "_law_gap", "_law_name", "_law_sort", "_law_cells", "_law_worths", "_law_empty"]
abbrev P__law_moved : List Str := ["_law_program_here", "_law_order", "_law_gaps"]
theorem sc__law_moved : FnScope N__law_moved P__law_moved (defScope s__law_moved) := ⟨rfl, rfl, rfl, by decide +kernel, rfl, by decide +kernel, by decide +kernel⟩

def psM (ss : List Str) (g : List Part) (k : Str) : List Part := ((g.zip ss).filter fun x => decide (x.2 = k)).map (·.1)
def sp_law_part : Sp := fun vs H Q _ => ∃ (p : Prog) (v : V) (g : List Part) (vg : V) (k : Str), vs = [v, vg, .str k] ∧ ProgAt H p v ∧ okS p ∧ okL p.lists ∧ HandAt H g vg ∧ g.length = (sorts p).length ∧ ∀ H' q ws, Same H H' → H' q = some (.tup ws) → Paired (PartAt H') (psM (sorts p) g k) ws → Q (.ref q) H'
def sp_law_moved : Sp := fun vs H Q _ => ∃ (p : Prog) (v : V) (o g : List Int) (po pg : Addr), vs = [v, .ref po, .ref pg] ∧ ProgAt H p v ∧ H po = some (.lst (o.map .int)) ∧ H pg = some (.lst (g.map .int)) ∧ o.length = g.length ∧ o.length ≤ 4 ∧
  (∀ i ∈ o, 0 ≤ i ∧ i < (p.lists.length : Int)) ∧ ∀ H' v', Same H H' → ProgAt H' (layP p o g) v' → Q v' H'
section
variable {P : Program} {w : World} {K : PySem.W.Frag} {mg : Str → Option Value} {base : Heap}
theorem ok_law_part (T : Tx mg) (D : DefAt K mg "_law_part" s__law_part) : C8.Cal P w K mg base 1 "_law_part" sp_law_part [] := by
  refine D.cal (k := 0) sc__law_part (fun _ _ _ _ _ _ us hl => match us, hl with | [_, _, _], _ => rfl) (fun vs H Q E h => ?_) (fun f cdv A outer s H vs Q E hr h => ⟨_, (pss_cons (ps_set (i := 3) sc__law_part.nd rfl (Or.inl rfl) (pe_op op_cat (pe_lc (own := [("_law_one", 4)]) (g := (gName 4)) (tt := tYes) rfl sc__law_part.nd (pi_tup (pe_ix ix_tup (pv 0) pe_int (fun _ _ => rfl))) (blkOk_by (own := [("_law_one", 4)]) (N := N__law_part) (sc := defScope s__law_part) (by decide +kernel)) (fun _ _ _ _ _ => (pg_name (i := 4) sc__law_part.nd rfl (Or.inl rfl))) (fun _ _ _ _ _ => pts_nil) (fun _ _ _ _ _ => (pe_ix (ix_tupK (K := K) rfl) (pv 4) pe_int (fun _ _ => rfl)))) (pe_lc (own := [("_law_one", 4)]) (g := (gName 4)) rfl sc__law_part.nd (pi_tup (pe_ix ix_tup (pv 0) pe_int (fun _ _ => rfl))) (blkOk_by (own := [("_law_one", 4)]) (N := N__law_part) (sc := defScope s__law_part) (by decide +kernel)) (fun _ _ _ _ _ => (pg_name (i := 4) sc__law_part.nd rfl (Or.inl rfl))) (fun _ _ _ _ _ => (pts_one (pt_cmpR op_ne (pe_ix (ix_tupK (K := K) rfl) (pv 4) pe_int (fun _ _ => rfl)) pe_str (nomark _)))) (fun _ _ _ _ _ => (pe_ix (ix_tupK (K := K) rfl) (pv 4) pe_int (fun _ _ => rfl))))))
    (pss_one (ps_ret (pe_callTy call_tuple_of (by rfl) T.tuple_ (by decide +kernel) (pa_cons (pe_lc (own := [("_law_one", 4), ("_law_sort", 5)]) (g := (gTup K 2 (gCons (gName 4) (gCons (gName 5) gNil)))) rfl sc__law_part.nd (pi_zipB true false (by rfl) T.zip_ (pa_cons (pv 1) (pa_cons (pv 3) pa_nil))) (blkOk_by (own := [("_law_one", 4), ("_law_sort", 5)]) (N := N__law_part) (sc := defScope s__law_part) (by decide +kernel)) (fun _ _ _ _ _ => (pg_tup rfl (pgs_cons (pg_name (i := 4) sc__law_part.nd rfl (Or.inl rfl)) (pgs_cons (pg_name (i := 5) sc__law_part.nd rfl (Or.inl rfl)) pgs_nil)))) (fun _ _ _ _ _ => (pts_one (pt_cmpR op_eq (pv 5) (pv 2) (nomark _)))) (fun _ _ _ _ _ => (pv 4))) pa_nil))))), ?_⟩)
  · obtain ⟨p, v, g, vg, k, rfl, _⟩ := h
    rfl
  · obtain ⟨p, v, g, vg, k, rfl, ⟨a, ah, al, ar, at_, hs, ls, rs, rfl, h0, h1, h2, h3, h4, h5, h6, h7⟩, hS, hL, ⟨pg, ws, rfl, hpg, pgs⟩, lg, q⟩ := h
    have lS := hS.len
    have lL := hL.len
    walk_at "go"
    refine ⟨⟨_, SqT.of h1⟩, fun D nD => ?_⟩
    refine lc_rel h2.walk (fun _ d v => v = .str d.so) (fun _ _ _ _ _ h => h) nD (by omega) (fun _ s => SqT.of (s _ _ h1)) (fun i x H2 H3 d Kf kf ed s2 y => ?_) (fun H2 acc s2 hD pr => ?_)
    · obtain ⟨rfl, e⟩ := y
      obtain ⟨d', pd, ed', rfl, hpd⟩ := (h2.ts (same_ts s2)).at e
      cases ed.symm.trans ed'
      have hpd : H3 pd = some (.tup [.str d.nm, .str d.so, .int d.sz]) := hpd
      walk_at "go"
      exact kf _ H3 (Same.refl _) rfl
    have ea := paired_map pr
    subst ea
    have h02 := s2 _ _ h0
    walk_at "go"
    refine ⟨⟨_, SqT.of (s2 _ _ h3)⟩, fun D2 nD2 => ?_⟩
    refine lc_inv (TupsL.walk h4) nD2 (by omega) (fun i acc _ => acc = (nonown (p.lists.take i)).map fun d => V.str d.so) (fun _ _ _ _ _ h => h) rfl (fun _ s => SqT.of (s _ _ (s2 _ _ h3))) ?_ ?_
    · rintro i x H3 H4 acc Kf Kn kf kn hi s3 rfl ⟨rfl, e⟩
      obtain ⟨d, pd, ed, rfl, hpd⟩ := (h4.ts (same_ts (s2.trans s3))).at e
      have hpd : H4 pd = some (.tup [.str d.nm, .str d.so, .int d.cells, .int d.wo, .int d.em]) := hpd
      walk_at "go"
      refine ite_b (fun b => ?_) (fun b => ?_)
      · have nown : ¬ d.so = "own" := fun z => by rw [z] at b; exact absurd b (by decide +kernel)
        walk_at "go"
        exact kf _ H4 (Same.refl _) (by rw [take_snoc ed, nonown_snoc1 nown, List.map_append]; rfl)
      · have nown : d.so = "own" := by
          have b : (!decide (V.str d.so = V.str "own")) = false := b
          rw [Bool.not_eq_false', decide_eq_true_eq] at b
          exact V.str.inj b
        exact kn H4 (Same.refl _) (by rw [take_snoc ed, nonown_snoc2 nown])
    · rintro H3 acc s3 hD3 la rfl
      rw [List.take_length] at hD3 la
      refine ⟨D, D2, _, _, rfl, rfl, s3 _ _ hD, hD3, sm_sz (by rw [List.length_map]; omega), fun R nR => ?_⟩
      have eR : (p.handed.map fun d => V.str d.so) ++ ((nonown p.lists).map fun d => V.str d.so) = (sorts p).map .str := by
        unfold sorts ptsP
        rw [List.map_append, List.map_append, List.map_map, List.map_map, List.map_map, List.map_map]
        rfl
      rw [eR]
      have s4 : Same H (upd H3 R (.lst ((sorts p).map .str))) := same_nw (s2.trans s3) nR
      walk_at "go"
      have lw : ws.length = ((sorts p).map V.str).length := by rw [← Paired.length pgs, List.length_map, lg]
      have lq : ws.length ≤ 100 := by
        rw [lw, List.length_map]
        unfold sorts ptsP
        have : (nonown p.lists).length ≤ p.lists.length := List.length_filter_le _ _
        rw [List.length_map, List.length_append, List.length_map, List.length_map]
        omega
      refine ⟨pg, R, ws, (sorts p).map .str, rfl, SqT.of (s4 _ _ hpg), SqL.of upd_same, fun D3 nD3 => ?_⟩
      refine lc_inv (walk_zipB (k1 := true) (k2 := false) lw) nD3 (by omega) (fun i acc H => Paired (PartAt H) ((((g.zip (sorts p)).take i).filter fun x => decide (x.2 = k)).map (·.1)) acc) (fun i acc H H' t h => Paired.mapP h fun _ _ z => z.ts t) .nil (fun H s => ⟨SqT.of (s _ _ (s4 _ _ hpg)), SqL.of (s _ _ upd_same)⟩) ?_ ?_
      · rintro i x H5 H6 acc Kf Kn kf kn hi s5 r ⟨T, x1, y1, rfl, nT, rfl, e1, e2⟩
        obtain ⟨gi, eg, pgi⟩ := Paired.at pgs e1
        have e2 : ((sorts p).map V.str)[i]? = some y1 := e2
        rw [List.getElem?_map] at e2
        obtain ⟨so, es, rfl⟩ := Option.map_eq_some_iff.mp e2
        have ez : (g.zip (sorts p))[i]? = some (gi, so) := List.getElem?_zip_eq_some.mpr ⟨eg, es⟩
        have s56 : Same H5 (upd H5 T (.tup [x1, .str so])) := same_nw (Same.refl _) nT
        have pg6 : PartAt (upd H5 T (.tup [x1, .str so])) gi x1 := pgi.ts (same_ts ((s4.trans s5).trans s56))
        have r6 := Paired.mapP r fun _ _ z => PartAt.ts (same_ts s56) z
        walk_at "go"
        refine ite_b (fun b => ?_) (fun b => ?_)
        · have e : so = k := V.str.inj (of_decide_eq_true b)
          walk_at "go"
          refine kf _ _ s56 ?_
          rw [take_snoc ez, List.filter_append, List.map_append, show [(gi, so)].filter (fun x => decide (x.2 = k)) = [(gi, so)] by simp [e]]
          exact paired_app r6 (.cons pg6 .nil)
        · have e : ¬ so = k := fun z => of_decide_eq_false b (by rw [z])
          refine kn _ s56 ?_
          rw [take_snoc ez, List.filter_append, List.map_append, show [(gi, so)].filter (fun x => decide (x.2 = k)) = [] by simp [e], List.map_nil, List.append_nil]
          exact r6
      · rintro H5 acc s5 hD5 la5 r
        have lz : (g.zip (sorts p)).length = ws.length := by rw [List.length_zip, lg, Nat.min_self, lw, List.length_map]
        rw [← lz, List.take_length] at r
        refine ⟨D3, acc, rfl, Or.inl ⟨SqL.of hD5, fun q5 nq => ?_⟩⟩
        exact q _ q5 acc (same_nw (s4.trans s5) nq) upd_same (Paired.mapP r fun _ _ z => z.ts (ts_nw (TS.refl _) nq))
theorem ok_law_moved (T : Tx mg) (D : DefAt K mg "_law_moved" s__law_moved) : C8.Cal P w K mg base 1 "_law_moved" sp_law_moved [] := by
  refine D.cal (k := 0) sc__law_moved (fun _ _ _ _ _ _ us hl => match us, hl with | [_, _, _], _ => rfl) (fun vs H Q E h => ?_) (fun f cdv A outer s H vs Q E hr h => ⟨_, (pss_cons (ps_set (i := 3) sc__law_moved.nd rfl (Or.inl rfl) (pe_lst pa_nil))
    (pss_cons (ps_for PassesOwn.never rfl (pi_zipB false false (by rfl) T.zip_ (pa_cons (pv 1) (pa_cons (pv 2) pa_nil))) (pg_tup rfl (pgs_cons (pg_name (i := 4) sc__law_moved.nd rfl (Or.inl rfl)) (pgs_cons (pg_name (i := 5) sc__law_moved.nd rfl (Or.inl rfl)) pgs_nil)))
    (pss_cons (ps_asg (pe_ix ix_tup (pe_ix ix_tup (pv 0) pe_int (fun _ _ => rfl)) (pv 4) (fun _ _ => rfl)) (pg_tup rfl (pgs_cons (pg_name (i := 6) sc__law_moved.nd rfl (Or.inl rfl)) (pgs_cons (pg_name (i := 7) sc__law_moved.nd rfl (Or.inl rfl)) (pgs_cons (pg_name (i := 8) sc__law_moved.nd rfl (Or.inl rfl)) (pgs_cons (pg_name (i := 9) sc__law_moved.nd rfl (Or.inl rfl)) (pgs_cons (pg_name (i := 10) sc__law_moved.nd rfl (Or.inl rfl)) pgs_nil)))))))
    (pss_one (ps_expr (pe_bm PySem.F.plainAttrs_list PySem.F.slot_list_append PySem.F.type_list_append mt_append (pv 3) (pa_cons (pe_tup (pa_cons (pv 6) (pa_cons (pv 7) (pa_cons (pv 8) (pa_cons (pv 9) (pa_cons (pv 5) pa_nil)))))) pa_nil))))))
    (pss_one (ps_ret (pe_op op_catA (pe_op op_catA (pe_slice sl_tupA (pv 0) po_none (po_some pe_int)) (pe_tup (pa_cons (pe_callTy call_tuple_of (by rfl) T.tuple_ (by decide +kernel) (pa_cons (pv 3) pa_nil)) pa_nil))) (pe_slice sl_tupA (pv 0) (po_some pe_int) po_none)))))), ?_⟩)
  · obtain ⟨p, v, o, g, po, pg, rfl, _⟩ := h
    rfl
  · obtain ⟨p, v, o, g, po, pg, rfl, ⟨a, ah, al, ar, at_, hs, ls, rs, rfl, h0, h1, h2, h3, h4, h5, h6, h7⟩, hpo, hpg, hl, h44, hr1, q⟩ := h
    have hlm : (o.map V.int).length = (g.map V.int).length := by rw [List.length_map, List.length_map, hl]
    have lz : (o.zip g).length = (o.map V.int).length := by rw [List.length_zip, List.length_map]; omega
    have wk : Walk (ItzB false false K po pg) (o.zip g).length (fun H => SqB false K H po (o.map V.int) ∧ SqB false K H pg (g.map V.int)) (YPair (fun i => (o.map V.int)[i]?) (fun i => (g.map V.int)[i]?)) := by
      rw [lz]
      exact walk_zipB hlm
    walk_at "go"
    rename_i L nL
    have s0 : Same H (upd H L (.lst [])) := same_nw (Same.refl _) nL
    refine ⟨po, pg, _, _, rfl, SqL.of (s0 _ _ hpo), SqL.of (s0 _ _ hpg), ?_⟩
    refine for_it wk (fun i σ H' => Same H H' ∧ ∃ acc o4 o5 o6 o7 o8 o9 o10, H' L = some (.lst acc) ∧ acc.length = i ∧ TupsL H' (((o.zip g).take i).map fun x => LD.vs { ldAt p.lists x.1 with em := x.2 }) acc ∧ σ = [some (.ref a), some (.ref po), some (.ref pg), some (.ref L), o4, o5, o6, o7, o8, o9, o10]) ?_ (fun i σ H' _ z => ⟨SqL.of (z.1 _ _ hpo), SqL.of (z.1 _ _ hpg)⟩) ?_ ?_
    · exact ⟨s0, [], _, _, _, _, _, _, _, upd_same, rfl, .nil, rfl⟩
    · rintro i x σ H2 H3 hi ⟨s2, acc, o4, o5, o6, o7, o8, o9, o10, hL, la, tl, rfl⟩ ⟨T1, x1, y1, rfl, nT, rfl, ex1, ey1⟩
      have hy : i < (o.zip g).length := hi
      obtain ⟨⟨io, ig⟩, ey⟩ : ∃ y, (o.zip g)[i]? = some y := ⟨_, List.getElem?_eq_getElem hy⟩
      obtain ⟨eo, eg⟩ := List.getElem?_zip_eq_some.mp ey
      have ex1 : (o.map V.int)[i]? = some x1 := ex1
      have ey1 : (g.map V.int)[i]? = some y1 := ey1
      rw [List.getElem?_map, eo] at ex1
      rw [List.getElem?_map, eg] at ey1
      cases ex1
      cases ey1
      obtain ⟨r0, r1⟩ := hr1 io (List.mem_of_getElem? eo)
      have s3 : Same H (upd H2 T1 (.tup [.int io, .int ig])) := same_nw s2 nT
      have s23 : Same H2 (upd H2 T1 (.tup [.int io, .int ig])) := same_nw (Same.refl _) nT
      have f0 := s3 _ _ h0
      have f3 := s3 _ _ h3
      have f4 := h4.ts (same_ts s3)
      have fT : (upd H2 T1 (.tup [.int io, .int ig])) T1 = some (.tup [.int io, .int ig]) := upd_same
      have hL3 := s23 _ _ hL
      have tl3 := tl.ts (same_ts s23)
      generalize upd H2 T1 (.tup [.int io, .int ig]) = H4 at s3 s23 f0 f3 f4 fT hL3 tl3 ⊢
      have li : io.toNat < p.lists.length := by omega
      obtain ⟨vd, evd, pd, rfl, hd⟩ := Paired.one f4 (show (p.lists.map LD.vs)[io.toNat]? = some (LD.vs (ldAt p.lists io)) by
        rw [List.getElem?_map, List.getElem?_eq_getElem li]
        unfold ldAt
        rw [List.getD_eq_getElem?_getD, List.getElem?_eq_getElem li]
        rfl)
      have ixl : atI ls io = some (.ref pd) := by
        rw [← Int.toNat_of_nonneg r0]
        exact atI_nat evd
      have hd' : H4 pd = some (.tup [.str (ldAt p.lists io).nm, .str (ldAt p.lists io).so, .int (ldAt p.lists io).cells, .int (ldAt p.lists io).wo, .int (ldAt p.lists io).em]) := hd
      walk_at "go"
      refine ⟨_, _, _, _, rfl, rfl, SqT.of f3, ixl, ?_⟩
      walk_at "go"
      refine ⟨.inl ⟨rfl, _, SqL.of hL3⟩, ?_⟩
      walk_at "go"
      rename_i p9 n9
      refine ⟨_, _, _, rfl, rfl, upd_get n9 hL3, sm_lt (by have := h44; rw [List.length_zip] at hy; omega), ?_⟩
      have t9 : TS H4 (upd (upd H4 p9 (.tup (LD.vs { ldAt p.lists io with em := ig }))) L (.lst (acc ++ [.ref p9]))) := ts_mut (ts_nw (TS.refl _) n9) (upd_get n9 hL3) (fun _ z => nomatch z)
      refine ⟨same_mut (same_nw s3 n9) nL, acc ++ [.ref p9], _, _, _, _, _, _, _, upd_same, by rw [List.length_append, la]; rfl, ?_, rfl⟩
      rw [take_snoc ey, List.map_append]
      exact paired_app (TupsL.ts t9 tl3) (.cons ⟨p9, rfl, upd_mut (Ne.symm (ne_of_none hL3 n9)) upd_same⟩ .nil)
    · rintro σ H2 ⟨s2, acc, o4, o5, o6, o7, o8, o9, o10, hL, la, tl, rfl⟩
      rw [List.take_length] at tl
      have g0 := s2 _ _ h0
      walk_at "go"
      refine ⟨_, _, rfl, SqT.of g0, (fun e => absurd e.2 (show ¬ HT.sIx 4 4 (some 1) = 4 by decide +kernel)), fun _ p6 n6 => ?_⟩
      refine ⟨_, rfl, L, acc, rfl, .inl ⟨SqL.of (upd_get n6 hL), fun l nl => ?_⟩⟩
      walk_at "go"
      rename_i p7 n7
      refine catA_1 (z := .ref l) (upd_get n7 (upd_get nl upd_same)) upd_same (Nat.le_of_ble_eq_true rfl) fun p8 H8 s8 h8 => ?_
      have s28 : Same H2 H8 := (((same_nw (Same.refl _) n6).trans (same_nw (Same.refl _) nl)).trans (same_nw (Same.refl _) n7)).trans s8
      have g8 := s28 _ _ g0
      have l8 := s8 _ _ (upd_get n7 upd_same)
      walk_at "go"
      refine ⟨_, _, rfl, SqT.of g8, (fun e => absurd e.1 (show ¬ HT.sIx 4 0 (some 2) = 0 by decide +kernel)), fun _ q6 m6 => ?_⟩
      refine ⟨p8, q6, _, _, rfl, rfl, SqT.of (upd_get m6 h8), SqT.of upd_same, sm_sz (Nat.le_of_ble_eq_true rfl), fun e => absurd e (List.cons_ne_nil _ _), fun _ e => absurd e (List.cons_ne_nil _ _), fun _ _ r nr => ?_⟩
      have sf8 := (same_nw (o := .tup [.ref ar, .ref at_]) (Same.refl _) m6).trans (same_nw (o := .tup [.ref ah, .ref l, .ref ar, .ref at_]) (Same.refl _) nr)
      have sf2 := s28.trans sf8
      have sf := s2.trans sf2
      refine q _ _ sf ⟨r, ah, l, ar, at_, hs, acc, rs, rfl, upd_same, sf _ _ h1, h2.ts (same_ts sf), sf8 _ _ l8, ?_, sf _ _ h5, h6.ts (same_ts sf), sf _ _ h7⟩
      show TupsL _ (((o.zip g).map fun x => { ldAt p.lists x.1 with em := x.2 }).map LD.vs) acc
      rw [List.map_map]
      exact TupsL.ts (same_ts sf2) tl
end
end NW
/-! ## Walks: the law draws operands -/
namespace NW
open PySem PySem.Spec PyProof.Rows L2
set_option pp.maxSteps 150
-- an object's place in a heap
local macro_rules | `(tactic| walk_at "hp") => `(tactic| (show _ = some _; first
  | assumption
  | exact upd_same
  | (refine' upd_get ?n ?h; (case n => assumption); (case h => walk_at "hp"))
  | (refine' same_get ?n ?h; (case n => assumption); (case h => walk_at "hp"))))
-- a heap that has grown
local macro_rules | `(tactic| walk_at "sm") => `(tactic| first
  | assumption
  | exact Same.refl _
  | (refine' same_nw ?n ?h; (case h => assumption); (case n => walk_at "sm"))
  | (refine' Same.trans ?n ?h; (case h => assumption); (case n => walk_at "sm")))
local macro_rules | `(tactic| walk_at "ty") => `(tactic| first
  | exact TyN.int _
  | exact TyN.str _
  | exact TyN.non
  | (refine' TyN.tup ?h; (case h => walk_at "hp"))
  | (refine' TyN.lst ?h; (case h => walk_at "hp")))
-- a test whose answer is known
local macro_rules | `(tactic| walk_at "if") => `(tactic| first
  | (refine iteB (by decide +kernel) ?_)
  | (refine iteN (by decide +kernel) ?_)
  | (refine iteB (by rfl) ?_)
  | (refine iteN (by rfl) ?_)
  | (refine iteB (decide_eq_true (by first | omega | assumption)) ?_)
  | (refine iteN (decide_eq_false (by first | omega | assumption)) ?_)
  | (refine iteB (by simp only [Bool.not_eq_true', Bool.not_eq_false', Bool.and_eq_true, Bool.and_eq_false_iff, Bool.or_eq_true, Bool.or_eq_false_iff, decide_eq_true_eq, decide_eq_false_iff_not]; omega) ?_)
  | (refine iteN (by simp only [Bool.not_eq_true', Bool.not_eq_false', Bool.and_eq_true, Bool.and_eq_false_iff, Bool.or_eq_true, Bool.or_eq_false_iff, decide_eq_true_eq, decide_eq_false_iff_not]; omega) ?_))
-- one step of a reading
local macro_rules | `(tactic| walk_at "s") => `(tactic| first
  | refine ⟨_, rfl, ?_⟩
  | refine ⟨_, _, rfl, rfl, ?_⟩
  | refine And.intro (show wipe _ _ = wipe _ _ by kernel_rfl) ?_
  | refine And.intro rfl ?_
  | (refine' ⟨_, _, _, _, rfl, rfl, SqT.of ?h, ?e, ?_⟩; (case h => walk_at "hp"); (case e => exact rfl))
  | (refine' ⟨_, _, rfl, ?t, ?_⟩; (case t => walk_at "ty"))
  | (refine' ⟨_, _, rfl, SqT.of ?h, ?e, ?_⟩; (case h => walk_at "hp"); (case e => exact rfl))
  | refine ⟨_, _, rfl, ?_⟩
  | (refine' ⟨_, _, _, rfl, rfl, ?h1, ?h2, ?_⟩; (case h1 => walk_at "hp"); (case h2 => walk_at "hp"))
  | (refine' ⟨_, _, _, _, rfl, rfl, SqL.of ?h, ?e, ?_⟩; (case h => walk_at "hp"); (case e => exact rfl))
  | (refine' ⟨_, _, rfl, Or.inr (SqT.of ?h), ?_⟩; (case h => walk_at "hp"))
  | (refine' ⟨_, _, rfl, Or.inr (SqT.of ?h), rfl, rfl, ?_⟩; (case h => walk_at "hp"))
  | (refine' ⟨_, _, rfl, Or.inl (SqL.of ?h), ?_⟩; (case h => walk_at "hp"))
  | refine And.intro (flat_strs _) ?_
  | (refine And.intro (sm_sz (Nat.le_of_ble_eq_true rfl)) ?_; intro p np)
  | walk_at "if"
  | (refine' And.intro ?a ?_; (case a => first | assumption | exact sm_sz (by omega) | omega | exact Or.inr ⟨by omega, by omega⟩ | exact Or.inl ⟨by omega, by omega⟩ | exact ⟨by omega, by omega⟩))
  | refine Or.inl ⟨_, _, _, rfl, ?_⟩
  | refine Or.inr ⟨_, _, _, rfl, ?_⟩
  | (intro Hn sn))
local macro_rules | `(tactic| walk_at "go") => `(tactic| repeat (walk_at "s"))

abbrev s__law_operand : Stmt := topS 84
abbrev N__law_operand : List Str := ["_law_state", "_law_names"]
abbrev P__law_operand : List Str := ["_law_state", "_law_names"]
theorem sc__law_operand : FnScope N__law_operand P__law_operand (defScope s__law_operand) := ⟨rfl, rfl, rfl, by decide +kernel, rfl, by decide +kernel, by decide +kernel⟩

def NMS : List Str := ["h", "a", "x", "y"]
def KpX (st : Addr) (H H' : Hp) : Prop := ∀ a u, a ≠ st → H a = some u → H' a = some u
def sp_law_operand (K : PySem.W.Frag) : Sp := fun vs H Q _ => ∃ (st sc nm : Addr) (xs : List Int) (y c : Int), vs = [.ref st, .ref nm] ∧ DrawAt K H st sc xs y c ∧ c < 999990 ∧ H nm = some (.lst (NMS.map .str)) ∧
  ∀ (o : Opd) H' c', okO o → KpX st H H' → DrawAt K H' st sc xs y c' → c' ≤ c + 2 → Q o.v H'
section
variable {P : Program} {w : World} {K : PySem.W.Frag} {mg : Str → Option Value} {base : Heap}
theorem ok_law_operand (T : Tx mg) (D : DefAt K mg "_law_operand" s__law_operand) (c__law_next : C8.Cal P w K mg base 3 "_law_next" (sp_law_next K) []) : C8.Cal P w K mg base 4 "_law_operand" (sp_law_operand K) [] := by
  refine D.cal (k := 3) sc__law_operand (fun _ _ _ _ _ _ us hl => match us, hl with | [_, _], _ => rfl) (fun vs H Q E h => ?_) (fun f cdv A outer s H vs Q E hr h => ⟨_, (pss_cons (ps_if (pt_cmpR op_eq (C8.pe_c c__law_next hr (by omega) (by rfl) (pa_cons (pv 0) (pa_cons pe_int pa_nil))) pe_int (nomark _)) (pss_one (ps_ret (pe_ix ix_tup (pe_tup (pa_cons pe_int (pa_cons pe_int (pa_cons pe_int (pa_cons pe_int (pa_cons pe_int pa_nil)))))) (C8.pe_c c__law_next hr (by omega) (by rfl) (pa_cons (pv 0) (pa_cons pe_int pa_nil))) (fun _ _ => rfl))))
    pss_nil)
    (pss_one (ps_ret (pe_ix ix_list (pv 1) (C8.pe_c c__law_next hr (by omega) (by rfl) (pa_cons (pv 0) (pa_cons (pe_callB call_len_seq (by rfl) T.len_ PySem.boot_len (pa_cons (pv 1) pa_nil)) pa_nil))) (fun _ _ => rfl))))), ?_⟩)
  · obtain ⟨st, sc, nm, xs, y, c, rfl, _⟩ := h
    rfl
  · obtain ⟨st, sc, nm, xs, y, c, rfl, hd, hc, hn, q⟩ := h
    walk_at "go"
    refine ⟨st, sc, xs, y, c, 3, rfl, hd, by omega, by decide, by decide, fun i H1 i0 i1 k1 hd1 => ?_⟩
    have nst : nm ≠ st := ne_of hn hd.1 (fun z => nomatch (List.cons.inj (HO.lst.inj z)).1)
    have hn1 := k1 _ _ nst hn
    walk_at "go"
    refine ite_b (fun b => ?_) (fun b => ?_)
    · walk_at "go"
      rename_i p2 n2
      have nst2 : st ≠ p2 := ne_of_none hd1.1 n2
      have hd2 : DrawAt K (upd H1 p2 (.tup [.int 0, .int 1, .int 2, .int 3, .int 255])) st sc xs y (c + 1) := ⟨upd_get n2 hd1.1, sqL_keep (fun a u _ e => upd_get n2 e) hd1.1 hd1.2.1, hd1.2.2⟩
      refine ⟨st, sc, xs, y, c + 1, 5, rfl, hd2, by omega, by decide, by decide, fun j H2 j0 j1 k2 hd3 => ?_⟩
      have hp2 := k2 _ _ (Ne.symm nst2) upd_same
      have jj : j = 0 ∨ j = 1 ∨ j = 2 ∨ j = 3 ∨ j = 4 := by omega
      have fin : ∀ z : Int, 0 ≤ z → z ≤ 255 → Q (.int z) H2 := fun z z0 z1 => q (.n z) H2 (c + 1 + 1) ⟨z0, z1⟩ (fun a u n e => k2 _ _ n (upd_get n2 (k1 a u n e))) hd3 (by omega)
      rcases jj with rfl | rfl | rfl | rfl | rfl
      · exact ⟨_, _, _, _, rfl, rfl, SqT.of hp2, rfl, fin _ (by decide) (by decide)⟩
      · exact ⟨_, _, _, _, rfl, rfl, SqT.of hp2, rfl, fin _ (by decide) (by decide)⟩
      · exact ⟨_, _, _, _, rfl, rfl, SqT.of hp2, rfl, fin _ (by decide) (by decide)⟩
      · exact ⟨_, _, _, _, rfl, rfl, SqT.of hp2, rfl, fin _ (by decide) (by decide)⟩
      · exact ⟨_, _, _, _, rfl, rfl, SqT.of hp2, rfl, fin _ (by decide) (by decide)⟩
    · walk_at "go"
      refine ⟨st, sc, xs, y, c + 1, 4, rfl, hd1, by omega, by decide, by decide, fun j H2 j0 j1 k2 hd3 => ?_⟩
      have hn2 := k2 _ _ nst hn1
      have jj : j = 0 ∨ j = 1 ∨ j = 2 ∨ j = 3 := by omega
      have fin : ∀ z : Str, okN z → Q (.str z) H2 := fun z hz => q (.s z) H2 (c + 1 + 1) hz (fun a u n e => k2 _ _ n (k1 a u n e)) hd3 (by omega)
      rcases jj with rfl | rfl | rfl | rfl
      · exact ⟨_, _, _, _, rfl, rfl, SqL.of hn2, rfl, fin _ (Or.inl rfl)⟩
      · exact ⟨_, _, _, _, rfl, rfl, SqL.of hn2, rfl, fin _ (Or.inr (Or.inl rfl))⟩
      · exact ⟨_, _, _, _, rfl, rfl, SqL.of hn2, rfl, fin _ (Or.inr (Or.inr (Or.inl rfl)))⟩
      · exact ⟨_, _, _, _, rfl, rfl, SqL.of hn2, rfl, fin _ (Or.inr (Or.inr (Or.inr rfl)))⟩
end
end NW
/-! ## Walks: the law draws rows -/
namespace NW
open PySem PySem.Spec PyProof.Rows L2
set_option pp.maxSteps 150
-- an object's place in a heap
local macro_rules | `(tactic| walk_at "hp") => `(tactic| (show _ = some _; first
  | assumption
  | exact upd_same
  | (refine' upd_get ?n ?h; (case n => assumption); (case h => walk_at "hp"))
  | (refine' same_get ?n ?h; (case n => assumption); (case h => walk_at "hp"))))
-- a heap that has grown
local macro_rules | `(tactic| walk_at "sm") => `(tactic| first
  | assumption
  | exact Same.refl _
  | (refine' same_nw ?n ?h; (case h => assumption); (case n => walk_at "sm"))
  | (refine' Same.trans ?n ?h; (case h => assumption); (case n => walk_at "sm")))
local macro_rules | `(tactic| walk_at "ty") => `(tactic| first
  | exact TyN.int _
  | exact TyN.str _
  | exact TyN.non
  | (refine' TyN.tup ?h; (case h => walk_at "hp"))
  | (refine' TyN.lst ?h; (case h => walk_at "hp")))
-- a test whose answer is known
local macro_rules | `(tactic| walk_at "if") => `(tactic| first
  | (refine iteB (by decide +kernel) ?_)
  | (refine iteN (by decide +kernel) ?_)
  | (refine iteB (by rfl) ?_)
  | (refine iteN (by rfl) ?_)
  | (refine iteB (decide_eq_true (by first | omega | assumption)) ?_)
  | (refine iteN (decide_eq_false (by first | omega | assumption)) ?_)
  | (refine iteB (by simp only [Bool.not_eq_true', Bool.not_eq_false', Bool.and_eq_true, Bool.and_eq_false_iff, Bool.or_eq_true, Bool.or_eq_false_iff, decide_eq_true_eq, decide_eq_false_iff_not]; omega) ?_)
  | (refine iteN (by simp only [Bool.not_eq_true', Bool.not_eq_false', Bool.and_eq_true, Bool.and_eq_false_iff, Bool.or_eq_true, Bool.or_eq_false_iff, decide_eq_true_eq, decide_eq_false_iff_not]; omega) ?_))
-- one step of a reading
local macro_rules | `(tactic| walk_at "s") => `(tactic| first
  | refine ⟨_, rfl, ?_⟩
  | refine ⟨_, _, rfl, rfl, ?_⟩
  | refine And.intro (show wipe _ _ = wipe _ _ by kernel_rfl) ?_
  | refine And.intro rfl ?_
  | (refine' ⟨_, _, _, _, rfl, rfl, SqT.of ?h, ?e, ?_⟩; (case h => walk_at "hp"); (case e => exact rfl))
  | (refine' ⟨_, _, rfl, ?t, ?_⟩; (case t => walk_at "ty"))
  | (refine' ⟨_, _, rfl, SqT.of ?h, ?e, ?_⟩; (case h => walk_at "hp"); (case e => exact rfl))
  | refine ⟨_, _, rfl, ?_⟩
  | (refine' ⟨_, _, _, rfl, rfl, ?h1, ?h2, ?_⟩; (case h1 => walk_at "hp"); (case h2 => walk_at "hp"))
  | (refine' ⟨_, _, _, _, rfl, rfl, SqL.of ?h, ?e, ?_⟩; (case h => walk_at "hp"); (case e => exact rfl))
  | (refine' ⟨_, _, rfl, Or.inr (SqT.of ?h), ?_⟩; (case h => walk_at "hp"))
  | (refine' ⟨_, _, rfl, Or.inr (SqT.of ?h), rfl, rfl, ?_⟩; (case h => walk_at "hp"))
  | (refine' ⟨_, _, rfl, Or.inl (SqL.of ?h), ?_⟩; (case h => walk_at "hp"))
  | refine And.intro (flat_strs _) ?_
  | (refine And.intro (sm_sz (Nat.le_of_ble_eq_true rfl)) ?_; intro p np)
  | walk_at "if"
  | (refine' And.intro ?a ?_; (case a => first | assumption | exact sm_sz (by omega) | omega | exact Or.inr ⟨by omega, by omega⟩ | exact Or.inl ⟨by omega, by omega⟩ | exact ⟨by omega, by omega⟩))
  | refine Or.inl ⟨_, _, _, rfl, ?_⟩
  | refine Or.inr ⟨_, _, _, rfl, ?_⟩
  | (intro Hn sn))
local macro_rules | `(tactic| walk_at "go") => `(tactic| repeat (walk_at "s"))

abbrev s__law_row : Stmt := topS 85
abbrev N__law_row : List Str := ["_law_state", "_law_names", "_law_lists", "_law_deep", "_law_sort", "_law_name", "_law_place", "_law_one", "_law_two", "_law_three", "_law_rows_here", "_law_deeds"]
abbrev P__law_row : List Str := ["_law_state", "_law_names", "_law_lists", "_law_deep"]
theorem sc__law_row : FnScope N__law_row P__law_row (defScope s__law_row) := ⟨rfl, rfl, rfl, by decide +kernel, rfl, by decide +kernel, by decide +kernel⟩

abbrev s__law_rows : Stmt := topS 86
abbrev N__law_rows : List Str := ["_law_state", "_law_names", "_law_lists", "_law_deep", "_law_amount", "_law_part_here"]
abbrev P__law_rows : List Str := ["_law_state", "_law_names", "_law_lists", "_law_deep", "_law_amount"]
theorem sc__law_rows : FnScope N__law_rows P__law_rows (defScope s__law_rows) := ⟨rfl, rfl, rfl, by decide +kernel, rfl, by decide +kernel, by decide +kernel⟩

/-- how often a row draws, k blocks below it -/
def bud : Nat → Int
  | 0 => 12
  | k + 1 => 14 + 3 * bud k
def sp_law_row (K : PySem.W.Frag) (k : Nat) : Sp := fun vs H Q _ => ∃ (st sc nm lt : Addr) (xs : List Int) (y c : Int) (ls : List Str), vs = [.ref st, .ref nm, .ref lt, .int (3 - (k : Int))] ∧ DrawAt K H st sc xs y c ∧ c + bud k < 900000 ∧ H nm = some (.lst (NMS.map .str)) ∧ H lt = some (.lst (ls.map .str)) ∧ ls.length ≤ 2 ∧
  ∀ (r : Row) v H' c', okRow ls k r → KpX st H H' → DrawAt K H' st sc xs y c' → c' ≤ c + bud k → RowAt H' r v → Q v H'
def sp_law_rows (K : PySem.W.Frag) (k : Nat) : Sp := fun vs H Q _ => ∃ (st sc nm lt : Addr) (xs : List Int) (y c : Int) (ls : List Str) (n : Nat), vs = [.ref st, .ref nm, .ref lt, .int (3 - (k : Int)), .int n] ∧ n ≤ 5 ∧ DrawAt K H st sc xs y c ∧ c + n * bud k < 900000 ∧ H nm = some (.lst (NMS.map .str)) ∧ H lt = some (.lst (ls.map .str)) ∧ ls.length ≤ 2 ∧
  ∀ (rs : Rows) v H' c', okRows ls k rs → rs.len = n → KpX st H H' → DrawAt K H' st sc xs y c' → c' ≤ c + n * bud k → RowsAt H' rs v → Q v H'
theorem KpX.ts {st : Addr} {H H' : Hp} {zs : List V} (k : KpX st H H') (h : H st = some (.lst zs)) : TS H H' := fun a xs e => k a _ (ne_of e h (fun z => nomatch z)) e
theorem DrawAt.same {K : PySem.W.Frag} {H H' : Hp} {st sc : Addr} {xs : List Int} {y c : Int} (h : DrawAt K H st sc xs y c) (s : Same H H') : DrawAt K H' st sc xs y c := ⟨s _ _ h.1, sqL_keep (fun a u _ e => s a u e) h.1 h.2.1, h.2.2⟩
theorem DrawAt.nw {K : PySem.W.Frag} {H : Hp} {p st sc : Addr} {o : HO} {xs : List Int} {y c : Int} (h : DrawAt K H st sc xs y c) (n : H p = none) : DrawAt K (upd H p o) st sc xs y c := h.same (same_nw (Same.refl _) n)
def mkRows : List Row → Rows
  | [] => .nil
  | r :: l => .cons r (mkRows l)
theorem mkRows_list : ∀ l, (mkRows l).list = l
  | [] => rfl
  | r :: l => congrArg (r :: ·) (mkRows_list l)
theorem mkRows_len (l : List Row) : (mkRows l).len = l.length := by rw [← Rows.list_len, mkRows_list]
theorem mkRows_ok {ls : List Str} {k : Nat} : ∀ {l : List Row}, (∀ r ∈ l, okRow ls k r) → okRows ls k (mkRows l)
  | [], _ => True.intro
  | _ :: _, h => ⟨h _ List.mem_cons_self, mkRows_ok fun r m => h r (List.mem_cons_of_mem _ m)⟩
theorem mkRows_at {H : Hp} : ∀ {l : List Row} {vs : List V}, Paired (RowAt H) l vs → RowsL H (mkRows l) vs
  | _, _, .nil => rfl
  | _, _, .cons h t => ⟨_, _, rfl, h, mkRows_at t⟩
theorem sqL_updD {K : PySem.W.Frag} {H0 H4 : Hp} {D sc : Addr} {o : HO} {X : List V} (n : H0 D = none) (h0 : SqL K H0 sc X) (h4 : SqL K H4 sc X) : SqL K (upd H4 D o) sc X := by
  have ne : ∀ {u : HO}, H0 sc = some u → SqL K (upd H4 D o) sc X := fun e => by
    have d : sc ≠ D := ne_of_none e n
    rcases h4 with (q | ⟨o, q⟩) | q
    · exact Or.inl (Or.inl (upd_mut d q))
    · exact Or.inl (Or.inr ⟨o, upd_mut d q⟩)
    · exact Or.inr q
  rcases h0 with (q | ⟨o, q⟩) | q
  · exact ne q
  · exact ne q
  · exact Or.inr q
theorem ite_join {b : Bool} {A B : Prop} (h1 : b = true → B → A) (h : B) : if b = true then A else B := ite_b (fun e => h1 e h) (fun _ => h)
def sp_law_below (K : PySem.W.Frag) : Nat → Sp
  | 0 => fun _ _ _ _ => False
  | k + 1 => sp_law_rows K k
theorem bud_pos : ∀ k, 12 ≤ bud k
  | 0 => Int.le_refl _
  | k + 1 => by
    have := bud_pos k
    show 12 ≤ 14 + 3 * bud k
    omega
section
variable {P : Program} {w : World} {K : PySem.W.Frag} {mg : Str → Option Value} {base : Heap}
theorem ok_law_row {k : Nat} (T : Tx mg) (D : DefAt K mg "_law_row" s__law_row) (c__law_next : C8.Cal P w K mg base 3 "_law_next" (sp_law_next K) []) (c__law_operand : C8.Cal P w K mg base 4 "_law_operand" (sp_law_operand K) []) (c__law_rows : C8.Cal P w K mg base (4 + 2 * k) "_law_rows" (sp_law_below K k) []) :
    C8.Cal P w K mg base (5 + 2 * k) "_law_row" (sp_law_row K k) [] := by
  refine Cal.mono (j := 5 + 2 * k) (D.cal (k := 4 + 2 * k) sc__law_row (fun _ _ _ _ _ _ us hl => match us, hl with | [_, _, _, _], _ => rfl) (fun vs H Q E h => ?_) (fun f cdv A outer s H vs Q E hr h => ⟨_, (C8.pss_cut (ps_set (i := 4) sc__law_row.nd rfl (Or.inl rfl) (C8.pe_c c__law_next hr (by omega) (by rfl) (pa_cons (pv 0) (pa_cons (pe_ifExp (pt_cmpR (op_neNilL hr.units) (pv 2) (pe_lst pa_nil) (nomark _)) pe_int pe_int) pa_nil))))
    (pss_cons (ps_par3 (i := 7) (j := 8) (l := 9) rfl sc__law_row.nd rfl rfl rfl (by decide) (by decide) (by decide) rfl rfl rfl (pa_cons (C8.pe_c c__law_operand hr (by omega) (by rfl) (pa_cons (pv 0) (pa_cons (pv 1) pa_nil))) (pa_cons (C8.pe_c c__law_operand hr (by omega) (by rfl) (pa_cons (pv 0) (pa_cons (pv 1) pa_nil))) (pa_cons (C8.pe_c c__law_operand hr (by omega) (by rfl) (pa_cons (pv 0) (pa_cons (pv 1) pa_nil))) pa_nil))) (by rfl))
    (pss_cons (ps_set (i := 5) sc__law_row.nd rfl (Or.inl rfl) (pe_ix ix_list (pv 1) (C8.pe_c c__law_next hr (by omega) (by rfl) (pa_cons (pv 0) (pa_cons (pe_callB call_len_seq (by rfl) T.len_ PySem.boot_len (pa_cons (pv 1) pa_nil)) pa_nil))) (fun _ _ => rfl)))
    (pss_cons (ps_if (PW.pt (pw_and (pt_cmpR op_lt (pv 4) pe_int (nomark _)) (pw_and1 (pt_cmpR op_lt (pv 3) pe_int (nomark _))))) (pss_cons (ps_set (i := 10) sc__law_row.nd rfl (Or.inl rfl) (C8.pe_c c__law_rows hr (by omega) (by rfl) (pa_cons (pv 0) (pa_cons (pv 1) (pa_cons (pv 2) (pa_cons (pe_op op_add (pv 3) pe_int) (pa_cons (pe_op op_add pe_int (C8.pe_c c__law_next hr (by omega) (by rfl) (pa_cons (pv 0) (pa_cons pe_int pa_nil)))) pa_nil)))))))
    (pss_cons (ps_if (pt_cmpR op_eq (pv 4) pe_int (nomark _)) (pss_one (ps_ret (pe_tup (pa_cons pe_str (pa_cons (pv 7) (pa_cons (C8.pe_c c__law_next hr (by omega) (by rfl) (pa_cons (pv 0) (pa_cons pe_int pa_nil))) (pa_cons (pv 10) pa_nil)))))))
    pss_nil)
    (pss_one (ps_ret (pe_tup (pa_cons pe_str (pa_cons (pv 7) (pa_cons (pv 10) (pa_cons (C8.pe_c c__law_rows hr (by omega) (by rfl) (pa_cons (pv 0) (pa_cons (pv 1) (pa_cons (pv 2) (pa_cons (pe_op op_add (pv 3) pe_int) (pa_cons (C8.pe_c c__law_next hr (by omega) (by rfl) (pa_cons (pv 0) (pa_cons pe_int pa_nil))) pa_nil)))))) pa_nil)))))))))
    pss_nil)
    (pss_cons (ps_if (pt_cmpR op_lt (pv 4) pe_int (nomark _)) (pss_cons (ps_set (i := 11) sc__law_row.nd rfl (Or.inl rfl) (pe_tup (pa_cons pe_str (pa_cons pe_str (pa_cons pe_str (pa_cons pe_str (pa_cons pe_str (pa_cons pe_str (pa_cons pe_str (pa_cons pe_str (pa_cons pe_str pa_nil)))))))))))
    (pss_one (ps_ret (pe_tup (pa_cons pe_str (pa_cons (pv 5) (pa_cons (pe_ix ix_tup (pv 11) (C8.pe_c c__law_next hr (by omega) (by rfl) (pa_cons (pv 0) (pa_cons pe_int pa_nil))) (fun _ _ => rfl)) (pa_cons (pv 7) (pa_cons (pv 8) pa_nil)))))))))
    pss_nil)
    (pss_cons (ps_if (pt_cmpR op_eq (pv 4) pe_int (nomark _)) (pss_one (ps_ret (pe_tup (pa_cons pe_str (pa_cons (pv 5) (pa_cons (pv 7) (pa_cons (pv 8) (pa_cons (pv 9) pa_nil))))))))
    pss_nil)
    (pss_cons (ps_if (pt_cmpR op_eq (pv 4) pe_int (nomark _)) (pss_one (ps_ret (pe_ifExp (pt_cmpR op_eq (C8.pe_c c__law_next hr (by omega) (by rfl) (pa_cons (pv 0) (pa_cons pe_int pa_nil))) pe_int (nomark _)) (pe_tup (pa_cons pe_str (pa_cons (pv 7) pa_nil))) (pe_tup (pa_cons pe_str (pa_cons (pv 5) (pa_cons pe_str (pa_cons (pv 7) (pa_cons (pv 8) pa_nil)))))))))
    pss_nil)
    (pss_cons (ps_set (i := 6) sc__law_row.nd rfl (Or.inl rfl) (pe_ix ix_list (pv 2) (C8.pe_c c__law_next hr (by omega) (by rfl) (pa_cons (pv 0) (pa_cons (pe_callB call_len_seq (by rfl) T.len_ PySem.boot_len (pa_cons (pv 2) pa_nil)) pa_nil))) (fun _ _ => rfl)))
    (pss_one (ps_ret (pe_ifExp (pt_cmpR op_eq (C8.pe_c c__law_next hr (by omega) (by rfl) (pa_cons (pv 0) (pa_cons pe_int pa_nil))) pe_int (nomark _)) (pe_tup (pa_cons pe_str (pa_cons (pv 5) (pa_cons (pv 6) (pa_cons (pv 7) pa_nil))))) (pe_tup (pa_cons pe_str (pa_cons (pv 6) (pa_cons (pv 7) (pa_cons (pv 8) pa_nil)))))))))))))))), ?_⟩)) (by omega)
  · obtain ⟨st, sc, nm, lt, xs, y, c, ls, rfl, _⟩ := h
    rfl
  · obtain ⟨st, sc, nm, lt, xs, y, c, ls, rfl, hd, hc, hn, hl, l2, q⟩ := h
    have b12 : 12 ≤ bud k := bud_pos k
    have nst : nm ≠ st := ne_of hn hd.1 (fun z => nomatch (List.cons.inj (HO.lst.inj z)).1)
    have lst_ : lt ≠ st := fun e => by
      subst e
      rw [hd.1] at hl
      cases ls with
      | nil => cases hl
      | cons l ls => cases hl
    refine ⟨fun σ' H1 => ∃ i : Int, σ' = [some (.ref st), some (.ref nm), some (.ref lt), some (.int (3 - (k : Int))), some (.int i), none, none, none, none, none, none, none] ∧ 0 ≤ i ∧ (i < 7 ∨ (ls ≠ [] ∧ i < 12)) ∧ KpX st H H1 ∧ DrawAt K H1 st sc xs y (c + 1), ?_, ?_⟩
    · walk_at "go"
      rename_i p0 n0
      have hd0 : DrawAt K (upd H p0 (.lst [])) st sc xs y c := ⟨upd_get n0 hd.1, sqL_keep (fun a u _ e => upd_get n0 e) hd.1 hd.2.1, hd.2.2⟩
      refine ite_b (fun b => ?_) (fun b => ?_)
      · refine ⟨st, sc, xs, y, c, 12, rfl, hd0, by omega, by decide, by decide, fun i H1 i0 i1 k1 hd1 => ⟨i, rfl, i0, Or.inr ⟨fun e => ?_, i1⟩, fun a u n e => k1 a u n (upd_get n0 e), hd1⟩⟩
        rw [e] at b
        cases b
      · exact ⟨st, sc, xs, y, c, 7, rfl, hd0, by omega, by decide, by decide, fun i H1 i0 i1 k1 hd1 => ⟨i, rfl, i0, Or.inl i1, fun a u n e => k1 a u n (upd_get n0 e), hd1⟩⟩
    rintro σ' H1 ⟨i, rfl, i0, hi, k01, hd1⟩
    have hn1 := k01 _ _ nst hn
    have hl1 := k01 _ _ lst_ hl
    walk_at "go"
    refine ⟨st, sc, nm, xs, y, c + 1, rfl, hd1, by omega, hn1, fun o1 H2 c2 ok1 k2 hd2 lc2 => ?_⟩
    have hn2 := k2 _ _ nst hn1
    have hl2 := k2 _ _ lst_ hl1
    walk_at "go"
    refine ⟨st, sc, nm, xs, y, c2, rfl, hd2, by omega, hn2, fun o2 H3 c3 ok2 k3 hd3 lc3 => ?_⟩
    have hn3 := k3 _ _ nst hn2
    have hl3 := k3 _ _ lst_ hl2
    walk_at "go"
    refine ⟨st, sc, nm, xs, y, c3, rfl, hd3, by omega, hn3, fun o3 H4 c4 ok3 k4 hd4 lc4 => ?_⟩
    have hn4 := k4 _ _ nst hn3
    have hl4 := k4 _ _ lst_ hl3
    have k04 : KpX st H H4 := fun a u n e => k4 _ _ n (k3 _ _ n (k2 _ _ n (k01 _ _ n e)))
    refine ⟨_, _, _, rfl, ?_⟩
    walk_at "go"
    refine ⟨st, sc, xs, y, c4, 4, rfl, hd4, by omega, by decide, by decide, fun j H5 j0 j1 k5 hd5 => ?_⟩
    have hn5 := k5 _ _ nst hn4
    have hl5 := k5 _ _ lst_ hl4
    have k05 : KpX st H H5 := fun a u n e => k5 _ _ n (k04 _ _ n e)
    obtain ⟨z, ez, okz⟩ : ∃ z : Str, atI (NMS.map V.str) j = some (.str z) ∧ okN z := by
      have jj : j = 0 ∨ j = 1 ∨ j = 2 ∨ j = 3 := by omega
      rcases jj with rfl | rfl | rfl | rfl
      · exact ⟨_, rfl, Or.inl rfl⟩
      · exact ⟨_, rfl, Or.inr (Or.inl rfl)⟩
      · exact ⟨_, rfl, Or.inr (Or.inr (Or.inl rfl))⟩
      · exact ⟨_, rfl, Or.inr (Or.inr (Or.inr rfl))⟩
    refine ⟨_, _, _, _, rfl, rfl, SqL.of hn5, ez, ?_⟩
    clear hn1 hl1 hn2 hl2 hn3 hl3 hn4 hl4 hd1 hd2 hd3 hd4 k2 k3 k4 k5
    walk_at "go"
    by_cases cA : i < 3 ∧ 0 < k
    · obtain ⟨i3, kp⟩ := cA
      refine iteB (decide_eq_true i3) ?_
      refine ⟨_, rfl, _, _, rfl, rfl, _, rfl, iteB (decide_eq_true (by omega)) ?_⟩
      obtain ⟨k', rfl⟩ : ∃ k', k = k' + 1 := ⟨k - 1, by omega⟩
      have bk : bud (k' + 1) = 14 + 3 * bud k' := rfl
      have bp := bud_pos k'
      walk_at "go"
      refine ⟨st, sc, xs, y, c4 + 1, 2, rfl, hd5, by omega, by decide, by decide, fun v H6 v0 v1 k6 hd6 => ?_⟩
      have hn6 := k6 _ _ nst hn5
      have hl6 := k6 _ _ lst_ hl5
      walk_at "go"
      have nb : ∃ n : Nat, 1 + v = (n : Int) ∧ 1 ≤ n ∧ n ≤ 2 := ⟨(1 + v).toNat, by omega, by omega, by omega⟩
      obtain ⟨n, en, n1, n2⟩ := nb
      have nbud : (n : Int) * bud k' ≤ 2 * bud k' := Int.mul_le_mul_of_nonneg_right (by omega) (by omega)
      refine ⟨st, sc, nm, lt, xs, y, c4 + 1 + 1, ls, n, ?_, by omega, hd6, by omega, hn6, hl6, l2, fun rs vr H7 c7 okr el7 k7 hd7 lc7 hr7 => ?_⟩
      · show [V.ref st, V.ref nm, V.ref lt, V.int (3 - ((k' + 1 : Nat) : Int) + 1), V.int (1 + v)] = _
        rw [en, show (3 - ((k' + 1 : Nat) : Int) + 1) = 3 - (k' : Int) by omega]
      have k07 : KpX st H H7 := fun a u n e => k7 _ _ n (k6 _ _ n (k05 _ _ n e))
      have hn7 := k7 _ _ nst hn6
      have hl7 := k7 _ _ lst_ hl6
      obtain ⟨pr, wr, rfl, hpr, hwr⟩ := hr7
      walk_at "go"
      refine ite_b (fun b0 => ?_) (fun b0 => ?_)
      · walk_at "go"
        refine ⟨st, sc, xs, y, c7, 4, rfl, hd7, by omega, by decide, by decide, fun m H8 m0 m1 k8 hd8 => ?_⟩
        have t8 : TS H7 H8 := KpX.ts k8 hd7.1
        walk_at "go"
        rename_i p8 n8
        have t9 := ts_nw (o := .tup [.str "while", o1.v, .int m, .ref pr]) t8 n8
        exact q (.whl o1 m rs) (.ref p8) _ _ ⟨by omega, ok1, m0, by omega, by omega, okr⟩ (fun a u n e => upd_get n8 (k8 _ _ n (k07 _ _ n e))) (hd8.nw n8) (by omega) ⟨p8, pr, wr, rfl, upd_same, t9 _ _ hpr, hwr.ts t9⟩
      · walk_at "go"
        refine ⟨st, sc, xs, y, c7, 2, rfl, hd7, by omega, by decide, by decide, fun m H8 m0 m1 k8 hd8 => ?_⟩
        have t8 : TS H7 H8 := KpX.ts k8 hd7.1
        have hn8 := k8 _ _ nst hn7
        have hl8 := k8 _ _ lst_ hl7
        obtain ⟨n', rfl⟩ : ∃ n' : Nat, m = (n' : Int) := ⟨m.toNat, by omega⟩
        have nbud' : (n' : Int) * bud k' ≤ 1 * bud k' := Int.mul_le_mul_of_nonneg_right (by omega) (by omega)
        walk_at "go"
        refine ⟨st, sc, nm, lt, xs, y, c7 + 1, ls, n', ?_, by omega, hd8, by omega, hn8, hl8, l2, fun rs2 vr2 H9 c9 okr2 el9 k9 hd9 lc9 hr9 => ?_⟩
        · show [V.ref st, V.ref nm, V.ref lt, V.int (3 - ((k' + 1 : Nat) : Int) + 1), V.int (n' : Int)] = _
          rw [show (3 - ((k' + 1 : Nat) : Int) + 1) = 3 - (k' : Int) by omega]
        obtain ⟨pr2, wr2, rfl, hpr2, hwr2⟩ := hr9
        have t9 : TS H7 H9 := t8.trans (KpX.ts k9 hd8.1)
        walk_at "go"
        rename_i p8 n8
        have t10 := ts_nw (o := .tup [.str "if", o1.v, .ref pr, .ref pr2]) t9 n8
        have t11 := ts_nw (o := .tup [.str "if", o1.v, .ref pr, .ref pr2]) (TS.refl H9) n8
        exact q (.ite o1 rs rs2) (.ref p8) _ _ ⟨by omega, ok1, by omega, by omega, okr, okr2⟩ (fun a u n e => upd_get n8 (k9 _ _ n (k8 _ _ n (k07 _ _ n e)))) (hd9.nw n8) (by omega) ⟨p8, pr, pr2, wr, wr2, rfl, upd_same, t10 _ _ hpr, t11 _ _ hpr2, hwr.ts t10, hwr2.ts t11⟩
    · refine ite_join (fun c3_ key => ⟨_, rfl, _, _, rfl, rfl, _, rfl, iteN (decide_eq_false ?_) key⟩) ?_
      · have := of_decide_eq_true c3_
        show ¬ 3 - (k : Int) < 3
        omega
      · walk_at "go"
        refine ite_b (fun c5 => ?_) (fun c5 => ?_)
        · walk_at "go"
          rename_i p6 n6
          have hd6 := hd5.nw (o := .tup [.str "add", .str "sub", .str "mul", .str "and", .str "or", .str "xor", .str "less", .str "same", .str "right"]) n6
          refine ⟨st, sc, xs, y, c4 + 1, 9, rfl, hd6, by omega, by decide, by decide, fun m H7 m0 m1 k7 hd7 => ?_⟩
          have np : p6 ≠ st := fun e => by
            rw [e, hd5.1] at n6
            cases n6
          have hp6 := k7 _ _ np upd_same
          obtain ⟨dd, edd, okdd⟩ : ∃ dd : Str, atI ([.str "add", .str "sub", .str "mul", .str "and", .str "or", .str "xor", .str "less", .str "same", .str "right"] : List V) m = some (.str dd) ∧ okD dd := by
            have jj : m = 0 ∨ m = 1 ∨ m = 2 ∨ m = 3 ∨ m = 4 ∨ m = 5 ∨ m = 6 ∨ m = 7 ∨ m = 8 := by omega
            unfold okD
            rcases jj with rfl | rfl | rfl | rfl | rfl | rfl | rfl | rfl | rfl
            · exact ⟨_, rfl, by decide +kernel⟩
            · exact ⟨_, rfl, by decide +kernel⟩
            · exact ⟨_, rfl, by decide +kernel⟩
            · exact ⟨_, rfl, by decide +kernel⟩
            · exact ⟨_, rfl, by decide +kernel⟩
            · exact ⟨_, rfl, by decide +kernel⟩
            · exact ⟨_, rfl, by decide +kernel⟩
            · exact ⟨_, rfl, by decide +kernel⟩
            · exact ⟨_, rfl, by decide +kernel⟩
          refine ⟨_, _, _, _, rfl, rfl, SqT.of hp6, edd, ?_⟩
          walk_at "go"
          rename_i p8 n8
          exact q (.set z dd o1 o2) (.ref p8) _ _ ⟨okz, okdd, ok1, ok2⟩ (fun a u n e => upd_get n8 (k7 _ _ n (upd_get n6 (k05 _ _ n e)))) (hd7.nw n8) (by omega) ⟨p8, rfl, upd_same⟩
        · walk_at "go"
          refine ite_b (fun c6 => ?_) (fun c6 => ?_)
          · walk_at "go"
            rename_i p8 n8
            exact q (.pick z o1 o2 o3) (.ref p8) _ _ ⟨okz, ok1, ok2, ok3⟩ (fun a u n e => upd_get n8 (k05 _ _ n e)) (hd5.nw n8) (by omega) ⟨p8, rfl, upd_same⟩
          · walk_at "go"
            refine ite_b (fun c7 => ?_) (fun c7 => ?_)
            · walk_at "go"
              refine ⟨st, sc, xs, y, c4 + 1, 3, rfl, hd5, by omega, by decide, by decide, fun m H7 m0 m1 k7 hd7 => ?_⟩
              walk_at "go"
              refine ite_b (fun c8 => ?_) (fun c8 => ?_)
              · walk_at "go"
                rename_i p8 n8
                exact q (.lt o1) (.ref p8) _ _ ok1 (fun a u n e => upd_get n8 (k7 _ _ n (k05 _ _ n e))) (hd7.nw n8) (by omega) ⟨p8, rfl, upd_same⟩
              · walk_at "go"
                rename_i p8 n8
                exact q (.set z "xor" o1 o2) (.ref p8) _ _ ⟨okz, Or.inr (Or.inr (Or.inr (Or.inr (Or.inr (Or.inl rfl))))), ok1, ok2⟩ (fun a u n e => upd_get n8 (k7 _ _ n (k05 _ _ n e))) (hd7.nw n8) (by omega) ⟨p8, rfl, upd_same⟩
            · have i5 : ¬ i < 5 := of_decide_eq_false c5
              have i6 : ¬ i = 5 := fun e => absurd (of_decide_eq_false c6) (fun z => z (by rw [e]))
              have i7 : ¬ i = 6 := fun e => absurd (of_decide_eq_false c7) (fun z => z (by rw [e]))
              have l0 : ls ≠ [] := by
                rcases hi with hi | hi
                · omega
                · exact hi.1
              have lp : 0 < ls.length := List.length_pos_iff.mpr l0
              walk_at "go"
              refine ⟨st, sc, xs, y, c4 + 1, ls.length, by rw [List.length_map]; rfl, hd5, by omega, by omega, by omega, fun m H7 m0 m1 k7 hd7 => ?_⟩
              have hm : m.toNat < ls.length := by omega
              have hx : (ls.map V.str)[m.toNat]? = some (.str ls[m.toNat]) := by
                rw [List.getElem?_map, List.getElem?_eq_getElem hm]
                rfl
              have ha := atI_nat hx
              rw [Int.toNat_of_nonneg m0] at ha
              have ml : ls[m.toNat] ∈ ls := List.getElem_mem hm
              generalize ls[m.toNat] = l at ha ml
              refine ⟨_, _, _, _, rfl, rfl, SqL.of (k7 _ _ lst_ hl5), ha, ?_⟩
              walk_at "go"
              refine ⟨st, sc, xs, y, c4 + 1 + 1, 2, rfl, hd7, by omega, by decide, by decide, fun m2 H8 m20 m21 k8 hd8 => ?_⟩
              walk_at "go"
              refine ite_b (fun c8 => ?_) (fun c8 => ?_)
              · walk_at "go"
                rename_i p8 n8
                exact q (.get z l o1) (.ref p8) _ _ ⟨okz, ml, ok1⟩ (fun a u n e => upd_get n8 (k8 _ _ n (k7 _ _ n (k05 _ _ n e)))) (hd8.nw n8) (by omega) ⟨p8, rfl, upd_same⟩
              · walk_at "go"
                rename_i p8 n8
                exact q (.put l o1 o2) (.ref p8) _ _ ⟨ml, ok1, ok2⟩ (fun a u n e => upd_get n8 (k8 _ _ n (k7 _ _ n (k05 _ _ n e)))) (hd8.nw n8) (by omega) ⟨p8, rfl, upd_same⟩
theorem ok_law_rows {k : Nat} (T : Tx mg) (D : DefAt K mg "_law_rows" s__law_rows) (c__law_row : C8.Cal P w K mg base (5 + 2 * k) "_law_row" (sp_law_row K k) []) : C8.Cal P w K mg base (6 + 2 * k) "_law_rows" (sp_law_rows K k) [] := by
  refine Cal.mono (j := 6 + 2 * k) (D.cal (k := 5 + 2 * k) sc__law_rows (fun _ _ _ _ _ _ us hl => match us, hl with | [_, _, _, _, _], _ => rfl) (fun vs H Q E h => ?_) (fun f cdv A outer s H vs Q E hr h => ⟨_, (pss_one (ps_ret (pe_callTy call_tuple_of (by rfl) T.tuple_ (by decide +kernel) (pa_cons (pe_lc (own := [("_law_part_here", 5)]) (g := (gName 5)) (tt := tYes) rfl sc__law_rows.nd (pi_range1 (by rfl) T.range_ (pa_cons (pv 4) pa_nil)) (blkOk_by (own := [("_law_part_here", 5)]) (N := N__law_rows) (sc := defScope s__law_rows) (by decide +kernel)) (fun _ _ _ _ _ => (pg_name (i := 5) sc__law_rows.nd rfl (Or.inl rfl))) (fun _ _ _ _ _ => pts_nil) (fun _ _ _ _ _ => (C8.pe_c c__law_row hr (by omega) (by rfl) (pa_cons (pv 0) (pa_cons (pv 1) (pa_cons (pv 2) (pa_cons (pv 3) pa_nil))))))) pa_nil)))), ?_⟩)) (by omega)
  · obtain ⟨st, sc, nm, lt, xs, y, c, ls, n, rfl, _⟩ := h
    rfl
  · obtain ⟨st, sc, nm, lt, xs, y, c, ls, n, rfl, n5, hd, hc, hn, hl, l2, q⟩ := h
    have nst : nm ≠ st := ne_of hn hd.1 (fun z => nomatch (List.cons.inj (HO.lst.inj z)).1)
    have lst_ : lt ≠ st := fun e => by
      subst e
      rw [hd.1] at hl
      cases ls with
      | nil => cases hl
      | cons l ls => cases hl
    refine ⟨_, rfl, ?_⟩
    refine ⟨_, rfl, by omega, by omega, fun D nD => ?_⟩
    have dst : st ≠ D := ne_of_none hd.1 nD
    have bp := bud_pos k
    refine lc_it walk_range (fun i H' => ∃ (l : List Row) (acc : List V) (c' : Int), H' D = some (.lst acc) ∧ Paired (RowAt H') l acc ∧ (∀ r ∈ l, okRow ls k r) ∧ l.length = i ∧ KpX st H H' ∧ DrawAt K H' st sc xs y c' ∧ c' ≤ c + i * bud k) ?_ (fun _ _ _ _ => True.intro) ?_ ?_
    · exact ⟨[], [], c, upd_same, .nil, (fun _ m => nomatch m), rfl, fun a u n e => upd_get nD e, hd.nw nD, by omega⟩
    · rintro i x H2 H3 hi ⟨l, acc, c', hD, pr, okl, ll, k2, hd2, lc2⟩ ⟨rfl, rfl⟩
      have e1 : ((i + 1 : Nat) : Int) * bud k = (i : Int) * bud k + bud k := by rw [Int.natCast_add, Int.add_mul]; simp
      have e2 : ((i + 1 : Nat) : Int) * bud k ≤ (n : Int) * bud k := Int.mul_le_mul_of_nonneg_right (by omega) (by omega)
      refine ⟨rfl, ?_⟩
      walk_at "go"
      refine ⟨st, sc, nm, lt, xs, y, c', ls, rfl, hd2, by omega, k2 _ _ nst hn, k2 _ _ lst_ hl, l2, fun r v H4 c4 okr k4 hd4 lc4 hr4 => ?_⟩
      have hD4 := k4 _ _ (Ne.symm dst) hD
      have t4 := KpX.ts k4 hd2.1
      have t5 : TS H4 (upd H4 D (.lst (acc ++ [v]))) := ts_mut (TS.refl _) hD4 (fun _ z => nomatch z)
      have la := Paired.length pr
      refine ⟨acc, hD4, sm_lt (by omega), l ++ [r], acc ++ [v], c4, upd_same, paired_app (Paired.mapP pr fun _ _ q => q.ts (t4.trans t5)) (.cons (hr4.ts t5) .nil), fun r' m => ?_, by rw [List.length_append, ll]; rfl, fun a u n e => upd_mut (ne_of_none e nD) (k4 _ _ n (k2 _ _ n e)), ⟨upd_mut dst hd4.1, sqL_updD nD hd.2.1 hd4.2.1, hd4.2.2⟩, by omega⟩
      rcases List.mem_append.mp m with m | m
      · exact okl r' m
      · rw [List.mem_singleton.mp m]
        exact okr
    · rintro H2 ⟨l, acc, c', hD, pr, okl, ll, k2, hd2, lc2⟩
      have e3 : ((n : Int).toNat : Int) = (n : Int) := rfl
      refine ⟨D, acc, rfl, Or.inl ⟨SqL.of hD, fun p np => ?_⟩⟩
      exact q (mkRows l) (.ref p) _ c' (mkRows_ok okl) (by rw [mkRows_len, ll]; rfl) (fun a u n e => upd_get np (k2 _ _ n e)) (hd2.nw np) lc2 ⟨p, acc, rfl, upd_same, (mkRows_at pr).ts (ts_nw (TS.refl _) np)⟩
end
end NW
/-! ## A method of a tuple that is written out -/
namespace NW
open PySem PySem.Spec PyProof.Rows L2
def tBMT (r : V → List V → Hp → VK → Prop) (t1 t2 : TA) : TE := fun σ H Q => t1 σ H fun xs H1 => xs.length ≤ sizeLine ∧ ∀ p, H1 p = none → t2 σ (upd H1 p (.tup xs)) fun ys H2 => r (.ref p) ys H2 Q
section
variable {X : Cx} {e : Expr} {es fs : List Expr} {t1 t2 : TA} {name : Str} {pos apos cpos : Pos} {kk : Nat} {id : String} {r : V → List V → Hp → VK → Prop}
theorem pe_bmT (pa : PlainAttrs "tuple") (slot : Slot "tuple" name id) (hty : typeOf (.builtin id) = pure (.type "method_descriptor")) (hm : MtR X id r) (h1 : PA X fs t1) (h2 : PA X (e :: es) t2)
    (hbase : attributeBase (.Tuple fs kk pos) name X.env (eval (.Tuple fs kk pos) X.env) = eval (.Tuple fs kk pos) X.env := by rfl)
    (hfew : ((backTo cpos (starEach (e :: es) X.env)).all (fun x => !x.1) && (backToKw cpos (keywordEach [] X.env)).all (fun x => x.1.isSome) && decide ((e :: es).length + ([] : List Keyword).length + (if ([] : List Keyword).isEmpty then 0 else 1) < 30)) = true := by rfl)
    (hline : (apos.endLine == cpos.line) = true := by rfl) (hs : starEach (e :: es) X.env = (false, eval e X.env) :: starEach es X.env := by rfl) (hplain : (backTo cpos (starEach es X.env)).any (·.1) = false := by rfl) :
    PE X (.Call (.Attribute (.Tuple fs kk pos) name apos) (e :: es) [] cpos) (tBMT r t1 t2) := by
  refine ⟨fun pins s σ H Q I h => wpAny_Call_method_late hbase hfew hline rfl (wpAny_Tuple_spliced (thn (h1.run pos pins s σ H _ I h) fun us s1 ⟨xs, H1, I1, rx, z, q⟩ => ⟨by rw [← rx.length]; exact z, ?_⟩))⟩
  have fr := I1.hok.fresh (Nat.le_refl s1.heap.objs.size)
  have ho := Heap.get?_push_size s1.heap (o := { cls := .type "tuple", data := .seq us.toArray }) rfl
  have I2 : Inv X pins σ (upd H1 s1.heap.objs.size (.tup xs)) { s1 with heap := s1.heap.push { cls := .type "tuple", data := .seq us.toArray } } :=
    I1.laid (t' := s1.toks) (fun b u e => Heap.get?_push_of_some _ e) (Nat.le_refl _) ⟨z, us, rx, ⟨_, ho, rfl, _, rfl⟩⟩
  refine ⟨"tuple", id, pa, slot, hty, ⟨_, ho, rfl⟩, fun a ea => ⟨_, (by cases ea; exact ho), rfl⟩, ?_⟩
  have hA := h2.run cpos pins _ σ _ _ I2 (q _ fr)
  rw [hs] at hA ⊢
  exact Calls.callWith_builtin (by show (false || (backTo cpos (starEach es X.env)).any (·.1)) = false; rw [hplain]; rfl) (Calls.evalArgs_plain (thn hA fun ws s2 ⟨vs, H2, I3, r2, q2⟩ => hm pins s2 σ H2 (.ref s1.heap.objs.size) vs _ ws Q I3 rfl r2 q2))
/-- d[k] as a target -/
theorem set_dict (hu : X.A.units + 1 < cLine) : PSet X (fun o i v H Q => ∃ a H', o = .ref a ∧ DPut H a i v H' ∧ Q H') := by
  intro pins s σ H o i v ov iv u Q I ro ri rv h
  obtain ⟨a, H', rfl, g, q⟩ := h
  obtain rfl : ov = Value.ref a := ro
  exact d_setItem hu I g ri rv fun s4 I4 => ⟨H', I4, q⟩
end
end NW
/-! ## Walks: the law draws a program -/
namespace NW
open PySem PySem.Spec PyProof.Rows L2
set_option pp.maxSteps 150
-- an object's place in a heap
local macro_rules | `(tactic| walk_at "hp") => `(tactic| (show _ = some _; first
  | assumption
  | exact upd_same
  | (refine' upd_get ?n ?h; (case n => assumption); (case h => walk_at "hp"))
  | (refine' same_get ?n ?h; (case n => assumption); (case h => walk_at "hp"))))
-- a heap that has grown
local macro_rules | `(tactic| walk_at "sm") => `(tactic| first
  | assumption
  | exact Same.refl _
  | (refine' same_nw ?n ?h; (case h => assumption); (case n => walk_at "sm"))
  | (refine' Same.trans ?n ?h; (case h => assumption); (case n => walk_at "sm")))
local macro_rules | `(tactic| walk_at "ty") => `(tactic| first
  | exact TyN.int _
  | exact TyN.str _
  | exact TyN.non
  | (refine' TyN.tup ?h; (case h => walk_at "hp"))
  | (refine' TyN.lst ?h; (case h => walk_at "hp")))
-- a test whose answer is known
local macro_rules | `(tactic| walk_at "if") => `(tactic| first
  | (refine iteB (by decide +kernel) ?_)
  | (refine iteN (by decide +kernel) ?_)
  | (refine iteB (by rfl) ?_)
  | (refine iteN (by rfl) ?_)
  | (refine iteB (decide_eq_true (by first | omega | assumption)) ?_)
  | (refine iteN (decide_eq_false (by first | omega | assumption)) ?_)
  | (refine iteB (by simp only [Bool.not_eq_true', Bool.not_eq_false', Bool.and_eq_true, Bool.and_eq_false_iff, Bool.or_eq_true, Bool.or_eq_false_iff, decide_eq_true_eq, decide_eq_false_iff_not]; omega) ?_)
  | (refine iteN (by simp only [Bool.not_eq_true', Bool.not_eq_false', Bool.and_eq_true, Bool.and_eq_false_iff, Bool.or_eq_true, Bool.or_eq_false_iff, decide_eq_true_eq, decide_eq_false_iff_not]; omega) ?_))
-- one step of a reading
local macro_rules | `(tactic| walk_at "s") => `(tactic| first
  | refine ⟨_, rfl, ?_⟩
  | refine ⟨_, _, rfl, rfl, ?_⟩
  | refine And.intro (show wipe _ _ = wipe _ _ by kernel_rfl) ?_
  | refine And.intro rfl ?_
  | (refine' ⟨_, _, _, _, rfl, rfl, SqT.of ?h, ?e, ?_⟩; (case h => walk_at "hp"); (case e => exact rfl))
  | (refine' ⟨_, _, rfl, ?t, ?_⟩; (case t => walk_at "ty"))
  | (refine' ⟨_, _, rfl, SqT.of ?h, ?e, ?_⟩; (case h => walk_at "hp"); (case e => exact rfl))
  | refine ⟨_, _, rfl, ?_⟩
  | (refine' ⟨_, _, _, rfl, rfl, ?h1, ?h2, ?_⟩; (case h1 => walk_at "hp"); (case h2 => walk_at "hp"))
  | (refine' ⟨_, _, _, _, rfl, rfl, SqL.of ?h, ?e, ?_⟩; (case h => walk_at "hp"); (case e => exact rfl))
  | (refine' ⟨_, _, rfl, Or.inr (SqT.of ?h), ?_⟩; (case h => walk_at "hp"))
  | (refine' ⟨_, _, rfl, Or.inr (SqT.of ?h), rfl, rfl, ?_⟩; (case h => walk_at "hp"))
  | (refine' ⟨_, _, rfl, Or.inl (SqL.of ?h), ?_⟩; (case h => walk_at "hp"))
  | refine And.intro (flat_strs _) ?_
  | (refine And.intro (sm_sz (Nat.le_of_ble_eq_true rfl)) ?_; intro p np)
  | walk_at "if"
  | (refine' And.intro ?a ?_; (case a => first | assumption | exact sm_sz (by omega) | omega | exact Or.inr ⟨by omega, by omega⟩ | exact Or.inl ⟨by omega, by omega⟩ | exact ⟨by omega, by omega⟩))
  | refine Or.inl ⟨_, _, _, rfl, ?_⟩
  | refine Or.inr ⟨_, _, _, rfl, ?_⟩
  | (intro Hn sn))
local macro_rules | `(tactic| walk_at "go") => `(tactic| repeat (walk_at "s"))

abbrev s__law_program : Stmt := topS 87
abbrev N__law_program : List Str := ["_law_state", "_law_amount", "_law_handed", "_law_lists", "_law_name", "_law_names", "_law_rows_here", "_law_sort", "_law_cells", "_law_worths", "_law_one"]
abbrev P__law_program : List Str := ["_law_state", "_law_amount"]
theorem sc__law_program : FnScope N__law_program P__law_program (defScope s__law_program) := ⟨rfl, rfl, rfl, by decide +kernel, rfl, by decide +kernel, by decide +kernel⟩

structure drawnL (d : LD) : Prop where
  so : okSo d.so
  c1 : 1 ≤ d.cells
  c9 : d.cells ≤ 9
  wo : d.wo = 1 ∨ (d.wo = 2 ∧ d.cells ≤ 2 ∧ d.so ≠ "own")
  e0 : 0 ≤ d.em
  e4 : d.em ≤ 4
def SOS : List Str := ["open", "hidden", "own"]
def TU : List Str := ["t", "u"]
def XY : List Str := ["x", "y"]
def drawnH (hs : List PD) : Prop := ∃ s : Int, 2 ≤ s ∧ s ≤ 3 ∧ (hs = [⟨"h", "hidden", s⟩] ∨ ∃ z : Int, 1 ≤ z ∧ z ≤ 3 ∧ hs = [⟨"h", "hidden", s⟩, ⟨"a", "open", z⟩])
/-- a program that the law draws -/
structure Drawn (p : Prog) : Prop where
  hd : drawnH p.handed
  ls : ∃ j, j ≤ 2 ∧ p.lists.map LD.nm = TU.take j
  ok : ∀ d ∈ p.lists, drawnL d
  rw : okRows (p.lists.map LD.nm) 3 p.rows
  rl : p.rows.len ≤ 5
  tn : ∃ j, j ≤ 2 ∧ p.told = XY.take j
def sp_law_program (K : PySem.W.Frag) : Sp := fun vs H Q _ => ∃ (st sc : Addr) (xs : List Int) (y c : Int) (n : Nat), vs = [.ref st, .int n] ∧ n ≤ 5 ∧ DrawAt K H st sc xs y c ∧ c < 400000 ∧
  ∀ (p : Prog) v H' c', Drawn p → KpX st H H' → DrawAt K H' st sc xs y c' → c' ≤ c + 5000 → ProgAt H' p v → Q v H'
theorem slA_take {K : PySem.W.Frag} {H : Hp} {a : Addr} {xs : List V} {j : Int} {Q : VK} (ha : H a = some (.tup xs)) (j0 : 0 ≤ j) (q : ∀ p H', Same H H' → H' p = some (.tup (xs.take j.toNat)) → Q (.ref p) H') : rSlA K (.ref a) none (some j) H Q := by
  have e : HT.sIx xs.length xs.length (some j) = min j.toNat xs.length := by
    show (if j < 0 then _ else min j.toNat xs.length) = _
    rw [if_neg (by omega)]
  have t : cutV xs none (some j) = xs.take j.toNat := by
    show (xs.drop 0).take (HT.sIx xs.length xs.length (some j) - 0) = _
    rw [e, List.drop_zero, Nat.sub_zero]
    rcases Nat.le_total j.toNat xs.length with h | h
    · rw [Nat.min_eq_left h]
    · rw [Nat.min_eq_right h, List.take_of_length_le (Nat.le_refl _), List.take_of_length_le h]
  refine ⟨a, xs, rfl, SqT.of ha, fun h => q a H (Same.refl _) ?_, fun _ p n => q p _ (same_nw (Same.refl _) n) ?_⟩
  · rw [List.take_of_length_le (by have := h.2; rw [e] at this; omega)]
    exact ha
  · rw [t]
    exact upd_same
section
variable {P : Program} {w : World} {K : PySem.W.Frag} {mg : Str → Option Value} {base : Heap}
theorem ok_law_program (T : Tx mg) (D : DefAt K mg "_law_program" s__law_program) (c__law_next : C8.Cal P w K mg base 3 "_law_next" (sp_law_next K) []) (c__law_rows : C8.Cal P w K mg base 12 "_law_rows" (sp_law_rows K 3) []) : C8.Cal P w K mg base 13 "_law_program" (sp_law_program K) [] := by
  refine D.cal (k := 12) sc__law_program (fun _ _ _ _ _ _ us hl => match us, hl with | [_, _], _ => rfl) (fun vs H Q E h => ?_) (fun f cdv A outer s H vs Q E hr h => ⟨_, (pss_cons (ps_set (i := 2) sc__law_program.nd rfl (Or.inl rfl) (pe_lst (pa_cons (pe_tup (pa_cons pe_str (pa_cons pe_str (pa_cons (pe_op op_add pe_int (C8.pe_c c__law_next hr (by omega) (by rfl) (pa_cons (pv 0) (pa_cons pe_int pa_nil)))) pa_nil)))) pa_nil)))
    (C8.pss_cut (ps_if (pt_cmpR op_eq (C8.pe_c c__law_next hr (by omega) (by rfl) (pa_cons (pv 0) (pa_cons pe_int pa_nil))) pe_int (nomark _)) (pss_one (ps_expr (pe_bm PySem.F.plainAttrs_list PySem.F.slot_list_append PySem.F.type_list_append mt_append (pv 2) (pa_cons (pe_tup (pa_cons pe_str (pa_cons pe_str (pa_cons (pe_op op_add pe_int (C8.pe_c c__law_next hr (by omega) (by rfl) (pa_cons (pv 0) (pa_cons pe_int pa_nil)))) pa_nil)))) pa_nil))))
    pss_nil)
    (pss_cons (ps_set (i := 3) sc__law_program.nd rfl (Or.inl rfl) (pe_lst pa_nil))
    (pss_cons (ps_for PassesOwn.never rfl (pi_tup (pe_slice sl_tupA (pe_tup (pa_cons pe_str (pa_cons pe_str pa_nil))) po_none (po_some (C8.pe_c c__law_next hr (by omega) (by rfl) (pa_cons (pv 0) (pa_cons pe_int pa_nil)))))) (pg_name (i := 4) sc__law_program.nd rfl (Or.inl rfl))
    (pss_cons (ps_set (i := 7) sc__law_program.nd rfl (Or.inl rfl) (pe_ix ix_tup (pe_tup (pa_cons pe_str (pa_cons pe_str (pa_cons pe_str pa_nil)))) (C8.pe_c c__law_next hr (by omega) (by rfl) (pa_cons (pv 0) (pa_cons pe_int pa_nil))) (fun _ _ => rfl)))
    (pss_cons (ps_set (i := 8) sc__law_program.nd rfl (Or.inl rfl) (pe_op op_add pe_int (C8.pe_c c__law_next hr (by omega) (by rfl) (pa_cons (pv 0) (pa_cons (pe_ix ix_tup (pe_tup (pa_cons pe_int (pa_cons pe_int (pa_cons pe_int pa_nil)))) (pe_bmT PySem.F.plainAttrs_tuple PySem.F.slot_tuple_index PySem.F.type_tuple_index mt_tup_index (pa_cons pe_str (pa_cons pe_str (pa_cons pe_str pa_nil))) (pa_cons (pv 7) pa_nil)) (fun _ _ => rfl)) pa_nil)))))
    (C8.pss_cut (ps_set (i := 9) sc__law_program.nd rfl (Or.inl rfl) (pe_ifExp (PW.pt (pw_or (pt_cmpR op_eq (pv 7) pe_str (nomark _)) (pw_or1 (PW.pt (pw_and (pt_cmpR op_eq (pv 7) pe_str (nomark _)) (pw_and1 (pt_cmpR op_gt (pv 8) pe_int (nomark _)))))))) pe_int pe_int))
    (pss_one (ps_expr (pe_bm PySem.F.plainAttrs_list PySem.F.slot_list_append PySem.F.type_list_append mt_append (pv 3) (pa_cons (pe_tup (pa_cons (pv 4) (pa_cons (pv 7) (pa_cons (pv 8) (pa_cons (pv 9) (pa_cons (C8.pe_c c__law_next hr (by omega) (by rfl) (pa_cons (pv 0) (pa_cons pe_int pa_nil))) pa_nil)))))) pa_nil))))))))
    (pss_cons (ps_set (i := 5) sc__law_program.nd rfl (Or.inl rfl) (pe_lst (pa_cons pe_str (pa_cons pe_str (pa_cons pe_str (pa_cons pe_str pa_nil))))))
    (pss_cons (ps_set (i := 6) sc__law_program.nd rfl (Or.inl rfl) (C8.pe_c c__law_rows hr (by omega) (by rfl) (pa_cons (pv 0) (pa_cons (pv 5) (pa_cons (pe_lc (own := [("_law_one", 10)]) (g := (gName 10)) (tt := tYes) rfl sc__law_program.nd (pi_list (pv 3)) (blkOk_by (own := [("_law_one", 10)]) (N := N__law_program) (sc := defScope s__law_program) (by decide +kernel)) (fun _ _ _ _ _ => (pg_name (i := 10) sc__law_program.nd rfl (Or.inl rfl))) (fun _ _ _ _ _ => pts_nil) (fun _ _ _ _ _ => (pe_ix (ix_tupK (K := K) rfl) (pv 10) pe_int (fun _ _ => rfl)))) (pa_cons pe_int (pa_cons (pv 1) pa_nil)))))))
    (pss_one (ps_ret (pe_tup (pa_cons (pe_callTy call_tuple_of (by rfl) T.tuple_ (by decide +kernel) (pa_cons (pv 2) pa_nil)) (pa_cons (pe_callTy call_tuple_of (by rfl) T.tuple_ (by decide +kernel) (pa_cons (pv 3) pa_nil)) (pa_cons (pv 6) (pa_cons (pe_slice sl_tupA (pe_tup (pa_cons pe_str (pa_cons pe_str pa_nil))) po_none (po_some (C8.pe_c c__law_next hr (by omega) (by rfl) (pa_cons (pv 0) (pa_cons pe_int pa_nil))))) pa_nil))))))))))))), ?_⟩)
  · obtain ⟨st, sc, xs, y, c, n, rfl, _⟩ := h
    rfl
  · obtain ⟨st, sc, xs, y, c, n, rfl, n5, hd, hc, q⟩ := h
    walk_at "go"
    refine ⟨st, sc, xs, y, c, 2, rfl, hd, by omega, by decide, by decide, fun i H1 i0 i1 k1 hd1 => ?_⟩
    walk_at "go"
    rename_i p1 n1 p2 n2
    have ne2 : p2 ≠ st := fun e => by
      rw [e, hd1.nw n1 |>.1] at n2
      cases n2
    refine ⟨fun σ' H' => ∃ (hs : List PD) (ws : List V) (c' : Int), σ' = [some (.ref st), some (.int n), some (.ref p2), none, none, none, none, none, none, none, none] ∧ drawnH hs ∧ H' p2 = some (.lst ws) ∧ TupsL H' (hs.map PD.vs) ws ∧ KpX st H H' ∧ DrawAt K H' st sc xs y c' ∧ c' ≤ c + 3, ?_, ?_⟩
    · have hd2 := (hd1.nw (o := .tup [.str "h", .str "hidden", .int (2 + i)]) n1).nw (o := .lst [.ref p1]) n2
      have ne1 : p1 ≠ st := fun e => by
        rw [e, hd1.1] at n1
        cases n1
      walk_at "go"
      refine ⟨st, sc, xs, y, c + 1, 2, rfl, hd2, by omega, by decide, by decide, fun i2 H2 i20 i21 k2 hd2 => ?_⟩
      have h1 := k2 _ _ ne1 (upd_get n2 upd_same)
      have h2 := k2 _ _ ne2 upd_same
      have k02 : KpX st H H2 := fun a u n e => k2 _ _ n (upd_get n2 (upd_get n1 (k1 _ _ n e)))
      walk_at "go"
      refine ite_b (fun b => ?_) (fun b => ?_)
      · refine ⟨_, rfl, .inl ⟨rfl, _, SqL.of h2⟩, ?_⟩
        walk_at "go"
        refine ⟨st, sc, xs, y, c + 1 + 1, 3, rfl, hd2, by omega, by decide, by decide, fun i3 H3 i30 i31 k3 hd3 => ?_⟩
        have h13 := k3 _ _ ne1 h1
        have h23 := k3 _ _ ne2 h2
        walk_at "go"
        rename_i p3 n3
        have fr2 : ∀ a u, a ≠ st → H a = some u → a ≠ p2 := fun a u n e => ne_of_none (upd_get n1 (k1 _ _ n e)) n2
        have ne12 : p1 ≠ p2 := ne_of h1 h2 (fun z => nomatch z)
        refine ⟨_, _, _, rfl, rfl, upd_get n3 h23, sm_lt (show 1 < 100000 by decide), ?_⟩
        exact ⟨[⟨"h", "hidden", 2 + i⟩, ⟨"a", "open", 1 + i3⟩], [.ref p1, .ref p3], _, rfl, ⟨2 + i, by omega, by omega, Or.inr ⟨1 + i3, by omega, by omega, rfl⟩⟩, upd_same, .cons ⟨p1, rfl, upd_mut ne12 (upd_get n3 h13)⟩ (.cons ⟨p3, rfl, upd_mut (Ne.symm (ne_of_none h23 n3)) upd_same⟩ .nil),
          fun a u n e => upd_mut (fr2 a u n e) (upd_get n3 (k3 _ _ n (k02 _ _ n e))), ⟨upd_mut (Ne.symm ne2) (upd_get n3 hd3.1), sqL_updD n2 (hd1.nw n1).2.1 (hd3.nw n3).2.1, hd3.2.2⟩, by omega⟩
      · exact ⟨[⟨"h", "hidden", 2 + i⟩], [.ref p1], _, rfl, ⟨2 + i, by omega, by omega, Or.inl rfl⟩, h2, .cons ⟨p1, rfl, h1⟩ .nil, k02, hd2, by omega⟩
    rintro σ' H2 ⟨hs, ws, c2, rfl, dh, hp2, th, k02, hd2, lc2⟩
    walk_at "go"
    rename_i L nL pt npt
    have nest : ∀ {a : Addr}, H2 a = none → a ≠ st := fun {a} e z => by
      rw [z, hd2.1] at e
      cases e
    have nLst : L ≠ st := nest nL
    have nLpt : L ≠ pt := ne_of_none upd_same npt
    have npt' : H2 pt = none := by
      rw [upd_ne (Ne.symm nLpt)] at npt
      exact npt
    have nptst : pt ≠ st := nest npt'
    have frL : ∀ a u, a ≠ st → H a = some u → a ≠ L := fun a u n e => ne_of_none (k02 _ _ n e) nL
    have n2L : p2 ≠ L := ne_of_none hp2 nL
    refine ⟨st, sc, xs, y, c2, 3, rfl, (hd2.nw nL).nw npt, by omega, by decide, by decide, fun j H3 j0 j1 k3 hd3 => ?_⟩
    have hpt3 := k3 _ _ nptst upd_same
    have hL3 := k3 _ _ nLst (upd_get npt upd_same)
    have t03 : TS H2 H3 := fun a zs e => k3 _ _ (ne_of e hd2.1 (fun z => nomatch z)) (upd_get npt (upd_get nL e))
    refine ⟨j, rfl, slA_take hpt3 j0 fun pl H4 s4 hpl => ?_⟩
    refine ⟨pl, rfl, ⟨_, SqT.of hpl⟩, ?_⟩
    refine for_it (walk_tup (a := pl) (xs := (TU.map V.str).take j.toNat)) (fun i σ' H' => ∃ (ds : List LD) (vs : List V) (c' : Int) (o4 o7 o8 o9 : Option V), σ' = [some (.ref st), some (.int n), some (.ref p2), some (.ref L), o4, none, none, o7, o8, o9, none] ∧ H' L = some (.lst vs) ∧ TupsL H' (ds.map LD.vs) vs ∧ ds.map LD.nm = TU.take i ∧ (∀ d ∈ ds, drawnL d) ∧
      H' p2 = some (.lst ws) ∧ TupsL H' (hs.map PD.vs) ws ∧ H' pl = some (.tup ((TU.map V.str).take j.toNat)) ∧ KpX st H H' ∧ DrawAt K H' st sc xs y c' ∧ c' ≤ c + 4 + 4 * i) ?_ (fun i σ H' _ z => ?_) ?_ ?_
    · exact ⟨[], [], _, _, _, _, _, rfl, s4 _ _ hL3, .nil, rfl, (fun _ m => nomatch m), s4 _ _ (k3 _ _ ne2 (upd_get npt (upd_get nL hp2))), th.ts (t03.trans (same_ts s4)), hpl, fun a u n e => s4 _ _ (k3 _ _ n (upd_get npt (upd_get nL (k02 _ _ n e)))), hd3.same s4, by omega⟩
    · obtain ⟨ds, vs, c', o4, o7, o8, o9, _, _, _, _, _, _, _, e, _⟩ := z
      exact SqT.of e
    · rintro i x σ H5 H6 hi ⟨ds, vs, c5, o4, o7, o8, o9, rfl, hL5, tl5, nm5, dr5, h25, th5, hpl5, k5, hd5, lc5⟩ ⟨rfl, e⟩
      obtain ⟨nm, en, rfl⟩ : ∃ nm, TU[i]? = some nm ∧ x = .str nm := by
        rw [List.getElem?_take] at e
        split at e
        · rw [List.getElem?_map] at e
          obtain ⟨nm, e1, e2⟩ := Option.map_eq_some_iff.mp e
          exact ⟨nm, e1, e2.symm⟩
        · cases e
      have i2 : i < 2 := (List.getElem?_eq_some_iff.mp en).1
      walk_at "go"
      rename_i p6 n6
      have n6st : p6 ≠ st := fun z => by
        rw [z, hd5.1] at n6
        cases n6
      have plL : pl ≠ L := ne_of hpl5 hL5 (fun z => nomatch z)
      refine ⟨st, sc, xs, y, c5, 3, rfl, hd5.nw n6, by omega, by decide, by decide, fun k H7 k0 k1 k7 hd7 => ?_⟩
      obtain ⟨so, bd, eso, ebd, okso, hix, hbd⟩ : ∃ (so : Str) (bd : Int), atI (SOS.map V.str) k = some (.str so) ∧ atI [V.int 6, V.int 2, V.int 9] k = some (.int bd) ∧ okSo so ∧ (SOS[k.toNat]? = some so ∧ ∀ m, m < k.toNat → SOS[m]? ≠ some so) ∧ ((so = "hidden" ∧ bd = 2) ∨ (so ≠ "hidden" ∧ 1 ≤ bd ∧ bd ≤ 9)) := by
        have kk : k = 0 ∨ k = 1 ∨ k = 2 := by omega
        rcases kk with rfl | rfl | rfl
        · exact ⟨"open", 6, rfl, rfl, Or.inl rfl, ⟨rfl, fun m h => absurd h (Nat.not_lt_zero m)⟩, Or.inr (by decide +kernel)⟩
        · exact ⟨"hidden", 2, rfl, rfl, Or.inr (Or.inl rfl), ⟨rfl, fun m h => by
            have : m = 0 := by
              have h : m < 1 := h
              omega
            subst this
            decide +kernel⟩, Or.inl (by decide +kernel)⟩
        · exact ⟨"own", 9, rfl, rfl, Or.inr (Or.inr rfl), ⟨rfl, fun m h => by
            have : m = 0 ∨ m = 1 := by
              have h : m < 2 := h
              omega
            rcases this with rfl | rfl <;> decide +kernel⟩, Or.inr (by decide +kernel)⟩
      refine ⟨_, _, _, _, rfl, rfl, SqT.of (k7 _ _ n6st upd_same), eso, ?_⟩
      have kp7 : ∀ a u, a ≠ st → H6 a = some u → H7 a = some u := fun a u n e => k7 _ _ n (upd_get n6 e)
      clear k7
      walk_at "go"
      rename_i p7 n7 p8 n8
      refine ⟨p8, SOS, so, k.toNat, rfl, rfl, SqT.of upd_same, hix.1, hix.2, ?_⟩
      rw [Int.toNat_of_nonneg k0]
      refine ⟨_, _, _, _, rfl, rfl, SqT.of (upd_get n8 upd_same), ebd, ?_⟩
      have hd8 := (hd7.nw (o := .tup [.int 6, .int 2, .int 9]) n7).nw (o := .tup (SOS.map .str)) n8
      refine ⟨st, sc, xs, y, c5 + 1, bd, rfl, hd8, by omega, by omega, by omega, fun cl H9 cl0 cl1 k9 hd9 => ?_⟩
      have kp9 : ∀ a u, a ≠ st → H6 a = some u → H9 a = some u := fun a u n e => k9 _ _ n (upd_get n8 (upd_get n7 (kp7 _ _ n e)))
      clear k9 hd8 hd7 kp7
      walk_at "go"
      refine ⟨fun σ' H' => H' = H9 ∧ ∃ wo : Int, σ' = [some (.ref st), some (.int n), some (.ref p2), some (.ref L), some (.str nm), none, none, some (.str so), some (.int (1 + cl)), some (.int wo), none] ∧ (wo = 1 ∨ (wo = 2 ∧ 1 + cl ≤ 2 ∧ so ≠ "own")), ?_, ?_⟩
      · walk_at "go"
        refine ite_b (fun b => iteT ⟨rfl, 1, rfl, Or.inl rfl⟩) (fun b => ?_)
        have nown : so ≠ "own" := fun z => of_decide_eq_false b (by rw [z])
        walk_at "go"
        refine ite_b (fun b2 => ?_) (fun b2 => ?_)
        · walk_at "go"
          refine ite_b (fun b3 => ⟨rfl, 1, rfl, Or.inl rfl⟩) (fun b3 => ⟨rfl, 2, rfl, Or.inr ⟨rfl, ?_, nown⟩⟩)
          have b3 : ¬ 2 < 1 + cl := of_decide_eq_false b3
          omega
        · refine iteN rfl ⟨rfl, 2, rfl, Or.inr ⟨rfl, ?_, nown⟩⟩
          have nopen : so ≠ "open" := fun z => of_decide_eq_false b2 (by rw [z])
          rcases hbd with ⟨_, z⟩ | ⟨z, _⟩
          · omega
          · rcases okso with z1 | z1 | z1
            · exact absurd z1 nopen
            · exact absurd z1 z
            · exact absurd z1 nown
      rintro σ' H' ⟨rfl, wo, rfl, hwo⟩
      have hL9 := kp9 _ _ nLst hL5
      refine ⟨_, rfl, .inl ⟨rfl, _, SqL.of hL9⟩, ?_⟩
      walk_at "go"
      refine ⟨st, sc, xs, y, c5 + 1 + 1, 5, rfl, hd9, by omega, by decide, by decide, fun em H10 em0 em1 k10 hd10 => ?_⟩
      have hL10 := k10 _ _ nLst hL9
      have kp10 : ∀ a u, a ≠ st → H6 a = some u → H10 a = some u := fun a u n e => k10 _ _ n (kp9 _ _ n e)
      have t10 : TS H6 H10 := fun a zs e => kp10 _ _ (ne_of e hd5.1 (fun z => nomatch z)) e
      walk_at "go"
      rename_i p11 n11
      have lv := TupsL.len tl5
      have ld : ds.length ≤ 2 := by
        rw [← List.length_map (f := LD.nm), nm5]
        exact Nat.le_trans (List.length_take_le _ _) (by omega)
      refine ⟨_, _, _, rfl, rfl, upd_get n11 hL10, sm_lt (by omega), ?_⟩
      have t11 := ts_nw (o := .tup (LD.vs ⟨nm, so, 1 + cl, wo, em⟩)) t10 n11
      have t12 : TS H6 (upd (upd H10 p11 (.tup (LD.vs ⟨nm, so, 1 + cl, wo, em⟩))) L (.lst (vs ++ [.ref p11]))) := ts_mut t11 (upd_get n11 hL10) (fun _ z => nomatch z)
      have n11L : p11 ≠ L := Ne.symm (ne_of_none hL10 n11)
      have n2st : p2 ≠ st := ne2
      refine ⟨ds ++ [⟨nm, so, 1 + cl, wo, em⟩], vs ++ [.ref p11], _, _, _, _, _, rfl, upd_same, ?_, ?_, ?_, upd_mut n2L (upd_get n11 (kp10 _ _ ne2 h25)), th5.ts t12, t12 _ _ hpl5, fun a u n e => upd_mut (frL a u n e) (upd_get n11 (kp10 _ _ n (k5 _ _ n e))), ⟨upd_mut (Ne.symm nLst) (upd_get n11 hd10.1), sqL_updD nL hd2.2.1 (hd10.nw n11).2.1, hd10.2.2⟩, by omega⟩
      · rw [List.map_append]
        exact paired_app (tl5.ts t12) (.cons ⟨p11, rfl, upd_mut n11L upd_same⟩ .nil)
      · obtain ⟨hi2, eni⟩ := List.getElem?_eq_some_iff.mp en
        rw [List.map_append, nm5, List.take_succ_eq_append_getElem hi2, eni]
        rfl
      · intro d md
        rcases List.mem_append.mp md with md | md
        · exact dr5 d md
        · rw [List.mem_singleton.mp md]
          exact ⟨okso, by show 1 ≤ 1 + cl; omega, by show 1 + cl ≤ 9; omega, hwo, em0, by show em ≤ 4; omega⟩
    · rintro σ H5 ⟨ds, vs, c5, o4, o7, o8, o9, rfl, hL5, tl5, nm5, dr5, h25, th5, hpl5, k5, hd5, lc5⟩
      walk_at "go"
      rename_i pn npn
      have lv := TupsL.len tl5
      refine ⟨⟨_, SqL.of (upd_get npn hL5)⟩, fun D nD => ?_⟩
      have wk : Walk (Itl K L) ds.length (fun H => SqL K H L vs) (YAt vs) := by
        rw [lv]
        exact walk_list
      refine lc_rel wk (fun _ d v => v = .str d.nm) (fun _ _ _ _ _ h => h) nD (by have := List.length_map (as := ds) LD.nm; rw [nm5] at this; have := List.length_take_le' (List.take j.toNat (TU.map V.str)).length TU; have : TU.length = 2 := rfl; omega) (fun H2 s => SqL.of (s _ _ (upd_get npn hL5))) (fun i x H6 H7 d Kf kf ed s6 y6 => ?_) (fun H6 acc s6 hD6 pr => ?_)
      · obtain ⟨rfl, ex⟩ := y6
        obtain ⟨d', pd, ed', rfl, hpd⟩ := tl5.at ex
        cases ed.symm.trans ed'
        have hpd := s6 _ _ (upd_get npn hpd)
        walk_at "go"
        exact kf _ H7 (Same.refl _) rfl
      · have ea : acc = (ds.map LD.nm).map .str := by
          rw [paired_map pr, List.map_map]
          rfl
        subst ea
        have k6 : KpX st H5 H6 := fun a u _ e => s6 _ _ (upd_get npn e)
        have hd6 : DrawAt K H6 st sc xs y c5 := (hd5.nw npn).same s6
        walk_at "go"
        have l2 : (ds.map LD.nm).length ≤ 2 := by
          rw [nm5]
          exact Nat.le_trans (List.length_take_le' _ _) (Nat.le_refl 2)
        have b3 : bud 3 = 506 := rfl
        have nb : (n : Int) * bud 3 ≤ 5 * bud 3 := Int.mul_le_mul_of_nonneg_right (by omega) (by decide)
        have lj : ((List.take j.toNat (TU.map V.str)).length : Int) ≤ 2 := by
          have : (List.take j.toNat (TU.map V.str)).length ≤ 2 := Nat.le_trans (List.length_take_le' _ _) (Nat.le_refl 2)
          omega
        refine ⟨st, sc, pn, D, xs, y, c5, ds.map LD.nm, n, rfl, n5, hd6, by omega, s6 _ _ upd_same, hD6, l2, fun rs vr H8 c8 okr el8 k8 hd8 lc8 hr8 => ?_⟩
        obtain ⟨pr, wr, rfl, hpr, hwr⟩ := hr8
        have t08 : TS H5 H8 := fun a zs e => k8 _ _ (ne_of e hd5.1 (fun z => nomatch z)) (s6 _ _ (upd_get npn e))
        refine ⟨_, rfl, p2, ws, rfl, Or.inl ⟨SqL.of (k8 _ _ ne2 (s6 _ _ (upd_get npn h25))), fun pa npa => ?_⟩⟩
        refine ⟨_, rfl, L, vs, rfl, Or.inl ⟨SqL.of (upd_get npa (k8 _ _ nLst (s6 _ _ (upd_get npn hL5)))), fun pb npb => ?_⟩⟩
        have s8 : Same H8 (upd (upd H8 pa (.tup ws)) pb (.tup vs)) := same_nw (same_nw (Same.refl _) npa) npb
        walk_at "go"
        rename_i px npx
        have npst : px ≠ st := fun z => by
          rw [z, (hd8.same s8).1] at npx
          cases npx
        refine ⟨st, sc, xs, y, c8, 3, rfl, (hd8.same s8).nw npx, by omega, by decide, by decide, fun j2 H9 j20 j21 k9 hd9 => ?_⟩
        have k89 : ∀ a u, a ≠ st → (upd (upd H8 pa (.tup ws)) pb (.tup vs)) a = some u → H9 a = some u := fun a u n e => k9 _ _ n (upd_get npx e)
        have npast : pa ≠ st := fun z => by
          rw [z, hd8.1] at npa
          cases npa
        have npbst : pb ≠ st := fun z => by
          rw [z, (hd8.nw npa).1] at npb
          cases npb
        have ha9 := k89 _ _ npast (upd_get npb upd_same)
        have hb9 := k89 _ _ npbst upd_same
        have t89 : TS H8 H9 := fun a zs e => k89 _ _ (ne_of e hd8.1 (fun z => nomatch z)) (s8 _ _ e)
        refine ⟨j2, rfl, slA_take (xs := XY.map .str) (k9 _ _ npst upd_same) j20 fun px2 H10 s10 hpx => ?_⟩
        walk_at "go"
        rename_i pf nf
        have t10 := ts_nw (o := .tup [.ref pa, .ref pb, .ref pr, .ref px2]) (same_ts s10) nf
        have t5f := (t08.trans t89).trans t10
        exact q ⟨hs, ds, rs, XY.take j2.toNat⟩ (.ref pf) _ _ ⟨dh, ⟨_, by omega, nm5⟩, dr5, okr, by show rs.len ≤ 5; omega, ⟨j2.toNat, by omega, rfl⟩⟩ (fun a u n e => upd_get nf (s10 _ _ (k89 _ _ n (s8 _ _ (k8 _ _ n (k6 _ _ n (k5 _ _ n e))))))) ((hd9.same s10).nw nf) (by omega)
          ⟨pf, pa, pb, pr, px2, ws, vs, wr, rfl, upd_same, t10 _ _ ha9, th5.ts t5f, t10 _ _ hb9, tl5.ts t5f, t10 _ _ (t89 _ _ hpr), hwr.ts (t89.trans t10), upd_get nf (by rw [List.map_take]; exact hpx)⟩
end
end NW
/-! ## Plain: handings, their open and hidden parts -/
namespace NW
open PySem PySem.Spec PyProof.Rows L2
abbrev Mem (g : List Part) (os : List (List Part)) : Prop := Paired (fun x o => x ∈ o) g os
theorem fold_mem {α : Type} : ∀ {os : List (List α)} {f : List (List α)} {g : List α}, g ∈ os.foldl longer f ↔ ∃ a ∈ f, ∃ b, g = a ++ b ∧ Paired (fun x o => x ∈ o) b os
  | [], f, g => ⟨fun h => ⟨g, h, [], (List.append_nil g).symm, .nil⟩, fun ⟨a, ha, b, e, p⟩ => by
      cases p
      rw [e, List.append_nil]
      exact ha⟩
  | o :: os, f, g => by
    show g ∈ os.foldl longer (longer f o) ↔ _
    rw [fold_mem]
    constructor
    · rintro ⟨a, ha, b, rfl, pb⟩
      obtain ⟨a0, h0, x, hx, rfl⟩ := longer_mem ha
      exact ⟨a0, h0, x :: b, by rw [List.append_assoc]; rfl, .cons hx pb⟩
    · rintro ⟨a, ha, b, rfl, pb⟩
      cases pb with
      | cons hx pb =>
        rename_i x b
        exact ⟨a ++ [x], List.mem_flatMap.mpr ⟨a, ha, List.mem_map.mpr ⟨x, hx, rfl⟩⟩, b, by rw [List.append_assoc]; rfl, pb⟩
theorem prodL_iff {α : Type} {os : List (List α)} {g : List α} : g ∈ prodL os ↔ Paired (fun x o => x ∈ o) g os := by
  unfold prodL
  rw [fold_mem]
  constructor
  · rintro ⟨a, ha, b, rfl, p⟩
    cases List.mem_singleton.mp ha
    exact p
  · exact fun p => ⟨[], List.mem_singleton.mpr rfl, g, rfl, p⟩
def fil (ps : List (Str × List Part)) (k : Str) : List (List Part) := (ps.filter fun x => decide (x.1 = k)).map (·.2)
theorem fil_pos {x : Str × List Part} {ps : List (Str × List Part)} {k : Str} (e : x.1 = k) : fil (x :: ps) k = x.2 :: fil ps k := by
  unfold fil
  rw [List.filter_cons_of_pos (p := fun x : Str × List Part => decide (x.1 = k)) (decide_eq_true e)]
  rfl
theorem fil_neg {x : Str × List Part} {ps : List (Str × List Part)} {k : Str} (e : ¬ x.1 = k) : fil (x :: ps) k = fil ps k := by
  unfold fil
  rw [List.filter_cons_of_neg (p := fun x : Str × List Part => decide (x.1 = k)) (by rw [decide_eq_true_eq]; exact e)]
theorem psM_pos {s : Str} {ss : List Str} {x : Part} {g : List Part} {k : Str} (e : s = k) : psM (s :: ss) (x :: g) k = x :: psM ss g k := by
  unfold psM
  rw [List.zip_cons_cons, List.filter_cons_of_pos (p := fun x : Part × Str => decide (x.2 = k)) (decide_eq_true e)]
  rfl
theorem psM_neg {s : Str} {ss : List Str} {x : Part} {g : List Part} {k : Str} (e : ¬ s = k) : psM (s :: ss) (x :: g) k = psM ss g k := by
  unfold psM
  rw [List.zip_cons_cons, List.filter_cons_of_neg (p := fun x : Part × Str => decide (x.2 = k)) (by rw [decide_eq_true_eq]; exact e)]
theorem op_hid : ¬ (("open" : Str) = "hidden") := by decide
theorem hid_op : ¬ (("hidden" : Str) = "open") := by decide
theorem weave_o {ss : List Str} {x : Part} {o h g : List Part} (e : weave ss o h = some g) : weave ("open" :: ss) (x :: o) h = some (x :: g) := by
  show (if ("open" : Str) = "open" then (weave ss o h).map (x :: ·) else _) = _
  rw [if_pos rfl, e]
  rfl
theorem weave_h {ss : List Str} {x : Part} {o h g : List Part} (e : weave ss o h = some g) : weave ("hidden" :: ss) o (x :: h) = some (x :: g) := by
  show (if ("hidden" : Str) = "open" then _ else (weave ss o h).map (x :: ·)) = _
  rw [if_neg hid_op, e]
  rfl
abbrev Kinds (ps : List (Str × List Part)) : Prop := ∀ x ∈ ps, x.1 = "open" ∨ x.1 = "hidden"
theorem weave_a : ∀ {ps : List (Str × List Part)} {o h : List Part}, Kinds ps → Mem o (fil ps "open") → Mem h (fil ps "hidden") →
    ∃ g, weave (ps.map (·.1)) o h = some g ∧ Mem g (ps.map (·.2)) ∧ psM (ps.map (·.1)) g "open" = o ∧ psM (ps.map (·.1)) g "hidden" = h
  | [], o, h, _, ho, hh => by
    cases ho
    cases hh
    exact ⟨[], rfl, .nil, rfl, rfl⟩
  | (k, os) :: ps, o, h, hk, ho, hh => by
    have hk' : Kinds ps := fun x m => hk x (List.mem_cons_of_mem _ m)
    rcases hk _ List.mem_cons_self with e | e
    · have e : k = "open" := e
      subst e
      rw [fil_pos rfl] at ho
      rw [fil_neg op_hid] at hh
      cases ho with
      | cons hx ho =>
        rename_i x o
        obtain ⟨g, e1, e2, e3, e4⟩ := weave_a hk' ho hh
        exact ⟨x :: g, weave_o e1, .cons hx e2, (psM_pos rfl).trans (congrArg _ e3), (psM_neg op_hid).trans e4⟩
    · have e : k = "hidden" := e
      subst e
      rw [fil_pos rfl] at hh
      rw [fil_neg hid_op] at ho
      cases hh with
      | cons hx hh =>
        rename_i x h
        obtain ⟨g, e1, e2, e3, e4⟩ := weave_a hk' ho hh
        exact ⟨x :: g, weave_h e1, .cons hx e2, (psM_neg hid_op).trans e3, (psM_pos rfl).trans (congrArg _ e4)⟩
theorem weave_b : ∀ {ps : List (Str × List Part)} {g : List Part}, Kinds ps → Mem g (ps.map (·.2)) →
    Mem (psM (ps.map (·.1)) g "open") (fil ps "open") ∧ Mem (psM (ps.map (·.1)) g "hidden") (fil ps "hidden") ∧ weave (ps.map (·.1)) (psM (ps.map (·.1)) g "open") (psM (ps.map (·.1)) g "hidden") = some g
  | [], g, _, hg => by
    cases hg
    exact ⟨.nil, .nil, rfl⟩
  | (k, os) :: ps, g, hk, hg => by
    have hk' : Kinds ps := fun x m => hk x (List.mem_cons_of_mem _ m)
    cases hg with
    | cons hx hg =>
      rename_i x g
      obtain ⟨h1, h2, h3⟩ := weave_b hk' hg
      rcases hk _ List.mem_cons_self with e | e
      · have e : k = "open" := e
        subst e
        rw [fil_pos rfl, fil_neg op_hid, List.map_cons, psM_pos rfl, psM_neg op_hid]
        exact ⟨.cons hx h1, h2, weave_o h3⟩
      · have e : k = "hidden" := e
        subst e
        rw [fil_pos rfl, fil_neg hid_op, List.map_cons, psM_pos rfl, psM_neg hid_op]
        exact ⟨h1, .cons hx h2, weave_h h3⟩
theorem sorts_eq (p : Prog) : sorts p = (partsP p).map (·.1) := by
  unfold sorts
  rw [partsP_pts, List.map_map]
  rfl
theorem kinds_of {p : Prog} (h : okProg p) : Kinds (partsP p) := by
  intro x m
  rcases List.mem_append.mp m with m | m
  · obtain ⟨d, md, rfl⟩ := List.mem_map.mp m
    exact (h.ph d md).2.1
  · obtain ⟨d, md, rfl⟩ := List.mem_map.mp m
    obtain ⟨m1, m2⟩ := List.mem_filter.mp md
    have m2 : ¬ d.so = "own" := of_decide_eq_true m2
    rcases (h.pl d m1).2.1 with e | e | e
    · exact Or.inl e
    · exact Or.inr e
    · exact absurd e m2
theorem rng_mem {n i : Int} (h : i ∈ rng n) : 0 ≤ i ∧ i < n := by
  obtain ⟨k, hk, rfl⟩ := List.mem_map.mp h
  have := List.mem_range.mp hk
  show 0 ≤ (k : Int) ∧ (k : Int) < n
  omega
theorem goodL_of : ∀ {ls : List LD} {g : List Part}, Mem g ((nonown ls).map LD.opts) → GoodL ls g
  | [], g, h => by
    cases h
    exact .nil
  | d :: ls, g, h => by
    by_cases e : d.so = "own"
    · have n : nonown (d :: ls) = nonown ls := List.filter_cons_of_neg (by rw [decide_eq_true_eq]; exact fun z => z e)
      rw [n] at h
      exact .own e (goodL_of h)
    · have n : nonown (d :: ls) = d :: nonown ls := List.filter_cons_of_pos (decide_eq_true e)
      rw [n] at h
      cases h with
      | cons hx h =>
        rename_i x g
        obtain ⟨ws, mw, rfl⟩ := List.mem_map.mp hx
        have lw := prodL_mem_len mw
        rw [List.length_replicate] at lw
        refine .cs e lw (fun i mi => ?_) (goodL_of h)
        obtain ⟨k, hk⟩ := List.getElem?_of_mem mi
        obtain ⟨o, ho, mo⟩ := Paired.one (prodL_iff.mp mw) hk
        obtain ⟨_, e2⟩ := List.getElem?_eq_some_iff.mp ho
        rw [List.getElem_replicate] at e2
        rw [← e2] at mo
        exact rng_mem mo
theorem goodP_of : ∀ {hs : List PD} {ls : List LD} {g : List Part}, Mem g (hs.map PD.opts ++ (nonown ls).map LD.opts) → GoodP hs ls g
  | [], _, _, h => .nil (goodL_of h)
  | d :: hs, ls, g, h => by
    cases h with
    | cons hx h =>
      obtain ⟨i, mi, rfl⟩ := List.mem_map.mp hx
      exact .w (rng_mem mi) (goodP_of h)
theorem parts_opts (p : Prog) : (partsP p).map (·.2) = p.handed.map PD.opts ++ (nonown p.lists).map LD.opts := by
  unfold partsP
  rw [List.map_append, List.map_map, List.map_map]
  rfl
theorem hands_iff {p : Prog} {g : List Part} : g ∈ hands p ↔ Mem g ((partsP p).map (·.2)) := prodL_iff
theorem hands_good {p : Prog} {g : List Part} (h : g ∈ hands p) : Good p g := by
  have h := hands_iff.mp h
  rw [parts_opts] at h
  exact goodP_of h
theorem hands_sorts {p : Prog} {g : List Part} (h : g ∈ hands p) : g.length = (sorts p).length := by
  have e := Paired.length (hands_iff.mp h)
  rw [List.length_map] at e
  rw [e, sorts_eq, List.length_map]
theorem weaves_of {p : Prog} (k : okProg p) : weaves p := fun o ho h hh => by
  obtain ⟨g, e1, e2, _, _⟩ := weave_a (kinds_of k) (prodL_iff.mp ho) (prodL_iff.mp hh)
  rw [← sorts_eq] at e1
  exact ⟨g, e1, hands_iff.mpr e2, hands_good (hands_iff.mpr e2)⟩
/-- still, as the law asks it -/
def stillL (p : Prog) (m : Nat) : Prop := ∀ g1 ∈ hands p, ∀ g2 ∈ hands p, psM (sorts p) g1 "open" = psM (sorts p) g2 "open" → outP p g1 = outP p g2 → lnP p m g1 = lnP p m g2
theorem still_iff {p : Prog} {m : Nat} (k : okProg p) : stillL p m ↔ stillP p m := by
  constructor
  · intro h o ho h1 m1 h2 m2 g1 g2 e1 e2 eo
    obtain ⟨x1, a1, b1, c1, _⟩ := weave_a (kinds_of k) (prodL_iff.mp ho) (prodL_iff.mp m1)
    obtain ⟨x2, a2, b2, c2, _⟩ := weave_a (kinds_of k) (prodL_iff.mp ho) (prodL_iff.mp m2)
    rw [← sorts_eq] at a1 a2 c1 c2
    cases a1.symm.trans e1
    cases a2.symm.trans e2
    exact h _ (hands_iff.mpr b1) _ (hands_iff.mpr b2) (c1.trans c2.symm) eo
  · intro h g1 m1 g2 m2 eo ee
    obtain ⟨a1, b1, c1⟩ := weave_b (kinds_of k) (hands_iff.mp m1)
    obtain ⟨a2, b2, c2⟩ := weave_b (kinds_of k) (hands_iff.mp m2)
    rw [← sorts_eq] at a1 b1 c1 a2 b2 c2
    rw [← eo] at c2
    exact h _ (prodL_iff.mpr a1) _ (prodL_iff.mpr b1) _ (prodL_iff.mpr b2) _ _ c1 c2 ee
/-! ### bounds of what is drawn, in any layout -/
structure DrawnE (p : Prog) : Prop where
  hd : drawnH p.handed
  nm : p.lists.map LD.nm ∈ ([[], ["t"], ["t", "u"], ["u", "t"]] : List (List Str))
  ok : ∀ d ∈ p.lists, okSo d.so ∧ 1 ≤ d.cells ∧ d.cells ≤ 9 ∧ (d.wo = 1 ∨ (d.wo = 2 ∧ d.cells ≤ 2 ∧ d.so ≠ "own")) ∧ 0 ≤ d.em ∧ d.em ≤ 15
  rw : okRows (p.lists.map LD.nm) 3 p.rows
  rl : p.rows.len ≤ 5
  tn : ∃ j, j ≤ 2 ∧ p.told = XY.take j
theorem Drawn.e {p : Prog} (h : Drawn p) : DrawnE p := by
  refine ⟨h.hd, ?_, fun d m => ?_, h.rw, h.rl, h.tn⟩
  · obtain ⟨j, hj, e⟩ := h.ls
    rw [e]
    have : j = 0 ∨ j = 1 ∨ j = 2 := by omega
    rcases this with rfl | rfl | rfl <;> decide
  · obtain ⟨a, b, c, d, e, f⟩ := h.ok d m
    exact ⟨a, b, c, d, e, by omega⟩
theorem hofC_le (f m : Int) (hm : 0 ≤ m) : ∀ n : Nat, hofC f m n ≤ f * m ^ n
  | 0 => by
    show f ≤ _
    rw [Int.pow_zero, Int.mul_one]
    exact Int.le_refl _
  | n + 1 => by
    have h : hofC f m n * m ≤ f * m ^ n * m := Int.mul_le_mul_of_nonneg_right (hofC_le f m hm n) hm
    rw [Int.pow_succ, ← Int.mul_assoc]
    show (if 257 < hofC f m n * m then 257 else hofC f m n * m) ≤ _
    split <;> omega
theorem hofC_4 {f m : Int} {n : Nat} (f0 : 0 ≤ f) (h : m = 1 ∨ (m = 2 ∧ n ≤ 2)) : hofC f m n ≤ 4 * f := by
  rcases h with rfl | ⟨rfl, h⟩
  · have := hofC_le f 1 (by decide) n
    rw [Int.one_pow] at this
    omega
  · have := hofC_le f 2 (by decide) n
    have : n = 0 ∨ n = 1 ∨ n = 2 := by omega
    rcases this with rfl | rfl | rfl <;> omega
theorem hofL_le : ∀ {ls : List LD} {f : Int} {k : Str}, (∀ d ∈ ls, d.wo = 1 ∨ (d.wo = 2 ∧ d.cells ≤ 2)) → 0 ≤ f → ls.length ≤ 2 → hofL f ls k ≤ 16 * f := by
  have one : ∀ {d : LD} {f : Int} {k : Str}, (d.wo = 1 ∨ (d.wo = 2 ∧ d.cells ≤ 2)) → 0 ≤ f → hofC f d.wo (if d.so = k then d.cells.toNat else 0) ≤ 4 * f := fun h f0 => by
    refine hofC_4 f0 (h.imp id fun z => ⟨z.1, ?_⟩)
    split <;> omega
  have pos : ∀ {f m : Int} (n : Nat), 0 ≤ f → 0 ≤ m → 0 ≤ hofC f m n := fun {f m} n f0 m0 => by
    induction n with
    | zero => exact f0
    | succ n ih =>
      have := Int.mul_nonneg ih m0
      show 0 ≤ (if 257 < hofC f m n * m then 257 else hofC f m n * m)
      split <;> omega
  intro ls f k h f0 l
  match ls, h, l with
  | [], _, _ =>
    show f ≤ _
    omega
  | [d], h, _ =>
    have := one (k := k) (h d List.mem_cons_self) f0
    show hofC f d.wo _ ≤ _
    omega
  | [d, e], h, _ =>
    have h1 := h d List.mem_cons_self
    have a := one (k := k) h1 f0
    have p := pos (if d.so = k then d.cells.toNat else 0) f0 (m := d.wo) (by omega)
    have b := one (k := k) (h e (List.mem_cons_of_mem _ List.mem_cons_self)) p
    show hofC (hofC f d.wo _) e.wo _ ≤ _
    omega
theorem DrawnE.len {p : Prog} (h : DrawnE p) : p.lists.length ≤ 2 := by
  have e : (p.lists.map LD.nm).length = p.lists.length := List.length_map _
  have n := h.nm
  generalize p.lists.map LD.nm = ns at n e
  have n : ns = [] ∨ ns = ([("t" : Str)] : List Str) ∨ ns = ([("t" : Str), "u"] : List Str) ∨ ns = ([("u" : Str), "t"] : List Str) := by
    simpa using n
  rcases n with rfl | rfl | rfl | rfl <;> (rw [← e]; decide)
theorem drawnH_ok {hs : List PD} (h : drawnH hs) : hs.length ≤ 2 ∧ (∀ d ∈ hs, okPD d ∧ d.sz ≤ 3) ∧ (hs.map PD.nm = ([("h" : Str)] : List Str) ∨ hs.map PD.nm = ([("h" : Str), "a"] : List Str)) ∧ ∀ k, 0 ≤ hofP hs k ∧ hofP hs k ≤ 3 := by
  have oh : okNm "h" := ⟨by decide, by decide, by decide⟩
  have oa : okNm "a" := ⟨by decide, by decide, by decide⟩
  obtain ⟨s, s1, s2, rfl | ⟨z, z1, z2, rfl⟩⟩ := h
  · refine ⟨Nat.le_of_ble_eq_true rfl, fun d m => ?_, Or.inl rfl, fun k => ?_⟩
    · rw [List.mem_singleton.mp m]
      exact ⟨⟨oh, Or.inr rfl, by show 1 ≤ s; omega, by show s ≤ 256; omega⟩, s2⟩
    · show 0 ≤ 1 * (if ("hidden" : Str) = k then s else 1) ∧ 1 * (if ("hidden" : Str) = k then s else 1) ≤ 3
      split <;> omega
  · refine ⟨Nat.le_of_ble_eq_true rfl, fun d m => ?_, Or.inr rfl, fun k => ?_⟩
    · rcases List.mem_cons.mp m with rfl | m
      · exact ⟨⟨oh, Or.inr rfl, by show 1 ≤ s; omega, by show s ≤ 256; omega⟩, s2⟩
      · rw [List.mem_singleton.mp m]
        exact ⟨⟨oa, Or.inl rfl, by show 1 ≤ z; omega, by show z ≤ 256; omega⟩, z2⟩
    · show 0 ≤ 1 * (if ("hidden" : Str) = k then s else 1) * (if ("open" : Str) = k then z else 1) ∧ 1 * (if ("hidden" : Str) = k then s else 1) * (if ("open" : Str) = k then z else 1) ≤ 3
      by_cases e : ("hidden" : Str) = k
      · subst e
        rw [if_pos rfl, if_neg op_hid]
        omega
      · rw [if_neg e]
        split <;> omega
theorem DrawnE.okS {p : Prog} (h : DrawnE p) : okS p := by
  obtain ⟨a, b, _, _⟩ := drawnH_ok h.hd
  exact ⟨a, fun d m => ⟨(b d m).1.2.2.1, (b d m).2⟩⟩
theorem DrawnE.nms {p : Prog} (h : DrawnE p) : p.lists.map LD.nm = [] ∨ p.lists.map LD.nm = ([("t" : Str)] : List Str) ∨ p.lists.map LD.nm = ([("t" : Str), "u"] : List Str) ∨ p.lists.map LD.nm = ([("u" : Str), "t"] : List Str) := by
  have n := h.nm
  generalize p.lists.map LD.nm = ns at n
  simpa using n
theorem DrawnE.okL {p : Prog} (h : DrawnE p) : okL p.lists := by
  have n := h.nms
  refine ⟨h.len, fun d m => ?_, ?_, ?_, fun d m => ?_⟩
  · obtain ⟨a, b, c, d, e, f⟩ := h.ok d m
    exact ⟨e, f, b, c⟩
  · rcases n with e | e | e | e <;> (rw [e]; decide)
  · rcases n with e | e | e | e <;> (rw [e]; unfold okLs; decide)
  · obtain ⟨a, b, c, d, e, f⟩ := h.ok d m
    exact d.imp id fun z => ⟨z.1, z.2.1⟩
theorem DrawnE.okP {p : Prog} (h : DrawnE p) : okProg p := by
  obtain ⟨a, b, c, d⟩ := drawnH_ok h.hd
  have n := h.nms
  have l := h.len
  have ht : ∀ k, hof p k ≤ 48 := fun k => by
    have := hofL_le (ls := p.lists) (f := hofP p.handed k) (k := k) (fun d m => (h.okL).sm d m) (d k).1 l
    have := (d k).2
    show hofL (hofP p.handed k) p.lists k ≤ 48
    omega
  refine ⟨by omega, by omega, ?_, fun d m => (b d m).1, fun d m => ?_, ?_, h.okL.nm, h.rw, h.rl, ?_, ?_, Int.le_trans (ht _) (by decide), Int.le_trans (ht _) (by decide)⟩
  · obtain ⟨j, hj, e⟩ := h.tn
    rw [e, List.length_take]
    omega
  · obtain ⟨a, b, c, dw, e, f⟩ := h.ok d m
    have mn : d.nm ∈ p.lists.map LD.nm := List.mem_map_of_mem m
    refine ⟨?_, a, b, by omega, by omega, by omega, fun z => dw.elim id fun q => absurd z q.2.2, e, f⟩
    have : d.nm = "t" ∨ d.nm = "u" := h.okL.nm _ mn
    rcases this with e | e <;> (rw [e]; exact ⟨by decide, by decide, by decide⟩)
  · rcases c with c | c <;> rcases n with e | e | e | e <;> (rw [c, e]; decide)
  · obtain ⟨j, hj, e⟩ := h.tn
    have : j = 0 ∨ j = 1 ∨ j = 2 := by omega
    rw [e]
    rcases this with rfl | rfl | rfl
    · exact fun x m => nomatch m
    · intro x m
      rw [List.mem_singleton.mp m]
      exact Or.inr (Or.inr (Or.inl rfl))
    · intro x m
      rcases List.mem_cons.mp m with rfl | m
      · exact Or.inr (Or.inr (Or.inl rfl))
      · rw [List.mem_singleton.mp m]
        exact Or.inr (Or.inr (Or.inr rfl))
  · obtain ⟨j, hj, e⟩ := h.tn
    have : j = 0 ∨ j = 1 ∨ j = 2 := by omega
    rw [e]
    rcases this with rfl | rfl | rfl <;> decide
/-! ### layouts -/
inductive LayC : List LD → List LD → Prop
  | nil : LayC [] []
  | one {d : LD} {e : Int} (h : 0 ≤ e ∧ e ≤ 15) : LayC [d] [{ d with em := e }]
  | two {d1 d2 : LD} {e1 e2 : Int} (h1 : 0 ≤ e1 ∧ e1 ≤ 15) (h2 : 0 ≤ e2 ∧ e2 ≤ 15) : LayC [d1, d2] [{ d1 with em := e1 }, { d2 with em := e2 }]
  | swp {d1 d2 : LD} {e1 e2 : Int} (h1 : 0 ≤ e1 ∧ e1 ≤ 15) (h2 : 0 ≤ e2 ∧ e2 ≤ 15) : LayC [d1, d2] [{ d2 with em := e1 }, { d1 with em := e2 }]
theorem layC_of {p : Prog} {o g : List Int} (l : p.lists.length ≤ 2) (ho : o ∈ permsM p.lists.length p.lists.length) (lg : g.length = p.lists.length) (hg : ∀ e ∈ g, 0 ≤ e ∧ e ≤ 15) : LayC p.lists (layP p o g).lists := by
  show LayC p.lists ((o.zip g).map fun x => { ldAt p.lists x.1 with em := x.2 })
  generalize p.lists = ls at l ho lg
  match ls, g, l, lg with
  | [], [], _, _ =>
    have : o = [] := by
      have ho : o ∈ ([[]] : List (List Int)) := ho
      exact List.mem_singleton.mp ho
    subst this
    exact .nil
  | [d], [e], _, _ =>
    have : o = [0] := by
      have ho : o ∈ ([[0]] : List (List Int)) := ho
      exact List.mem_singleton.mp ho
    subst this
    exact .one (hg e List.mem_cons_self)
  | [d1, d2], [e1, e2], _, _ =>
    have : o = [0, 1] ∨ o = [1, 0] := by
      have ho : o ∈ ([[0, 1], [1, 0]] : List (List Int)) := ho
      rcases List.mem_cons.mp ho with h | h
      · exact Or.inl h
      · exact Or.inr (List.mem_singleton.mp h)
    have h1 := hg e1 List.mem_cons_self
    have h2 := hg e2 (List.mem_cons_of_mem _ List.mem_cons_self)
    rcases this with rfl | rfl
    · exact .two h1 h2
    · exact .swp h1 h2
mutual
theorem okRow.sub {a b : List Str} (s : ∀ l ∈ a, l ∈ b) : ∀ {r : Row} {k : Nat}, okRow a k r → okRow b k r
  | .set .., _, h => h
  | .get .., _, h => ⟨h.1, s _ h.2.1, h.2.2⟩
  | .put .., _, h => ⟨s _ h.1, h.2⟩
  | .pick .., _, h => h
  | .lt .., _, h => h
  | .ite _ t e, _, h => ⟨h.1, h.2.1, h.2.2.1, h.2.2.2.1, okRows.sub s h.2.2.2.2.1, okRows.sub s h.2.2.2.2.2⟩
  | .whl _ _ b, _, h => ⟨h.1, h.2.1, h.2.2.1, h.2.2.2.1, h.2.2.2.2.1, okRows.sub s h.2.2.2.2.2⟩
theorem okRows.sub {a b : List Str} (s : ∀ l ∈ a, l ∈ b) : ∀ {rs : Rows} {k : Nat}, okRows a k rs → okRows b k rs
  | .nil, _, _ => True.intro
  | .cons r rs, _, h => ⟨okRow.sub s h.1, okRows.sub s h.2⟩
end
theorem DrawnE.lay {p : Prog} {ls : List LD} (h : DrawnE p) (c : LayC p.lists ls) : DrawnE { p with lists := ls } := by
  have n := h.nms
  have ok := h.ok
  have rw' := h.rw
  have key : ∀ (d : LD) (e : Int), d ∈ p.lists → (0 ≤ e ∧ e ≤ 15) → okSo d.so ∧ 1 ≤ d.cells ∧ d.cells ≤ 9 ∧ (d.wo = 1 ∨ (d.wo = 2 ∧ d.cells ≤ 2 ∧ d.so ≠ "own")) ∧ 0 ≤ e ∧ e ≤ 15 := fun d e m he => ⟨(ok d m).1, (ok d m).2.1, (ok d m).2.2.1, (ok d m).2.2.2.1, he.1, he.2⟩
  have nmc : ls.map LD.nm ∈ ([[], ["t"], ["t", "u"], ["u", "t"]] : List (List Str)) := by
    generalize p.lists = l0 at c n
    cases c with
    | nil => decide
    | one h =>
      rcases n with e | e | e | e <;> (first | (injection e with e1 e2; show [_] ∈ _; rw [e1]; (first | decide | cases e2)) | cases e)
    | two h1 h2 =>
      rcases n with e | e | e | e <;> (first | (injection e with e1 e2; injection e2 with e2 e3; show [_, _] ∈ _; rw [e1, e2]; decide) | cases e | (injection e with e1 e2; cases e2))
    | swp h1 h2 =>
      rcases n with e | e | e | e <;> (first | (injection e with e1 e2; injection e2 with e2 e3; show [_, _] ∈ _; rw [e1, e2]; decide) | cases e | (injection e with e1 e2; cases e2))
  refine ⟨h.hd, nmc, fun d m => ?_, okRows.sub (fun l ml => ?_) rw', h.rl, h.tn⟩
  · have m : d ∈ ls := m
    generalize p.lists = l0 at c key
    cases c with
    | nil => cases m
    | @one a x h =>
      rw [List.mem_singleton.mp m]
      exact key a x List.mem_cons_self h
    | @two a b x y h1 h2 =>
      rcases List.mem_cons.mp m with rfl | m
      · exact key a x List.mem_cons_self h1
      · rw [List.mem_singleton.mp m]
        exact key b y (List.mem_cons_of_mem _ List.mem_cons_self) h2
    | @swp a b x y h1 h2 =>
      rcases List.mem_cons.mp m with rfl | m
      · exact key b x (List.mem_cons_of_mem _ List.mem_cons_self) h1
      · rw [List.mem_singleton.mp m]
        exact key a y List.mem_cons_self h2
  · show l ∈ ls.map LD.nm
    generalize p.lists = l0 at c ml
    cases c with
    | nil => exact ml
    | one h => exact ml
    | two h1 h2 => exact ml
    | swp h1 h2 =>
      rcases List.mem_cons.mp ml with rfl | ml
      · exact List.mem_cons_of_mem _ List.mem_cons_self
      · rw [List.mem_singleton.mp ml]
        exact List.mem_cons_self
theorem envG_app (b : List Part) : ∀ (hs : List PD) (a : List Part) (e : EnvM), a.length = hs.length → envG hs (a ++ b) e = envG hs a e := by
  intro hs
  induction hs with
  | nil => exact fun _ _ _ => rfl
  | cons d hs ih =>
    intro a e l
    cases a with
    | nil => cases l
    | cons x a =>
      cases x with
      | w i => exact ih a _ (Nat.succ.inj l)
      | cs ws => rfl
theorem mem_app : ∀ {as bs : List (List Part)} {g : List Part}, Mem g (as ++ bs) → ∃ a b, g = a ++ b ∧ Mem a as ∧ Mem b bs
  | [], _, g, h => ⟨[], g, rfl, .nil, h⟩
  | _ :: as, bs, _, h => by
    cases h with
    | cons hx h =>
      obtain ⟨a, b, rfl, h1, h2⟩ := mem_app h
      exact ⟨_ :: a, b, rfl, .cons hx h1, h2⟩
theorem memG_swap {d1 d2 : LD} {e1 e2 : Int} {b : List Part} (ne : ¬ d1.nm = d2.nm) (h : Mem b ((nonown [{ d2 with em := e1 }, { d1 with em := e2 }]).map LD.opts)) :
    ∃ b', Mem b' ((nonown [d1, d2]).map LD.opts) ∧ memG [{ d2 with em := e1 }, { d1 with em := e2 }] b = memG [d1, d2] b' := by
  have no : ∀ {d : LD} {r : List LD}, d.so = "own" → nonown (d :: r) = nonown r := fun e => List.filter_cons_of_neg (by rw [decide_eq_true_eq]; exact fun z => z e)
  have nn : ∀ {d : LD} {r : List LD}, ¬ d.so = "own" → nonown (d :: r) = d :: nonown r := fun e => List.filter_cons_of_pos (decide_eq_true e)
  by_cases c1 : d1.so = "own" <;> by_cases c2 : d2.so = "own"
  · rw [no (d := { d2 with em := e1 }) c2, no (d := { d1 with em := e2 }) c1] at h
    cases h
    refine ⟨[], by rw [no c1, no c2]; exact .nil, funext fun l => ?_⟩
    rw [memG_own c1, memG_own c2, memG_own (d := { d2 with em := e1 }) c2, memG_own (d := { d1 with em := e2 }) c1]
    by_cases z : d1.nm = l
    · subst z
      rw [if_pos rfl, if_neg (fun z => ne z.symm), if_pos rfl]
    · rw [if_neg z, if_neg z]
  · rw [nn (d := { d2 with em := e1 }) c2, no (d := { d1 with em := e2 }) c1] at h
    cases h with
    | cons hx h =>
      cases h
      obtain ⟨ws, mw, rfl⟩ := List.mem_map.mp hx
      refine ⟨[.cs ws], by rw [no c1, nn c2]; exact .cons hx .nil, funext fun l => ?_⟩
      rw [memG_own c1, memG_cs c2, memG_cs (d := { d2 with em := e1 }) c2, memG_own (d := { d1 with em := e2 }) c1]
      by_cases z : d1.nm = l
      · subst z
        rw [if_pos rfl, if_neg (fun z => ne z.symm), if_pos rfl]
      · rw [if_neg z, if_neg z]
  · rw [no (d := { d2 with em := e1 }) c2, nn (d := { d1 with em := e2 }) c1] at h
    cases h with
    | cons hx h =>
      cases h
      obtain ⟨ws, mw, rfl⟩ := List.mem_map.mp hx
      refine ⟨[.cs ws], by rw [nn c1, no c2]; exact .cons hx .nil, funext fun l => ?_⟩
      rw [memG_cs c1, memG_own c2, memG_own (d := { d2 with em := e1 }) c2, memG_cs (d := { d1 with em := e2 }) c1]
      by_cases z : d1.nm = l
      · subst z
        rw [if_pos rfl, if_neg (fun z => ne z.symm), if_pos rfl]
      · rw [if_neg z, if_neg z]
  · rw [nn (d := { d2 with em := e1 }) c2, nn (d := { d1 with em := e2 }) c1] at h
    cases h with
    | cons hx h =>
      cases h with
      | cons hy h =>
        cases h
        obtain ⟨ws, mw, rfl⟩ := List.mem_map.mp hx
        obtain ⟨zs, mz, rfl⟩ := List.mem_map.mp hy
        refine ⟨[.cs zs, .cs ws], by rw [nn c1, nn c2]; exact .cons hy (.cons hx .nil), funext fun l => ?_⟩
        rw [memG_cs c1, memG_cs c2, memG_cs (d := { d2 with em := e1 }) c2, memG_cs (d := { d1 with em := e2 }) c1]
        by_cases z : d1.nm = l
        · subst z
          rw [if_pos rfl, if_neg (fun z => ne z.symm), if_pos rfl]
        · rw [if_neg z, if_neg z]
theorem opts_em : ∀ {as bs : List LD}, Paired (fun a b => a.so = b.so ∧ a.cells = b.cells ∧ a.wo = b.wo ∧ a.nm = b.nm) as bs → (nonown as).map LD.opts = (nonown bs).map LD.opts ∧ memG as = memG bs
  | [], [], .nil => ⟨rfl, rfl⟩
  | a :: as, b :: bs, .cons ⟨h1, h2, h3, h4⟩ t => by
    obtain ⟨i1, i2⟩ := opts_em t
    constructor
    · by_cases c : a.so = "own"
      · rw [show nonown (a :: as) = nonown as from List.filter_cons_of_neg (by rw [decide_eq_true_eq]; exact fun z => z c), show nonown (b :: bs) = nonown bs from List.filter_cons_of_neg (by rw [decide_eq_true_eq, ← h1]; exact fun z => z c)]
        exact i1
      · rw [show nonown (a :: as) = a :: nonown as from List.filter_cons_of_pos (decide_eq_true c), show nonown (b :: bs) = b :: nonown bs from List.filter_cons_of_pos (decide_eq_true (by rw [← h1]; exact c))]
        rw [List.map_cons, List.map_cons, i1]
        unfold LD.opts
        rw [h2, h3]
    · funext g l
      show (if a.so = "own" then (if a.nm = l then List.replicate a.cells.toNat 0 else memG as g l) else match g with | .cs ws :: g => if a.nm = l then ws else memG as g l | _ => []) = (if b.so = "own" then (if b.nm = l then List.replicate b.cells.toNat 0 else memG bs g l) else match g with | .cs ws :: g => if b.nm = l then ws else memG bs g l | _ => [])
      rw [h1, h2, h4, i2]
theorem lay_mc0 {p : Prog} {ls : List LD} (nd : (p.lists.map LD.nm).Nodup) (c : LayC p.lists ls) {g : List Part} (hg : g ∈ hands { p with lists := ls }) : ∃ g' ∈ hands p, mc0 { p with lists := ls } g = mc0 p g' := by
  have hg := hands_iff.mp hg
  rw [parts_opts] at hg
  obtain ⟨a, b, rfl, ha, hb⟩ := mem_app hg
  have la : a.length = p.handed.length := by
    rw [Paired.length ha, List.length_map]
  have fin : ∀ {b'}, Mem b' ((nonown p.lists).map LD.opts) → memG ls b = memG p.lists b' → ∃ g' ∈ hands p, mc0 { p with lists := ls } (a ++ b) = mc0 p g' := fun {b'} h e => by
    refine ⟨a ++ b', hands_iff.mpr ?_, ?_⟩
    · rw [parts_opts]
      exact paired_app ha h
    · show Mc.mk (envG p.handed (a ++ b) []) (memG ls ((a ++ b).drop p.handed.length)) [] _ = Mc.mk (envG p.handed (a ++ b') []) (memG p.lists ((a ++ b').drop p.handed.length)) [] _
      rw [envG_app b _ _ _ la, envG_app b' _ _ _ la, ← la, List.drop_left, List.drop_left, e]
  have hb : Mem b ((nonown ls).map LD.opts) := hb
  generalize hl : p.lists = l0 at c nd fin
  cases c with
  | nil => exact fin hb rfl
  | @one d x h =>
    obtain ⟨e1, e2⟩ := opts_em (as := [{ d with em := x }]) (bs := [d]) (.cons ⟨rfl, rfl, rfl, rfl⟩ .nil)
    rw [e1] at hb
    exact fin hb (by rw [e2])
  | @two d d2 x x2 h1 h2 =>
    obtain ⟨e1, e2⟩ := opts_em (as := [{ d with em := x }, { d2 with em := x2 }]) (bs := [d, d2]) (.cons ⟨rfl, rfl, rfl, rfl⟩ (.cons ⟨rfl, rfl, rfl, rfl⟩ .nil))
    rw [e1] at hb
    exact fin hb (by rw [e2])
  | swp h1 h2 =>
    obtain ⟨b', h1, h2⟩ := memG_swap (fun e => by
      have := (List.nodup_cons.mp nd).1
      rw [List.map_cons, List.map_nil, List.mem_singleton] at this
      exact this e) hb
    exact fin h1 h2
theorem ends_lay {p : Prog} {ls : List LD} (nd : (p.lists.map LD.nm).Nodup) (c : LayC p.lists ls) (h : ends p) : ends { p with lists := ls } := fun g hg => by
  obtain ⟨g', h', e⟩ := lay_mc0 nd c hg
  obtain ⟨r, hr⟩ := h g' h'
  exact ⟨r, by
    show runF 400 (mc0 { p with lists := ls } g) = _
    rw [e]
    exact hr⟩
theorem learn_lay {p : Prog} {m : Nat} {ls : List LD} (h : DrawnE p) (c : LayC p.lists ls) (e : ends p) : LearnOk { p with lists := ls } m :=
  ⟨(h.lay c).okP, (h.lay c).okS, (h.lay c).okL, ends_lay h.okL.nd c e, weaves_of (h.lay c).okP⟩
theorem lays_mem {n : Nat} (h : n ≤ 2) {x : List Int × List Int} (m : x ∈ laysM n) : x.1 ∈ permsM n n ∧ x.2.length = n ∧ ∀ e ∈ x.2, 0 ≤ e ∧ e ≤ 15 := by
  obtain ⟨wh, _, m⟩ := List.mem_flatMap.mp m
  obtain ⟨o, mo, m⟩ := List.mem_flatMap.mp m
  obtain ⟨g, mg, rfl⟩ := List.mem_map.mp m
  have mg := (List.mem_filter.mp mg).1
  have lg := prodL_mem_len mg
  rw [List.length_replicate] at lg
  refine ⟨mo, lg, fun e me => ?_⟩
  obtain ⟨k, hk⟩ := List.getElem?_of_mem me
  obtain ⟨y, hy, my⟩ := Paired.one (prodL_iff.mp mg) hk
  obtain ⟨_, e2⟩ := List.getElem?_eq_some_iff.mp hy
  rw [List.getElem_replicate] at e2
  rw [← e2] at my
  have := rng_mem my
  omega
end NW
/-! ## Plain: a key's text tells its handing's open part and its output -/
namespace NW
open PySem PySem.Spec PyProof.Rows L2
def cds (s : Str) : List Nat := s.cps.toList
theorem cds_app (a b : Str) : cds (a ++ b) = cds a ++ cds b := Array.toList_append
theorem cds_inj {a b : Str} (h : cds a = cds b) : a = b := by
  obtain ⟨a⟩ := a
  obtain ⟨b⟩ := b
  exact congrArg Str.mk (Array.toList_inj.mp h)
def dig (c : Nat) : Prop := 48 ≤ c ∧ c ≤ 57
def nd (r : List Nat) : Prop := ∀ c s, r = c :: s → ¬ dig c
def PF (S : List Nat → Prop) : Prop := ∀ t1 t2 r1 r2, S t1 → S t2 → nd r1 → nd r2 → t1 ++ r1 = t2 ++ r2 → t1 = t2 ∧ r1 = r2
def Hd (S : List Nat → Prop) : Prop := ∀ t, S t → ∃ c r, t = c :: r ∧ c ≠ 41 ∧ c ≠ 93 ∧ c ≠ 44
def bodyN (f : Nat) : List (List Nat) → List Nat
  | [] => [f]
  | t :: r => 44 :: 32 :: (t ++ bodyN f r)
theorem nd_of {c : Nat} {r : List Nat} (h : ¬ dig c) : nd (c :: r) := fun _ _ e => by
  cases e
  exact h
theorem bodyN_nd {f : Nat} (hf : ¬ dig f) : ∀ (ts : List (List Nat)) (r : List Nat), nd (bodyN f ts ++ r)
  | [], _ => nd_of hf
  | _ :: _, _ => nd_of (fun h => absurd h.1 (by decide))
theorem bodyN_inj {S : List Nat → Prop} {f : Nat} (pf : PF S) (hf : ¬ dig f) (h44 : f ≠ 44) : ∀ (ts us : List (List Nat)) (r1 r2 : List Nat), (∀ t ∈ ts, S t) → (∀ u ∈ us, S u) → bodyN f ts ++ r1 = bodyN f us ++ r2 → ts = us ∧ r1 = r2
  | [], [], _, _, _, _, h => ⟨rfl, (List.cons.inj h).2⟩
  | [], _ :: _, _, _, _, _, h => absurd (List.cons.inj h).1 h44
  | _ :: _, [], _, _, _, _, h => absurd (List.cons.inj h).1.symm h44
  | t :: ts, u :: us, r1, r2, h1, h2, h => by
    have h := (List.cons.inj (List.cons.inj h).2).2
    have h : (t ++ bodyN f ts) ++ r1 = (u ++ bodyN f us) ++ r2 := h
    rw [List.append_assoc, List.append_assoc] at h
    obtain ⟨e1, e2⟩ := pf t u _ _ (h1 t List.mem_cons_self) (h2 u List.mem_cons_self) (bodyN_nd hf ts r1) (bodyN_nd hf us r2) h
    obtain ⟨e3, e4⟩ := bodyN_inj pf hf h44 ts us r1 r2 (fun x m => h1 x (List.mem_cons_of_mem _ m)) (fun x m => h2 x (List.mem_cons_of_mem _ m)) e2
    exact ⟨by rw [e1, e3], e4⟩
def tupI : List (List Nat) → List Nat
  | [] => [41]
  | [t] => t ++ [44, 41]
  | t :: u :: r => t ++ bodyN 41 (u :: r)
def tupC (ts : List (List Nat)) : List Nat := 40 :: tupI ts
def lstI : List (List Nat) → List Nat
  | [] => [93]
  | t :: r => t ++ bodyN 93 r
def lstC (ts : List (List Nat)) : List Nat := 91 :: lstI ts
theorem n41 : ¬ dig 41 := fun h => absurd h.1 (by decide)
theorem n44 : ¬ dig 44 := fun h => absurd h.1 (by decide)
theorem n93 : ¬ dig 93 := fun h => absurd h.2 (by decide)
theorem hd_ne {S : List Nat → Prop} (hd : Hd S) {t r s : List Nat} (h : S t) : 41 :: s ≠ t ++ r ∧ 93 :: s ≠ t ++ r := by
  obtain ⟨c, q, rfl, h1, h2, h3⟩ := hd t h
  exact ⟨fun e => h1 (List.cons.inj e).1.symm, fun e => h2 (List.cons.inj e).1.symm⟩
theorem tupI_inj {S : List Nat → Prop} (pf : PF S) (hd : Hd S) : ∀ {ts us : List (List Nat)} {r1 r2 : List Nat}, (∀ t ∈ ts, S t) → (∀ u ∈ us, S u) → tupI ts ++ r1 = tupI us ++ r2 → ts = us ∧ r1 = r2
  | [], [], _, _, _, _, h => ⟨rfl, (List.cons.inj h).2⟩
  | [], [u], r1, r2, _, h2, h => by
    have h : 41 :: r1 = (u ++ [44, 41]) ++ r2 := h
    rw [List.append_assoc] at h
    exact absurd h (hd_ne hd (h2 u List.mem_cons_self)).1
  | [], u :: v :: us, r1, r2, _, h2, h => by
    have h : 41 :: r1 = (u ++ bodyN 41 (v :: us)) ++ r2 := h
    rw [List.append_assoc] at h
    exact absurd h (hd_ne hd (h2 u List.mem_cons_self)).1
  | [u], [], r1, r2, h2, _, h => by
    have h : (u ++ [44, 41]) ++ r1 = 41 :: r2 := h
    rw [List.append_assoc] at h
    exact absurd h.symm (hd_ne hd (h2 u List.mem_cons_self)).1
  | u :: v :: us, [], r1, r2, h2, _, h => by
    have h : (u ++ bodyN 41 (v :: us)) ++ r1 = 41 :: r2 := h
    rw [List.append_assoc] at h
    exact absurd h.symm (hd_ne hd (h2 u List.mem_cons_self)).1
  | [t], [u], r1, r2, h1, h2, h => by
    have h : (t ++ [44, 41]) ++ r1 = (u ++ [44, 41]) ++ r2 := h
    rw [List.append_assoc, List.append_assoc] at h
    obtain ⟨e1, e2⟩ := pf t u _ _ (h1 t List.mem_cons_self) (h2 u List.mem_cons_self) (nd_of n44) (nd_of n44) h
    exact ⟨by rw [e1], (List.cons.inj (List.cons.inj e2).2).2⟩
  | [t], u :: v :: us, r1, r2, h1, h2, h => by
    have h : (t ++ [44, 41]) ++ r1 = (u ++ bodyN 41 (v :: us)) ++ r2 := h
    rw [List.append_assoc, List.append_assoc] at h
    obtain ⟨e1, e2⟩ := pf t u _ _ (h1 t List.mem_cons_self) (h2 u List.mem_cons_self) (nd_of n44) (nd_of n44) h
    exact absurd (List.cons.inj (List.cons.inj e2).2).1 (by decide)
  | u :: v :: us, [t], r1, r2, h2, h1, h => by
    have h : (u ++ bodyN 41 (v :: us)) ++ r1 = (t ++ [44, 41]) ++ r2 := h
    rw [List.append_assoc, List.append_assoc] at h
    obtain ⟨e1, e2⟩ := pf u t _ _ (h2 u List.mem_cons_self) (h1 t List.mem_cons_self) (nd_of n44) (nd_of n44) h
    exact absurd (List.cons.inj (List.cons.inj e2).2).1 (by decide)
  | t :: s :: ts, u :: v :: us, r1, r2, h1, h2, h => by
    have h : (t ++ bodyN 41 (s :: ts)) ++ r1 = (u ++ bodyN 41 (v :: us)) ++ r2 := h
    rw [List.append_assoc, List.append_assoc] at h
    obtain ⟨e1, e2⟩ := pf t u _ _ (h1 t List.mem_cons_self) (h2 u List.mem_cons_self) (bodyN_nd n41 _ _) (bodyN_nd n41 _ _) h
    obtain ⟨e3, e4⟩ := bodyN_inj pf n41 (by decide) _ _ _ _ (fun x m => h1 x (List.mem_cons_of_mem _ m)) (fun x m => h2 x (List.mem_cons_of_mem _ m)) e2
    exact ⟨by rw [e1, e3], e4⟩
theorem lstI_inj {S : List Nat → Prop} (pf : PF S) (hd : Hd S) : ∀ {ts us : List (List Nat)} {r1 r2 : List Nat}, (∀ t ∈ ts, S t) → (∀ u ∈ us, S u) → lstI ts ++ r1 = lstI us ++ r2 → ts = us ∧ r1 = r2
  | [], [], _, _, _, _, h => ⟨rfl, (List.cons.inj h).2⟩
  | [], u :: us, r1, r2, _, h2, h => by
    have h : 93 :: r1 = (u ++ bodyN 93 us) ++ r2 := h
    rw [List.append_assoc] at h
    exact absurd h (hd_ne hd (h2 u List.mem_cons_self)).2
  | u :: us, [], r1, r2, h2, _, h => by
    have h : (u ++ bodyN 93 us) ++ r1 = 93 :: r2 := h
    rw [List.append_assoc] at h
    exact absurd h.symm (hd_ne hd (h2 u List.mem_cons_self)).2
  | t :: ts, u :: us, r1, r2, h1, h2, h => by
    have h : (t ++ bodyN 93 ts) ++ r1 = (u ++ bodyN 93 us) ++ r2 := h
    rw [List.append_assoc, List.append_assoc] at h
    obtain ⟨e1, e2⟩ := pf t u _ _ (h1 t List.mem_cons_self) (h2 u List.mem_cons_self) (bodyN_nd n93 _ _) (bodyN_nd n93 _ _) h
    obtain ⟨e3, e4⟩ := bodyN_inj pf n93 (by decide) _ _ _ _ (fun x m => h1 x (List.mem_cons_of_mem _ m)) (fun x m => h2 x (List.mem_cons_of_mem _ m)) e2
    exact ⟨by rw [e1, e3], e4⟩
/-! ### ints -/
def icd (i : Int) : List Nat := cds (PyData.shown (.int i))
def undig (t : List Nat) : Nat := t.foldl (fun a c => a * 10 + (c - 48)) 0
theorem icd_all : ∀ n : Fin 256, (cds (Str.ofString (toString ((n : Nat) : Int)))).all (fun c => decide (48 ≤ c) && decide (c ≤ 57)) = true ∧ (cds (Str.ofString (toString ((n : Nat) : Int)))).isEmpty = false ∧ undig (cds (Str.ofString (toString ((n : Nat) : Int)))) = n := by
  decide +kernel
theorem icd_eq (i : Int) : icd i = cds (Str.ofString (toString i)) := by
  unfold icd
  simp only [PyData.shown]
theorem icd_ok {i : Int} (h : okV i) : (∀ c ∈ icd i, dig c) ∧ (∃ c r, icd i = c :: r) ∧ (undig (icd i) : Int) = i := by
  have e : i = ((⟨i.toNat, by have := h.1; have := h.2; omega⟩ : Fin 256) : Nat) := by
    show i = (i.toNat : Int)
    have := h.1
    omega
  rw [icd_eq]
  generalize (⟨i.toNat, _⟩ : Fin 256) = n at e
  subst e
  obtain ⟨a, b, c⟩ := icd_all n
  refine ⟨fun x m => ?_, ?_, by rw [c]⟩
  · have := List.all_eq_true.mp a x m
    rw [Bool.and_eq_true, decide_eq_true_eq, decide_eq_true_eq] at this
    exact this
  · cases q : cds (Str.ofString (toString ((n : Nat) : Int))) with
    | nil =>
      rw [q] at b
      cases b
    | cons x r => exact ⟨x, r, rfl⟩
theorem icd_inj {i j : Int} (hi : okV i) (hj : okV j) (e : icd i = icd j) : i = j := by
  rw [← (icd_ok hi).2.2, ← (icd_ok hj).2.2, e]
theorem dig_inj : ∀ (t1 t2 r1 r2 : List Nat), (∀ c ∈ t1, dig c) → (∀ c ∈ t2, dig c) → nd r1 → nd r2 → t1 ++ r1 = t2 ++ r2 → t1 = t2 ∧ r1 = r2
  | [], [], _, _, _, _, _, _, h => ⟨rfl, h⟩
  | [], c :: t, r1, r2, _, h2, n1, _, h => absurd (h2 c List.mem_cons_self) (n1 c (t ++ r2) h)
  | c :: t, [], r1, r2, h1, _, _, n2, h => absurd (h1 c List.mem_cons_self) (n2 c (t ++ r1) h.symm)
  | c :: t, d :: u, r1, r2, h1, h2, n1, n2, h => by
    obtain ⟨e1, e2⟩ := List.cons.inj h
    obtain ⟨e3, e4⟩ := dig_inj t u r1 r2 (fun x m => h1 x (List.mem_cons_of_mem _ m)) (fun x m => h2 x (List.mem_cons_of_mem _ m)) n1 n2 e2
    exact ⟨by rw [e1, e3], e4⟩
def S0 (t : List Nat) : Prop := ∃ i, okV i ∧ t = icd i
def S1 (t : List Nat) : Prop := S0 t ∨ ∃ ts, (∀ x ∈ ts, S0 x) ∧ t = tupC ts
theorem S0.pf : PF S0 := fun _ _ r1 r2 ⟨i, hi, e1⟩ ⟨j, hj, e2⟩ n1 n2 h => by
  subst e1
  subst e2
  exact dig_inj _ _ r1 r2 (icd_ok hi).1 (icd_ok hj).1 n1 n2 h
theorem S0.hd : Hd S0 := fun _ ⟨i, hi, e⟩ => by
  subst e
  obtain ⟨h1, ⟨c, r, e⟩, _⟩ := icd_ok hi
  have d := h1 c (by rw [e]; exact List.mem_cons_self)
  exact ⟨c, r, e, by have := d.1; omega, by have := d.2; omega, by have := d.1; omega⟩
theorem S1.hd : Hd S1 := fun t h => h.elim (S0.hd t) fun ⟨ts, _, e⟩ => ⟨40, _, e, by decide, by decide, by decide⟩
theorem S0.ne40 {t r s : List Nat} (h : S0 t) : 40 :: s ≠ t ++ r := by
  obtain ⟨i, hi, rfl⟩ := h
  obtain ⟨h1, ⟨c, q, e⟩, _⟩ := icd_ok hi
  have d := h1 c (by rw [e]; exact List.mem_cons_self)
  rw [e]
  intro z
  have z := (List.cons.inj z).1
  subst z
  exact absurd d.1 (by decide)
theorem S1.pf : PF S1 := fun t1 t2 r1 r2 h1 h2 n1 n2 h => by
  rcases h1 with h1 | ⟨ts, m1, rfl⟩
  · rcases h2 with h2 | ⟨us, m2, rfl⟩
    · exact S0.pf t1 t2 r1 r2 h1 h2 n1 n2 h
    · exact absurd h.symm h1.ne40
  · rcases h2 with h2 | ⟨us, m2, rfl⟩
    · exact absurd h h2.ne40
    · obtain ⟨e1, e2⟩ := tupI_inj S0.pf S0.hd m1 m2 (List.cons.inj h).2
      exact ⟨by rw [e1], e2⟩
/-! ### texts -/
theorem join_cds : ∀ (ts : List Str) (u : Str), cds (Str.join ", " (u :: ts)) ++ [41] = cds u ++ bodyN 41 (ts.map cds)
  | [], u => rfl
  | t :: ts, u => by
    have ih := join_cds ts t
    show cds ((u ++ ", ") ++ Str.join ", " (t :: ts)) ++ [41] = _
    rw [cds_app, cds_app, List.append_assoc, ih, List.append_assoc]
    rfl
theorem tup_cds (ts : List Str) : cds (tupleText ts) = tupC (ts.map cds) := by
  match ts with
  | [] => rfl
  | [t] =>
    show cds ((("(" : Str) ++ t) ++ ",)") = _
    rw [cds_app, cds_app, List.append_assoc]
    rfl
  | t :: u :: r =>
    have ih := join_cds (u :: r) t
    show cds ((("(" : Str) ++ Str.join ", " (t :: u :: r)) ++ ")") = _
    rw [cds_app, cds_app, List.append_assoc]
    show [40] ++ (cds (Str.join ", " (t :: u :: r)) ++ [41]) = _
    rw [ih]
    rfl
theorem from_cds : ∀ (ts : List Str) (k : Nat) (acc : Str), cds (textFrom (k + 1) acc ts) ++ [93] = cds acc ++ bodyN 93 (ts.map cds)
  | [], _, _ => rfl
  | t :: ts, k, acc => by
    have ih := from_cds ts (k + 1) ((acc ++ ", ") ++ t)
    show cds (textFrom (k + 1 + 1) ((acc ++ ", ") ++ t) ts) ++ [93] = _
    rw [ih, cds_app, cds_app, List.append_assoc, List.append_assoc]
    rfl
theorem lst_cds (ts : List Str) : cds (listText ts) = lstC (ts.map cds) := by
  match ts with
  | [] => rfl
  | t :: ts =>
    have ih := from_cds ts 0 ((("[" : Str) ++ "") ++ t)
    show cds (textFrom (0 + 1) ((("[" : Str) ++ "") ++ t) ts ++ "]") = _
    rw [cds_app]
    show cds (textFrom (0 + 1) ((("[" : Str) ++ "") ++ t) ts) ++ [93] = _
    rw [ih, cds_app]
    rfl
/-! ### the key -/
def pdP : Part → PyData
  | .w i => .int i
  | .cs ws => .tuple (ws.map .int)
def keyD (o : List Part) (os : List Int) : PyData := .tuple [.tuple (o.map pdP), .list (os.map .int)]
def keyS (o : List Part) (os : List Int) : Str := PyData.shown (keyD o os)
def okPart : Part → Prop
  | .w i => okV i
  | .cs ws => ∀ i ∈ ws, okV i
theorem shownAll_map : ∀ xs : List PyData, PyData.shownAll xs = xs.map PyData.shown
  | [] => by simp only [PyData.shownAll, List.map_nil]
  | x :: xs => by simp only [PyData.shownAll, List.map_cons, shownAll_map xs]
theorem ints_cds (os : List Int) : (PyData.shownAll (os.map PyData.int)).map cds = os.map icd := by
  rw [shownAll_map, List.map_map, List.map_map]
  rfl
def pcd : Part → List Nat
  | .w i => icd i
  | .cs ws => tupC (ws.map icd)
theorem pcd_eq (x : Part) : cds (PyData.shown (pdP x)) = pcd x := by
  cases x with
  | w i => rfl
  | cs ws =>
    show cds (PyData.shown (.tuple (ws.map .int))) = _
    simp only [PyData.shown]
    rw [tup_cds, ints_cds]
    rfl
theorem pcd_S1 {x : Part} (h : okPart x) : S1 (pcd x) := by
  cases x with
  | w i => exact Or.inl ⟨i, h, rfl⟩
  | cs ws =>
    refine Or.inr ⟨_, fun t m => ?_, rfl⟩
    obtain ⟨i, mi, rfl⟩ := List.mem_map.mp m
    exact ⟨i, h i mi, rfl⟩
theorem map_inj_on {α β : Type} {f : α → β} : ∀ {xs ys : List α}, (∀ x ∈ xs, ∀ y ∈ ys, f x = f y → x = y) → xs.map f = ys.map f → xs = ys
  | [], [], _, _ => rfl
  | [], _ :: _, _, h => nomatch h
  | _ :: _, [], _, h => nomatch h
  | x :: xs, y :: ys, hf, h => by
    obtain ⟨h1, h2⟩ := List.cons.inj h
    rw [hf x List.mem_cons_self y List.mem_cons_self h1, map_inj_on (fun a ma b mb => hf a (List.mem_cons_of_mem _ ma) b (List.mem_cons_of_mem _ mb)) h2]
theorem ints_inj {xs ys : List Int} (hx : ∀ i ∈ xs, okV i) (hy : ∀ i ∈ ys, okV i) (h : xs.map icd = ys.map icd) : xs = ys :=
  map_inj_on (fun a ma b mb e => icd_inj (hx a ma) (hy b mb) e) h
theorem pcd_inj {x y : Part} (hx : okPart x) (hy : okPart y) (h : pcd x = pcd y) : x = y := by
  cases x with
  | w i =>
    cases y with
    | w j => rw [icd_inj hx hy h]
    | cs zs =>
      have h0 : S0 (icd i) := ⟨i, hx, rfl⟩
      exact absurd ((List.append_nil _).trans h).symm (h0.ne40 (r := []))
  | cs ws =>
    cases y with
    | w j =>
      have h0 : S0 (icd j) := ⟨j, hy, rfl⟩
      exact absurd (h.trans (List.append_nil _).symm) (h0.ne40 (r := []))
    | cs zs =>
      have e := (List.cons.inj h).2
      have all0 : ∀ {ws : List Int}, (∀ i ∈ ws, okV i) → ∀ t ∈ ws.map icd, S0 t := fun {ws} hw t m => by
        obtain ⟨i, mi, rfl⟩ := List.mem_map.mp m
        exact ⟨i, hw i mi, rfl⟩
      obtain ⟨e1, _⟩ := tupI_inj (r1 := []) (r2 := []) S0.pf S0.hd (all0 hx) (all0 hy) (by rw [e])
      rw [ints_inj hx hy e1]
theorem key_cds (o : List Part) (os : List Int) : cds (keyS o os) = 40 :: (tupC (o.map pcd) ++ (44 :: 32 :: (lstC (os.map icd) ++ [41]))) := by
  have e1 : cds (PyData.shown (.tuple (o.map pdP))) = tupC (o.map pcd) := by
    simp only [PyData.shown]
    rw [tup_cds, shownAll_map, List.map_map, List.map_map]
    congr 1
    exact List.map_congr_left fun x _ => pcd_eq x
  have e2 : cds (PyData.shown (.list (os.map .int))) = lstC (os.map icd) := by
    simp only [PyData.shown]
    rw [lst_cds, ints_cds]
  have e0 : keyS o os = tupleText [PyData.shown (.tuple (o.map pdP)), PyData.shown (.list (os.map .int))] := rfl
  rw [e0, tup_cds]
  show 40 :: (cds (PyData.shown (.tuple (o.map pdP))) ++ (44 :: 32 :: (cds (PyData.shown (.list (os.map .int))) ++ [41]))) = _
  rw [e1, e2]
theorem key_inj {o1 o2 : List Part} {s1 s2 : List Int} (h1 : ∀ x ∈ o1, okPart x) (h2 : ∀ x ∈ o2, okPart x) (k1 : ∀ i ∈ s1, okV i) (k2 : ∀ i ∈ s2, okV i) (h : keyS o1 s1 = keyS o2 s2) : o1 = o2 ∧ s1 = s2 := by
  have h := congrArg cds h
  rw [key_cds, key_cds] at h
  have h := (List.cons.inj h).2
  have all1 : ∀ {o : List Part}, (∀ x ∈ o, okPart x) → ∀ t ∈ o.map pcd, S1 t := fun {o} ho t m => by
    obtain ⟨x, mx, rfl⟩ := List.mem_map.mp m
    exact pcd_S1 (ho x mx)
  have all0 : ∀ {ws : List Int}, (∀ i ∈ ws, okV i) → ∀ t ∈ ws.map icd, S0 t := fun {ws} hw t m => by
    obtain ⟨i, mi, rfl⟩ := List.mem_map.mp m
    exact ⟨i, hw i mi, rfl⟩
  obtain ⟨e1, e2⟩ := tupI_inj S1.pf S1.hd (all1 h1) (all1 h2) (List.cons.inj h).2
  have e2 := (List.cons.inj (List.cons.inj e2).2).2
  obtain ⟨e3, _⟩ := lstI_inj S0.pf S0.hd (all0 k1) (all0 k2) (List.cons.inj e2).2
  exact ⟨map_inj_on (fun a ma b mb e => pcd_inj (h1 a ma) (h2 b mb) e) e1, ints_inj k1 k2 e3⟩
/-! ### what repr asks of the key -/
theorem show_ints : ∀ {xs : List Int}, (∀ i ∈ xs, okV i) → PyData.showableAll (xs.map .int) = true ∧ PyData.hasDictAll (xs.map .int) = false ∧ PyData.leavesShortAll 13 (xs.map .int) = true ∧ PyData.bulkAll (xs.map .int) = xs.length
  | [], _ => ⟨rfl, rfl, rfl, rfl⟩
  | i :: xs, h => by
    obtain ⟨h1, h2, h3, h4⟩ := show_ints fun j m => h j (List.mem_cons_of_mem _ m)
    obtain ⟨a, b⟩ := h i List.mem_cons_self
    have lg : i.natAbs.log2 < 1920 := by
      by_cases z : i.natAbs = 0
      · rw [z]
        decide
      · have : i.natAbs.log2 < 8 := (Nat.log2_lt z).mpr (by omega)
        omega
    refine ⟨?_, ?_, ?_, ?_⟩
    · show (decide (i.natAbs.log2 < 1920) && PyData.showableAll (xs.map .int)) = true
      rw [h1, decide_eq_true lg]
      rfl
    · show (false || PyData.hasDictAll (xs.map .int)) = false
      rw [h2]
      rfl
    · show (decide ((PyData.shown (.int i)).length ≤ 13) && PyData.leavesShortAll 13 (xs.map .int)) = true
      rw [h3, decide_eq_true (PyData.shown_int_le2 (by omega) (by omega))]
      rfl
    · show 0 + 1 + PyData.bulkAll (xs.map .int) = xs.length + 1
      rw [h4]
      omega
theorem show_part {x : Part} (h : okPart x) (l : ∀ ws, x = .cs ws → ws.length ≤ 9) : (pdP x).showable = true ∧ (pdP x).hasDict = false ∧ (pdP x).leavesShort 13 = true ∧ (pdP x).bulk ≤ 9 ∧ (pdP x).depth ≤ 1 := by
  cases x with
  | w i =>
    obtain ⟨h1, h2, h3, h4⟩ := show_ints (xs := [i]) fun j m => by rw [List.mem_singleton.mp m]; exact h
    have h1 : (PyData.showable (.int i) && true) = true := h1
    have h3 : (PyData.leavesShort 13 (.int i) && true) = true := h3
    rw [Bool.and_true] at h1 h3
    exact ⟨h1, rfl, h3, Nat.zero_le _, Nat.zero_le _⟩
  | cs ws =>
    obtain ⟨h1, h2, h3, h4⟩ := show_ints h
    refine ⟨h1, h2, h3, ?_, ?_⟩
    · show PyData.bulkAll (ws.map .int) ≤ 9
      rw [h4]
      exact l ws rfl
    · show PyData.depthAll (ws.map .int) + 1 ≤ 1
      rw [depth_ints]
      exact Nat.le_refl _
theorem show_parts : ∀ {o : List Part}, (∀ x ∈ o, okPart x) → (∀ x ∈ o, ∀ ws, x = .cs ws → ws.length ≤ 9) → PyData.showableAll (o.map pdP) = true ∧ PyData.hasDictAll (o.map pdP) = false ∧ PyData.leavesShortAll 13 (o.map pdP) = true ∧ PyData.bulkAll (o.map pdP) ≤ 10 * o.length ∧ PyData.depthAll (o.map pdP) ≤ 1
  | [], _, _ => ⟨rfl, rfl, rfl, Nat.le_refl _, Nat.zero_le _⟩
  | x :: o, h, l => by
    obtain ⟨h1, h2, h3, h4, h5⟩ := show_parts (fun y m => h y (List.mem_cons_of_mem _ m)) (fun y m => l y (List.mem_cons_of_mem _ m))
    obtain ⟨g1, g2, g3, g4, g5⟩ := show_part (h x List.mem_cons_self) (l x List.mem_cons_self)
    refine ⟨?_, ?_, ?_, ?_, ?_⟩
    · show ((pdP x).showable && PyData.showableAll (o.map pdP)) = true
      rw [h1, g1]
      rfl
    · show ((pdP x).hasDict || PyData.hasDictAll (o.map pdP)) = false
      rw [h2, g2]
      rfl
    · show ((pdP x).leavesShort 13 && PyData.leavesShortAll 13 (o.map pdP)) = true
      rw [h3, g3]
      rfl
    · show (pdP x).bulk + 1 + PyData.bulkAll (o.map pdP) ≤ 10 * (o.length + 1)
      omega
    · show max (pdP x).depth (PyData.depthAll (o.map pdP)) ≤ 1
      omega
theorem key_shows {o : List Part} {os : List Int} (h : ∀ x ∈ o, okPart x) (l : ∀ x ∈ o, ∀ ws, x = .cs ws → ws.length ≤ 9) (lo : o.length ≤ 100) (k : ∀ i ∈ os, okV i) (lk : os.length ≤ 1000) :
    (keyD o os).showable = true ∧ (keyD o os).hasDict = false ∧ (keyD o os).depth ≤ 4 ∧ (keyD o os).shown.length ≤ sizeLine := by
  obtain ⟨h1, h2, h3, h4, h5⟩ := show_parts h l
  obtain ⟨g1, g2, g3, g4⟩ := show_ints k
  refine ⟨?_, ?_, ?_, PyData.shown_fits_bulk (B := 13) (by decide) (by decide) ?_ ?_⟩
  · show (PyData.showableAll (o.map pdP) && (PyData.showableAll (os.map .int) && true)) = true
    rw [h1, g1]
    rfl
  · show (PyData.hasDictAll (o.map pdP) || (PyData.hasDictAll (os.map .int) || false)) = false
    rw [h2, g2]
    rfl
  · show max (PyData.depthAll (o.map pdP) + 1) (max (PyData.depthAll (os.map .int) + 1) 0) + 1 ≤ 4
    rw [depth_ints]
    omega
  · show (PyData.leavesShortAll 13 (o.map pdP) && (PyData.leavesShortAll 13 (os.map .int) && true)) = true
    rw [h3, g3]
    rfl
  · show PyData.bulkAll (o.map pdP) + 1 + (PyData.bulkAll (os.map .int) + 1 + 0) ≤ 2 ^ 20
    rw [g4]
    omega
theorem dp_parts {K : PySem.W.Frag} {H : Hp} : ∀ {o : List Part} {vs : List V}, Paired (PartAt H) o vs → DpAll K H vs (o.map pdP)
  | _, _, .nil => .nil
  | .w i :: _, _, .cons h t => by
    have h : _ = V.int i := h
    subst h
    exact .cons (.int i) (dp_parts t)
  | .cs ws :: _, _, .cons ⟨p, e, h⟩ t => by
    subst e
    exact .cons (.tup (SqT.of h) (dp_ints ws)) (dp_parts t)
theorem dp_key {K : PySem.W.Frag} {H : Hp} {p q r : Addr} {o : List Part} {os : List Int} {vs : List V} (hp : H p = some (.tup [.ref q, .ref r])) (hq : H q = some (.tup vs)) (ho : Paired (PartAt H) o vs) (hr : H r = some (.lst (os.map .int))) : Dp K H (.ref p) (keyD o os) :=
  .tup (SqT.of hp) (.cons (.tup (SqT.of hq) (dp_parts ho)) (.cons (.lst (SqL.of hr) (dp_ints os)) .nil))
/-! ### the lines that are kept -/
def lnU (acc : List Int) (c : Option Int) : List Int := match c with
  | none => acc
  | some i => if i / 4 ∈ acc then acc else acc ++ [i / 4]
theorem take_lnU (m : Nat) (acc : List Int) (c : Option Int) : (lnU acc c).take m = lnStep m (acc.take m) c := by
  cases c with
  | none => rfl
  | some i =>
    show (if i / 4 ∈ acc then acc else acc ++ [i / 4]).take m = if i / 4 ∈ acc.take m then acc.take m else if (acc.take m).length < m then acc.take m ++ [i / 4] else acc.take m
    by_cases c1 : i / 4 ∈ acc
    · rw [if_pos c1]
      by_cases c2 : i / 4 ∈ acc.take m
      · rw [if_pos c2]
      · rw [if_neg c2, if_neg]
        intro h
        rw [List.length_take] at h
        exact c2 (by rw [List.take_of_length_le (by omega)]; exact c1)
    · rw [if_neg c1, if_neg fun z => c1 (List.mem_of_mem_take z)]
      by_cases c3 : acc.length < m
      · rw [if_pos (by rw [List.length_take]; omega), List.take_of_length_le (by rw [List.length_append, List.length_singleton]; omega), List.take_of_length_le (by omega)]
      · rw [if_neg (by rw [List.length_take]; omega), List.take_append_of_le_length (by omega)]
theorem stored_take (m : Nat) (cs : List (Option Int)) : (cs.reverse.foldl lnU []).take m = storedM m cs := by
  have : ∀ (xs : List (Option Int)) (acc : List Int), (xs.foldl lnU acc).take m = xs.foldl (lnStep m) (acc.take m) := by
    intro xs
    induction xs with
    | nil => exact fun _ => rfl
    | cons c xs ih =>
      intro acc
      show (xs.foldl lnU (lnU acc c)).take m = xs.foldl (lnStep m) (lnStep m (acc.take m) c)
      rw [ih, take_lnU]
  rw [this, List.take_nil]
  rfl
end NW
/-! ## Defs that are called while no repr is under way -/
namespace NW
open PySem PySem.Spec PyProof.Rows L2
/-- what such a def promises -/
structure GFn (P : Program) (w : World) (K : PySem.W.Frag) (mg : Str → Option Value) (base : Heap) (k : Nat) (f : Addr) (fd : FuncData) (ps : List Str) (sp : Sp) : Prop where
  gl : ∀ as H0 Q0 X0, sp as H0 Q0 X0 → as.length = ps.length
  gr : ∀ (A : Around) (fr : List Env) (st : Shared) (H0 : Hp) (ar : Args) (us : List Value) (as : List V) (Q0 : VK) (X0 : XK), A.guards = some [] → Room k A → Env0 P w K mg base A fr st H0 → BindsTo st fd ar (ps.zip us) → Vals as us → sp as H0 Q0 X0 → codeAny (model P w) A (.call (.ref f) ar) (CR C8.CX0 fr P w H0 st Q0 X0) st
structure GCal (P : Program) (w : World) (K : PySem.W.Frag) (mg : Str → Option Value) (base : Heap) (k : Nat) (x : Str) (sp : Sp) : Prop where
  ex : ∃ (f : Addr) (fd : FuncData) (ps : List Str), GFn P w K mg base k f fd ps sp ∧ mg x = some (.ref f) ∧ PySem.W.keepIn K (.ref f) = true ∧ Binds K fd ps []
section
variable {P : Program} {w : World} {K : PySem.W.Frag} {mg : Str → Option Value} {base : Heap}
/-- by the body -/
theorem gfn_of {k : Nat} {f : Addr} {nm : Str} {pm : Arguments} {bd : List Stmt} {sc : Scope} {fd : FuncData} {N ps : List Str} {sp : Sp} (F : FunD K nm nm pm bd sc [] [] f fd) (S : FnScope N ps sc) (gl : ∀ as H0 Q0 X0, sp as H0 Q0 X0 → as.length = ps.length)
    (hb : ∀ (cdv : Value) (A : Around) (fr : List Env) (st : Shared) (H0 : Hp) (as : List V) (Q0 : VK) (X0 : XK), A.guards = some [] → Room k (A.deeper (envOfC nm sc st.heap.objs.size f cdv)) → sp as H0 Q0 X0 →
      ∃ t, PSs (cxOf C8.CX0 P w K mg base N nm sc f cdv A fr st H0 X0).nox bd t ∧ t { nx := fun _ H' => Q0 .non H', rt := Q0 } (start N as) H0) : GFn P w K mg base (k + 1) f fd ps sp := by
  obtain ⟨oc, od, dV, kV, doc, pv, an, cdv, ct, osl, rfl, lk, cd, _, _⟩ := F.ex
  refine ⟨gl, fun A fr st H0 ar us as Q0 X0 hg room e0 bind rv want => ?_⟩
  have inH : K.In st.heap := e0.mod.kin.keeps fun b o e => (e0.bs b o e).1
  have noL : st.heap.NoLimit := e0.mod.nolimit.keeps fun b o e => (e0.bs b o e).1
  have kinds : ∀ y ∈ ps.zip us, sc.names.lookup y.1 = some .local ∨ (sc.names.lookup y.1 = some .cell ∧ ((cellsFrom (st.heap.objs.size + 1) sc.names []).lookup y.1).isSome = true) := by
    rintro ⟨n, v⟩ hy
    exact (S.par n (List.of_mem_zip hy).1).imp id fun q => ⟨q, PySem.W.cellsFrom_some _ _ _ (Or.inl q)⟩
  refine codeAny_call_function room.depth (inH _ _ lk) rfl S.co S.gen rfl (PySem.W.codeRec_of inH cd) (bind _ _ _ _ (wpAny_newFunctionEnv_cells S.kind kinds fun env he s1 inC => ?_))
  subst he
  refine ⟨noL.keeps inC.toInCall.keep, codeAny_func ?_⟩
  obtain ⟨t, ht, goal⟩ := hb cdv A fr st H0 as Q0 X0 hg (room.deeper _) want
  have I0 : Inv (cxOf C8.CX0 P w K mg base N nm sc f cdv A fr st H0 X0) [] (start N as) H0 s1 := inv_start S room.hd e0 (gl _ _ _ _ want) rv inC
  refine wpAny_mono (ht.nox.run [] s1 (start N as) H0 _ I0 goal) (fun fl s' hs => ?_) fun _ _ hs => hs
  cases fl with
  | ret u =>
    obtain ⟨v, _, H', J, r, q⟩ := hs
    exact ⟨v, H', J.os, J.bare, J.base, J.hok, r, q⟩
  | next =>
    obtain ⟨_, H', J, q⟩ := hs
    exact ⟨V.non, H', J.os, J.bare, J.base, J.hok, rfl, q⟩
  | brk =>
    obtain ⟨_, _, _, q⟩ := hs
    exact q.elim
  | cont =>
    obtain ⟨_, _, _, q⟩ := hs
    exact q.elim
theorem GFn.of {k : Nat} {f : Addr} {fd : FuncData} {ps : List Str} {sp : Sp} (F : FnOk P w K mg base C8.CX0 k f fd ps sp) : GFn P w K mg base k f fd ps sp :=
  ⟨F.len, fun A fr st H0 ar us as Q0 X0 _ room e0 bind rv want => F.run A fr st H0 ar us as Q0 X0 room e0 bind rv want⟩
theorem DefAt.gcal {x : Str} {st : Stmt} {N ps : List Str} {k : Nat} {sp : Sp} (D : DefAt K mg x st) (S : FnScope N ps (defScope st)) (hb : BindW x st ps) (gl : ∀ as H0 Q0 X0, sp as H0 Q0 X0 → as.length = ps.length)
    (body : ∀ (f : Addr) (cdv : Value) (A : Around) (outer : List Env) (s : Shared) (H : Hp) (vs : List V) (Q : VK) (E : XK), A.guards = some [] → Room k (A.deeper (envOfC x (defScope st) s.heap.objs.size f cdv)) → sp vs H Q E →
      ∃ t, PSs (cxOf C8.CX0 P w K mg base N x (defScope st) f cdv A outer s H E).nox (defBody st) t ∧ t { nx := fun _ H' => Q .non H', rt := Q } (start N vs) H) : GCal P w K mg base (k + 1) x sp := by
  obtain ⟨f, fd, F, hm⟩ := D.ex
  exact ⟨f, fd, ps, gfn_of F S gl fun cdv A fr st H0 as Q0 X0 hg room want => body f cdv A fr st H0 as Q0 X0 hg room want, hm, F.kp, F.bindsN hb⟩
end
section
variable {X : Cx} {k j : Nat} {x : Str} {sp : Sp} {p pos : Pos} {e : Expr} {es : List Expr} {t : TA}
/-- such a def is called -/
theorem pe_g (c : GCal X.prog X.w X.K X.mg X.base k x sp) (hg : X.A.guards = some []) (hr : Room j X.A) (hk : k ≤ j) (gl : Gl X x) (ha : PA X (e :: es) t)
    (db : (x == ("__debug__" : Str)) = false := by decide) (st : starEach (e :: es) X.env = (false, eval e X.env) :: starEach es X.env := by rfl) (np : (backTo pos (starEach es X.env)).any (·.1) = false := by rfl) :
    PE X (.Call (.Name x p) (e :: es) [] pos) (tCall sp [] C8.E0 t) := by
  obtain ⟨f, fd, ps, F, hm, kp, bd⟩ := c.ex
  refine ⟨fun pins s σ H Q I h => wpAny_Call_Name_kw (ld_glob I gl hm ?_ db)⟩
  refine PySem.W.callWith_K (h₀ := X.base) I.ok.mod.kin kp (thn (ha.run pos pins s σ H _ I h) fun us s1 ⟨vs, H1, I1, rv, q⟩ => ⟨I1.kIn, ?_⟩) st np
  have q : sp (vs ++ []) H1 Q C8.E0 := q
  rw [List.append_nil] at q
  have hl : (us ++ []).length = ps.length := by
    rw [List.append_nil, ← rv.length]
    exact F.gl _ _ _ _ q
  have bd := bd s1 us I1.kIn hl
  rw [List.append_nil] at bd
  refine wpAny_call (codeAny_mono (F.gr X.A X.stack s1 H1 ⟨us, []⟩ us vs Q C8.E0 hg (hr.mono hk) I1.env0 bd rv q) fun r s' hq => ?_)
  cases r with
  | error er => exact hq.elim
  | ok fl =>
    cases fl with
    | ret u => exact I1.after hq
    | _ => exact hq.elim
/-- repr of data, nothing under way -/
def rRepr (K : PySem.W.Frag) : List V → Hp → VK → Prop := fun xs H Q => ∃ a d, xs = [.ref a] ∧ Dp K H (.ref a) d ∧ d.showable = true ∧ d.hasDict = false ∧ d.depth ≤ 30 ∧ d.shown.length ≤ sizeLine ∧ Q (.str d.shown) H
theorem call_reprD (hg : X.A.guards = some []) (hu : X.A.units + 64 < cLine) : CallR X (.builtin "repr") (rRepr X.K) := by
  intro pins s σ H xs us Q I r h
  obtain ⟨a, d, rfl, dp, sh, nd, dd, sz, q⟩ := h
  obtain ⟨u, rfl, ru⟩ := vals1 r
  obtain rfl : u = Value.ref a := ru
  obtain ⟨as, rd⟩ := Dp.reads I d _ _ dp rfl
  exact repr_of_reads' rd sh (PyData.noDict_hsm nd) hg (by omega) (fun b o e => e) (fun h' u tk kp => ⟨.str d.shown, H, I.kept kp, ⟨u, rfl⟩, q⟩) sz
end
end NW
/-! ## The law is called with no repr under way -/
namespace NW
open PySem PySem.Spec PyProof.Rows L2
/-- the law's def, called on its script -/
theorem g_called {P : Program} {w : World} {K : PySem.W.Frag} {mg mb : Str → Option Value} {k : Nat} {fa a : Addr} {fd : FuncData} {x : Str} {sp : Sp} {s1 : Shared} {vs : List Value} {ns : List Int}
    (kin : K.In s1.heap) (nm : s1.heap.Ns mainGlobals mg) (nb : s1.heap.Ns builtinsNs mb) (bb : ∀ x : Str, x ≠ "__name__" → mb x = bootBuiltins x) (nl : s1.heap.NoLimit) (ng : s1.gens = #[])
    (ga : s1.heap.get? a = some { cls := .type "list", data := .seq vs.toArray }) (ia : IntsAre vs ns) (ll : ns.length ≤ sizeLine) (room : Room k callerA)
    (F : ∀ b0 : Heap, K.In b0 → b0.Ns mainGlobals mg → GFn P w K mg b0 k fa fd [x] sp) (bd : ∀ (s : Shared) (u : Value), BindsTo s fd ⟨[u], []⟩ [(x, u)])
    (want : ∀ H : Hp, Only H → SqL K H a (ns.map V.int) → sp [.ref a] H (fun v _ => v = .bl true) C8.E0) :
    codeAny (model P w) callerA (.call (.ref fa) ⟨[.ref a], []⟩) (fun r s' => r = .ok (.ret (.bool true)) ∧ OldK s1.heap s'.heap ∧ s'.os = s1.os ∧ AllBare s'.gens) s1 := by
  have vals := vals_ints ia
  have lv := ia.length
  have main : ∀ H : Hp, Only H → SqL K H a (ns.map V.int) → HOk P w H s1.heap → (∀ b, H b ≠ none → b = a ∧ K.lookup a = none) → codeAny (model P w) callerA (.call (.ref fa) ⟨[.ref a], []⟩) (fun r s' => r = .ok (.ret (.bool true)) ∧ OldK s1.heap s'.heap ∧ s'.os = s1.os ∧ AllBare s'.gens) s1 := by
    intro H only sq hok at_
    have isN : ∀ {b : Addr}, b ≠ a → H b = none := fun {b} n => by
      cases q : H b with
      | none => rfl
      | some u => exact absurd (at_ b (by rw [q]; exact fun z => nomatch z)).1 n
    have notA : ∀ {b : Addr} {m : Str → Option Value}, s1.heap.Ns b m → (hidT s1.heap H).Ns b m := by
      rintro b m ⟨o, es, ep, e, d, r⟩
      refine ⟨o, es, ep, hidT_get e (isN ?_), d, r⟩
      rintro rfl
      rw [ga] at e
      cases e
      cases d
    have kin0 : K.In (hidT s1.heap H) := by
      intro b o e
      refine hidT_get (kin b o e) ?_
      cases q : H b with
      | none => rfl
      | some u =>
        obtain ⟨rfl, z⟩ := at_ b (by rw [q]; exact fun z => nomatch z)
        rw [z] at e
        cases e
    have m0 : Mod K mg (hidT s1.heap H) := ⟨kin0, notA nm, ⟨mb, notA nb, bb⟩, nl.imp fun _ z => ⟨notA z.1, z.2⟩⟩
    have env : Env0 P w K mg (hidT s1.heap H) callerA [] s1 H := ⟨rfl, m0, fun _ _ e => of_hidT e, Nat.le_of_eq (hidT_size _ _), trivial, fun _ hb => (nomatch hb), hok, .of_eq ng⟩
    refine codeAny_mono ((F _ kin0 (notA nm)).gr callerA [] s1 H ⟨[.ref a], []⟩ [.ref a] [.ref a] _ _ rfl room env (bd s1 (.ref a)) (.cons rfl .nil) (want H only sq)) ?_
    rintro (e | fl) s' h
    · exact h.elim
    cases fl with
    | ret u =>
      obtain ⟨v, H', os, bare, un, hok', ru, rfl⟩ := h
      obtain rfl : u = Value.bool true := ru
      refine ⟨rfl, OldK.of_keep fun b o e => ?_, os, bare⟩
      cases q : H b with
      | none => exact un.keep b o e q (fun z => nomatch z) (fun z => nomatch z)
      | some u =>
        rcases only b with z | ⟨ob, xs, z⟩
        · rw [q] at z
          cases z
        · obtain ⟨e1, _⟩ := hok b _ z
          obtain ⟨e2, _⟩ := hok' b _ (un.frzs b ob _ z)
          rw [e] at e1
          cases e1
          exact e2
    | _ => exact False.elim h
  cases kl : K.lookup a with
  | some o =>
    have e := kin a o kl
    rw [ga] at e
    cases e
    exact main (fun _ => none) (fun _ => Or.inl rfl) (Or.inr ⟨_, vs.toArray, _, kl, rfl, rfl, rfl, by rw [List.size_toArray, lv]; exact ll, vals⟩) (fun _ _ z => nomatch z) fun _ z => absurd rfl z
  | none =>
    have at0 : ∀ {b : Addr} {u : HO}, (if b = a then some (HO.frz { cls := .type "list", data := .seq vs.toArray } (.lst (ns.map V.int))) else none) = some u → b = a ∧ u = HO.frz { cls := .type "list", data := .seq vs.toArray } (.lst (ns.map V.int)) := fun {b u} z => by
      by_cases hb : b = a
      · rw [if_pos hb] at z
        cases z
        exact ⟨hb, rfl⟩
      · rw [if_neg hb] at z
        cases z
    refine main (fun b => if b = a then some (.frz { cls := .type "list", data := .seq vs.toArray } (.lst (ns.map V.int))) else none) (fun b => ?_) (Or.inl (Or.inr ⟨{ cls := .type "list", data := .seq vs.toArray }, if_pos rfl⟩)) (fun b u z => ?_) fun b z => ⟨?_, kl⟩
    · by_cases hb : b = a
      · exact Or.inr ⟨_, _, if_pos hb⟩
      · exact Or.inl (if_neg hb)
    · obtain ⟨rfl, rfl⟩ := at0 z
      exact ⟨ga, by rw [List.length_map]; exact ll, vs, _, vals, ga⟩
    · by_cases hb : b = a
      · exact hb
      · exact absurd (if_neg hb) z
theorem g_walk {l : PySem.W.OpenLaw} {n k : Nat} {q : Program} {loose : List Str} {XP : (Str → Option Value) → Heap → Prop} {YP : World → Heap → Prop} {d : DefRec} {x : Str}
    (most : l.most = some n) (small : n ≤ sizeLine) (nodef : d.params.defaults = []) (room : Room k callerA)
    (F : ∀ (w : World) (mg : Str → Option Value) (fa : Addr) (h : Heap), YP w h → h.Ns mainGlobals mg → mg d.name = some (.ref fa) →
      ∃ (K : PySem.W.Frag) (fd : FuncData) (sp : Sp), K.In h ∧ (∀ (s : Shared) (u : Value), BindsTo s fd ⟨[u], []⟩ [(x, u)]) ∧
        (∀ (H : Hp) (a : Addr) (ns : List Int), SqL K H a (ns.map V.int) → sp [.ref a] H (fun v _ => v = .bl true) C8.E0) ∧ ∀ b0 : Heap, K.In b0 → b0.Ns mainGlobals mg → GFn l.prog w K mg b0 k fa fd [x] sp) :
    PySem.W.WalkO q loose XP YP l.row.toRowW d [] (fun f vs => PySem.call f vs) := by
  refine Att.attach_call most nodef fun w s0 s1 mg mb fa o pm cd doc a vs ns G Y ho hd hcd hmg obj iia ln0 gens => ?_
  obtain ⟨K, fd, sp, kin, bd, want, hF⟩ := F w mg fa _ Y G.T.g hmg
  exact g_called kin G.T.g G.T.b G.T.builtins G.T.nolimit gens obj iia (Nat.le_trans ln0 small) room hF bd fun H _ sq => want H a ns sq
end NW
/-! ## The law's interpreter: how its state lies in a heap; its promises -/
namespace NW
open PySem PySem.Spec PyProof.Rows L2
/-- an entry of the law's stack: place, row, rounds left -/
def EntAt (H : Hp) : Row → V → Prop
  | .whl a n b, v => ∃ p i vr n0, v = .ref p ∧ H p = some (.tup [.int i, vr, .int n]) ∧ RowAt H (.whl a n0 b) vr
  | .ite a t e, v => ∃ p i vr n, v = .ref p ∧ H p = some (.tup [.int i, vr, .int n]) ∧ RowAt H (.ite a t e) vr
  | .set x d a b, v => ∃ p i vr n, v = .ref p ∧ H p = some (.tup [.int i, vr, .int n]) ∧ RowAt H (.set x d a b) vr
  | .get x l a, v => ∃ p i vr n, v = .ref p ∧ H p = some (.tup [.int i, vr, .int n]) ∧ RowAt H (.get x l a) vr
  | .put l a b, v => ∃ p i vr n, v = .ref p ∧ H p = some (.tup [.int i, vr, .int n]) ∧ RowAt H (.put l a b) vr
  | .pick x a b c, v => ∃ p i vr n, v = .ref p ∧ H p = some (.tup [.int i, vr, .int n]) ∧ RowAt H (.pick x a b c) vr
  | .lt a, v => ∃ p i vr n, v = .ref p ∧ H p = some (.tup [.int i, vr, .int n]) ∧ RowAt H (.lt a) vr
/-- a row that is no while -/
def noW (r : Row) : Prop := ∀ a n b, r ≠ .whl a n b
theorem entAt_no {H : Hp} {r : Row} {v : V} (h : noW r) : EntAt H r v ↔ ∃ p i vr n, v = .ref p ∧ H p = some (.tup [.int i, vr, .int n]) ∧ RowAt H r vr := by
  cases r with
  | whl a n b => exact absurd rfl (h a n b)
  | _ => exact Iff.rfl
theorem EntAt.ts {H H' : Hp} (s : TS H H') {r : Row} {v : V} (h : EntAt H r v) : EntAt H' r v := by
  cases r <;> (obtain ⟨p, i, vr, n, e, h1, h2⟩ := h; exact ⟨p, i, vr, n, e, s _ _ h1, h2.ts s⟩)
/-- what is first: a tuple of three whose second item is a row of that word -/
theorem EntAt.word {H : Hp} {r : Row} {v : V} (h : EntAt H r v) : ∃ p i pr n xs, v = .ref p ∧ H p = some (.tup [.int i, .ref pr, .int n]) ∧ H pr = some (.tup (.str r.word :: xs)) ∧ (∀ a m b, r = .whl a m b → n = m) := by
  cases r with
  | whl a n b =>
    obtain ⟨p, i, vr, n0, e, h1, h2⟩ := h
    obtain ⟨pr, xs, rfl, h3⟩ := h2.word
    exact ⟨p, i, pr, n, xs, e, h1, h3, fun _ _ _ z => by cases z; rfl⟩
  | _ =>
    obtain ⟨p, i, vr, n, e, h1, h2⟩ := h
    obtain ⟨pr, xs, rfl, h3⟩ := h2.word
    exact ⟨p, i, pr, n, xs, e, h1, h3, fun _ _ _ z => by cases z⟩
/-- the lists' first cells and lengths, by name -/
def GAt (H : Hp) (ls : List LD) (gs : List (Key × V)) : Prop := ∀ l ∈ ls.map LD.nm, ∃ p f d, d ∈ ls ∧ d.nm = l ∧ valV gs (Sum.inr l) = some (.ref p) ∧ firstOf ls 0 l = some f ∧ H p = some (.tup [.int f, .int d.cells])
theorem GAt.ts {H H' : Hp} (s : TS H H') {ls : List LD} {gs : List (Key × V)} (h : GAt H ls gs) : GAt H' ls gs := fun l m => by
  obtain ⟨p, f, d, md, e, v, fo, hp⟩ := h l m
  exact ⟨p, f, d, md, e, v, fo, s _ _ hp⟩
structure AmA where
  A : Addr
  D : Addr
  C : Addr
  G : Addr
  W : Addr
  L : Addr
structure AmidAt (Hb H : Hp) (a : AmA) (ls : List LD) (s : Mc) : Prop where
  sm : Same Hb H
  hA : H a.A = some (.lst [.ref a.D, .ref a.C, .ref a.G, .ref a.W, .ref a.L])
  hD : H a.D = some (.dK (envK s.env))
  hC : H a.C = some (.lst ((flat ls s.mem).map .int))
  hG : ∃ gs, H a.G = some (.dK gs) ∧ GAt H ls gs
  hW : ∃ ws, H a.W = some (.lst ws) ∧ Paired (EntAt H) s.stk.reverse ws
  hL : H a.L = some (.lst (s.out.map .int))
  fA : Hb a.A = none
  fD : Hb a.D = none
  fC : Hb a.C = none
  fW : Hb a.W = none
  fL : Hb a.L = none
  dG : a.D ≠ a.G
  aW : a.A ≠ a.W
  cW : a.C ≠ a.W
  cL : a.C ≠ a.L
  lW : a.L ≠ a.W
theorem upd_none {H : Hp} {a p : Addr} {o : HO} (n : H a = none) (ne : a ≠ p) : upd H p o a = none := by
  rw [upd_ne ne]
  exact n
section
variable {Hb H H' : Hp} {a : AmA} {ls : List LD} {s : Mc}
theorem AmidAt.aC (h : AmidAt Hb H a ls s) : a.A ≠ a.C := ne_of h.hA h.hC fun z => by
  have z := HO.lst.inj z
  cases e : (flat ls s.mem) with
  | nil => rw [e] at z; cases z
  | cons x xs => rw [e] at z; cases z
theorem AmidAt.aL (h : AmidAt Hb H a ls s) : a.A ≠ a.L := ne_of h.hA h.hL fun z => by
  have z := HO.lst.inj z
  cases e : s.out with
  | nil => rw [e] at z; cases z
  | cons x xs => rw [e] at z; cases z
theorem AmidAt.same (h : AmidAt Hb H a ls s) (t : Same H H') : AmidAt Hb H' a ls s := by
  obtain ⟨gs, g1, g2⟩ := h.hG
  obtain ⟨ws, h1, h2⟩ := h.hW
  exact ⟨h.sm.trans t, t _ _ h.hA, t _ _ h.hD, t _ _ h.hC, ⟨gs, t _ _ g1, g2.ts (same_ts t)⟩, ⟨ws, t _ _ h1, Paired.mapP h2 fun _ _ q => q.ts (same_ts t)⟩, t _ _ h.hL, h.fA, h.fD, h.fC, h.fW, h.fL, h.dG, h.aW, h.cW, h.cL, h.lW⟩
theorem AmidAt.nw {p : Addr} {o : HO} (h : AmidAt Hb H a ls s) (n : H p = none) : AmidAt Hb (upd H p o) a ls s := h.same (same_nw (Same.refl _) n)
/-- another base -/
theorem AmidAt.base {Hc : Hp} (h : AmidAt Hb H a ls s) (t : Same Hc H) (n1 : Hc a.A = none) (n2 : Hc a.D = none) (n3 : Hc a.C = none) (n4 : Hc a.W = none) (n5 : Hc a.L = none) : AmidAt Hc H a ls s :=
  ⟨t, h.hA, h.hD, h.hC, h.hG, h.hW, h.hL, n1, n2, n3, n4, n5, h.dG, h.aW, h.cW, h.cL, h.lW⟩
theorem AmidAt.putD (h : AmidAt Hb H a ls s) (e : EnvM) : AmidAt Hb (upd H a.D (.dK (envK e))) a ls { s with env := e } ∧ TS H (upd H a.D (.dK (envK e))) := by
  obtain ⟨gs, g1, g2⟩ := h.hG
  obtain ⟨ws, h1, h2⟩ := h.hW
  have t : TS H (upd H a.D (.dK (envK e))) := ts_mut (TS.refl _) h.hD (fun _ z => nomatch z)
  have k : ∀ {b : Addr} {xs : List V}, H b = some (.lst xs) → upd H a.D (.dK (envK e)) b = some (.lst xs) := fun hb => upd_mut (ne_of hb h.hD fun z => nomatch z) hb
  exact ⟨⟨same_mut h.sm h.fD, k h.hA, upd_same, k h.hC, ⟨gs, upd_mut (Ne.symm h.dG) g1, g2.ts t⟩, ⟨ws, k h1, Paired.mapP h2 fun _ _ q => q.ts t⟩, k h.hL, h.fA, h.fD, h.fC, h.fW, h.fL, h.dG, h.aW, h.cW, h.cL, h.lW⟩, t⟩
theorem AmidAt.setC (h : AmidAt Hb H a ls s) {m : Str → List Int} {xs : List V} (e : xs = (flat ls m).map .int) : AmidAt Hb (upd H a.C (.lst xs)) a ls { s with mem := m } ∧ TS H (upd H a.C (.lst xs)) := by
  obtain ⟨gs, g1, g2⟩ := h.hG
  obtain ⟨ws, h1, h2⟩ := h.hW
  have t : TS H (upd H a.C (.lst xs)) := ts_mut (TS.refl _) h.hC (fun _ z => nomatch z)
  have k : ∀ {b : Addr} {ks : List (Key × V)}, H b = some (.dK ks) → upd H a.C (.lst xs) b = some (.dK ks) := fun hb => upd_mut (ne_of hb h.hC fun z => nomatch z) hb
  exact ⟨⟨same_mut h.sm h.fC, upd_mut h.aC h.hA, k h.hD, by rw [e]; exact upd_same, ⟨gs, k g1, g2.ts t⟩, ⟨ws, upd_mut (Ne.symm h.cW) h1, Paired.mapP h2 fun _ _ q => q.ts t⟩, upd_mut (Ne.symm h.cL) h.hL, h.fA, h.fD, h.fC, h.fW, h.fL, h.dG, h.aW, h.cW, h.cL, h.lW⟩, t⟩
/-- the stack's own list is changed -/
theorem AmidAt.popW (h : AmidAt Hb H a ls s) {st : List Row} {xs : List V} (e : Paired (EntAt H) st.reverse xs) : AmidAt Hb (upd H a.W (.lst xs)) a ls { s with stk := st } ∧ TS H (upd H a.W (.lst xs)) := by
  obtain ⟨gs, g1, g2⟩ := h.hG
  obtain ⟨ws, h1, h2⟩ := h.hW
  have t : TS H (upd H a.W (.lst xs)) := ts_mut (TS.refl _) h1 (fun _ z => nomatch z)
  have k : ∀ {b : Addr} {ks : List (Key × V)}, H b = some (.dK ks) → upd H a.W (.lst xs) b = some (.dK ks) := fun hb => upd_mut (ne_of hb h1 fun z => nomatch z) hb
  exact ⟨⟨same_mut h.sm h.fW, upd_mut h.aW h.hA, k h.hD, upd_mut h.cW h.hC, ⟨gs, k g1, g2.ts t⟩, ⟨xs, upd_same, Paired.mapP e fun _ _ q => q.ts t⟩, upd_mut h.lW h.hL, h.fA, h.fD, h.fC, h.fW, h.fL, h.dG, h.aW, h.cW, h.cL, h.lW⟩, t⟩
/-- another list becomes the stack -/
theorem AmidAt.setW (h : AmidAt Hb H a ls s) {st : List Row} {p : Addr} {xs : List V} (n : H p = none) (e : Paired (EntAt H) st.reverse xs) :
    AmidAt Hb (upd (upd H p (.lst xs)) a.A (.lst [.ref a.D, .ref a.C, .ref a.G, .ref p, .ref a.L])) { a with W := p } ls { s with stk := st } ∧ TS H (upd (upd H p (.lst xs)) a.A (.lst [.ref a.D, .ref a.C, .ref a.G, .ref p, .ref a.L])) := by
  have h1 := h.nw (o := .lst xs) n
  obtain ⟨gs, g1, g2⟩ := h1.hG
  have t0 : TS H (upd H p (.lst xs)) := ts_nw (TS.refl _) n
  have t1 : TS (upd H p (.lst xs)) (upd (upd H p (.lst xs)) a.A (.lst [.ref a.D, .ref a.C, .ref a.G, .ref p, .ref a.L])) := ts_mut (TS.refl _) h1.hA (fun _ z => nomatch z)
  have k : ∀ {b : Addr} {ks : List (Key × V)}, (upd H p (.lst xs)) b = some (.dK ks) → upd (upd H p (.lst xs)) a.A (.lst [.ref a.D, .ref a.C, .ref a.G, .ref p, .ref a.L]) b = some (.dK ks) := fun hb => upd_mut (ne_of hb h1.hA fun z => nomatch z) hb
  have pA : p ≠ a.A := Ne.symm (ne_of_none h.hA n)
  have fp : Hb p = none := by
    cases q : Hb p with
    | none => rfl
    | some u =>
      rw [h.sm _ _ q] at n
      cases n
  exact ⟨⟨same_mut h1.sm h.fA, upd_same, k h1.hD, upd_mut (Ne.symm h.aC) h1.hC, ⟨gs, k g1, g2.ts t1⟩, ⟨xs, upd_mut pA upd_same, Paired.mapP e fun _ _ q => q.ts (t0.trans t1)⟩, upd_mut (Ne.symm h.aL) h1.hL, h.fA, h.fD, h.fC, fp, h.fL, h.dG, ne_of_none h.hA n, ne_of_none h.hC n, h.cL, ne_of_none h.hL n⟩, t0.trans t1⟩
theorem AmidAt.setL (h : AmidAt Hb H a ls s) {o : List Int} {p : Addr} {xs : List V} (n : H p = none) (e : xs = o.map .int) :
    AmidAt Hb (upd (upd H p (.lst xs)) a.A (.lst [.ref a.D, .ref a.C, .ref a.G, .ref a.W, .ref p])) { a with L := p } ls { s with out := o } ∧ TS H (upd (upd H p (.lst xs)) a.A (.lst [.ref a.D, .ref a.C, .ref a.G, .ref a.W, .ref p])) := by
  have h1 := h.nw (o := .lst xs) n
  obtain ⟨gs, g1, g2⟩ := h1.hG
  obtain ⟨ws, w1, w2⟩ := h1.hW
  obtain ⟨ws0, w0, _⟩ := h.hW
  have t0 : TS H (upd H p (.lst xs)) := ts_nw (TS.refl _) n
  have t1 : TS (upd H p (.lst xs)) (upd (upd H p (.lst xs)) a.A (.lst [.ref a.D, .ref a.C, .ref a.G, .ref a.W, .ref p])) := ts_mut (TS.refl _) h1.hA (fun _ z => nomatch z)
  have k : ∀ {b : Addr} {ks : List (Key × V)}, (upd H p (.lst xs)) b = some (.dK ks) → upd (upd H p (.lst xs)) a.A (.lst [.ref a.D, .ref a.C, .ref a.G, .ref a.W, .ref p]) b = some (.dK ks) := fun hb => upd_mut (ne_of hb h1.hA fun z => nomatch z) hb
  have pA : p ≠ a.A := Ne.symm (ne_of_none h.hA n)
  have fp : Hb p = none := by
    cases q : Hb p with
    | none => rfl
    | some u =>
      rw [h.sm _ _ q] at n
      cases n
  exact ⟨⟨same_mut h1.sm h.fA, upd_same, k h1.hD, upd_mut (Ne.symm h.aC) h1.hC, ⟨gs, k g1, g2.ts t1⟩, ⟨ws, upd_mut (Ne.symm h.aW) w1, Paired.mapP w2 fun _ _ q => q.ts t1⟩, by rw [upd_mut pA upd_same, e], h.fA, h.fD, h.fC, h.fW, fp, h.dG, h.aW, h.cW, ne_of_none h.hC n, Ne.symm (ne_of_none w0 n)⟩, t0.trans t1⟩
end
/-! ### bounds of nesting -/
mutual
theorem okRow.mono {ls : List Str} : ∀ {r : Row} {k j : Nat}, okRow ls k r → k ≤ j → okRow ls j r
  | .set .., _, _, h, _ => h
  | .get .., _, _, h, _ => h
  | .put .., _, _, h, _ => h
  | .pick .., _, _, h, _ => h
  | .lt .., _, _, h, _ => h
  | .ite _ t e, _, _, h, l => ⟨by have := h.1; omega, h.2.1, h.2.2.1, h.2.2.2.1, h.2.2.2.2.1.mono (by omega), h.2.2.2.2.2.mono (by omega)⟩
  | .whl _ _ b, _, _, h, l => ⟨by have := h.1; omega, h.2.1, h.2.2.1, h.2.2.2.1, h.2.2.2.2.1, h.2.2.2.2.2.mono (by omega)⟩
theorem okRows.mono {ls : List Str} : ∀ {rs : Rows} {k j : Nat}, okRows ls k rs → k ≤ j → okRows ls j rs
  | .nil, _, _, _, _ => True.intro
  | .cons r rs, _, _, h, l => ⟨h.1.mono l, h.2.mono l⟩
end
/-- the rows that wait are nested in at most three others -/
def ok3 (ls : List LD) (s : Mc) : Prop := ∀ r ∈ s.stk, okRow (ls.map LD.nm) 3 r
def turnS : Row → Bool → List Row
  | .ite _ t e, b => if b = true then t.list else e.list
  | .whl c n bd, b => if b = true then bd.list ++ [.whl c (n - 1) bd] else []
  | _, _ => []
theorem turn_ok3 {ls : List Str} {r : Row} {b : Bool} (h : okRow ls 3 r) (n0 : ∀ a n b, r = .whl a n b → 0 < n) : ∀ q ∈ turnS r b, okRow ls 3 q := by
  intro q m
  cases r with
  | ite a t e =>
    have m : q ∈ (if b = true then t.list else e.list) := m
    split at m
    · exact (okRows.mem h.2.2.2.2.1 m).mono (by decide)
    · exact (okRows.mem h.2.2.2.2.2 m).mono (by decide)
  | whl a n bd =>
    have m : q ∈ (if b = true then bd.list ++ [.whl a (n - 1) bd] else []) := m
    have := n0 a n bd rfl
    split at m
    · rcases List.mem_append.mp m with m | m
      · exact (okRows.mem h.2.2.2.2.2 m).mono (by decide)
      · rw [List.mem_singleton.mp m]
        exact ⟨h.1, h.2.1, by have := h.2.2.1; omega, by have := h.2.2.2.1; omega, h.2.2.2.2.1, h.2.2.2.2.2⟩
    · cases m
  | _ => cases m
theorem turn_len {ls : List Str} {k : Nat} {r : Row} {b : Bool} (h : okRow ls k r) : (turnS r b).length ≤ 3 := by
  cases r with
  | ite a t e =>
    have h1 := h.2.2.1
    have h2 := h.2.2.2.1
    show (if b = true then t.list else e.list).length ≤ 3
    split <;> rw [Rows.list_len] <;> omega
  | whl a n bd =>
    have h1 := h.2.2.2.2.1
    show (if b = true then bd.list ++ [.whl a (n - 1) bd] else []).length ≤ 3
    split
    · rw [List.length_append, Rows.list_len, List.length_singleton]
      omega
    · exact Nat.zero_le _
  | _ => exact Nat.zero_le _
/-- a test's row -/
def isT (r : Row) : Prop := (∃ a t e, r = .ite a t e) ∨ ∃ a n b, r = .whl a n b
/-- the operand that a test looks at -/
def tOpd : Row → Opd
  | .ite a _ _ => a
  | .whl a _ _ => a
  | _ => .n 0
theorem exec_test {s : Mc} {r : Row} (h : isT r) (v : okV (wor s.env (tOpd r))) : exec s r = (none, { s with stk := turnS r (decide (0 < wor s.env (tOpd r))) ++ s.stk }) := by
  rcases h with ⟨a, t, e, rfl⟩ | ⟨a, n, b, rfl⟩
  · have v : okV (wor s.env a) := v
    show (none, { s with stk := (if wor s.env a = 0 then e.list else t.list) ++ s.stk }) = (none, { s with stk := (if decide (0 < wor s.env a) = true then t.list else e.list) ++ s.stk })
    by_cases z : wor s.env a = 0
    · rw [if_pos z, if_neg (by rw [decide_eq_true_eq]; omega)]
    · rw [if_neg z, if_pos (by rw [decide_eq_true_eq]; have := v.1; omega)]
  · have v : okV (wor s.env a) := v
    show (none, { s with stk := if wor s.env a = 0 then s.stk else b.list ++ Row.whl a (n - 1) b :: s.stk }) = (none, { s with stk := (if decide (0 < wor s.env a) = true then b.list ++ [Row.whl a (n - 1) b] else []) ++ s.stk })
    by_cases z : wor s.env a = 0
    · rw [if_pos z, if_neg (by rw [decide_eq_true_eq]; omega)]
      rfl
    · rw [if_neg z, if_pos (by rw [decide_eq_true_eq]; have := v.1; omega), List.append_assoc]
      rfl
/-! ### promises -/
def sp_law_many (n : Nat) : Sp := fun vs H Q _ => ∃ (rows : Rows) (p : Addr) (ws : List V) (ls : List Str), vs = [.ref p] ∧ 0 < n ∧ H p = some (.tup ws) ∧ RowsL H rows ws ∧ okRows ls (n - 1) rows ∧ rows.len ≤ 5 ∧ ∀ i H', Same H H' → Q (.int i) H'
def sp_law_todo : Sp := fun vs H Q _ => ∃ (rows : Rows) (v : V) (f : Int) (ls : List Str), vs = [v, .int f] ∧ RowsAt H rows v ∧ okRows ls 3 rows ∧ rows.len ≤ 5 ∧ ∀ H' q ws, Same H H' → H q = none → H' q = some (.lst ws) → Paired (EntAt H') rows.list.reverse ws → Q (.ref q) H'
def sp_law_worth : Sp := fun vs H Q _ => ∃ (Hb : Hp) (a : AmA) (ls : List LD) (s : Mc) (o : Opd), vs = [.ref a.A, o.v] ∧ AmidAt Hb H a ls s ∧ Q (.int (wor s.env o)) H
def sp_law_due : Sp := fun vs H Q _ => ∃ (Hb : Hp) (a : AmA) (ls : List LD) (s : Mc), vs = [.ref a.A] ∧ AmidAt Hb H a ls s ∧
  (due s.stk = none → ∀ H', TS H H' → AmidAt Hb H' a ls { s with stk := [] } → Q .non H') ∧
  (∀ r t, due s.stk = some (r, t) → ∀ H' v, TS H H' → AmidAt Hb H' a ls { s with stk := t } → EntAt H' r v → Q v H')
def sp_law_turn : Sp := fun vs H Q _ => ∃ (Hb : Hp) (a : AmA) (ls : List LD) (s : Mc) (r : Row) (v : V) (b : Bool), vs = [.ref a.A, v, .bl b] ∧ AmidAt Hb H a ls s ∧ EntAt H r v ∧ isT r ∧ okRow (ls.map LD.nm) 3 r ∧ s.stk.length ≤ 3000 ∧
  ∀ H' a', a'.A = a.A → TS H H' → AmidAt Hb H' a' ls { s with stk := turnS r b ++ s.stk } → Q .non H'
def sp_law_cell : Sp := fun vs H Q _ => ∃ (Hb : Hp) (a : AmA) (ls : List LD) (s : Mc) (l : Str) (o : Opd) (b : Bool), vs = [.ref a.A, .str l, .int (wor s.env o), .bl b] ∧ AmidAt Hb H a ls s ∧ okL ls ∧ okM ls s ∧ l ∈ ls.map LD.nm ∧ okV (wor s.env o) ∧
  (b = false → ∀ H', Same H H' → Q (optV (plc ls (cel s l o))) H') ∧ (b = true → ∀ (j : Nat) H', Same H H' → j < (flat ls s.mem).length → Q (.int j) H')
def sp_law_done : Sp := fun vs H Q _ => ∃ (Hb : Hp) (a : AmA) (ls : List LD) (s : Mc) (r : Row) (v : V) (b : Bool), vs = [.ref a.A, v, .bl b] ∧ AmidAt Hb H a ls s ∧ okL ls ∧ okD1 ls s r ∧ s.env.length ≤ 1000 ∧ s.out.length ≤ 1000 ∧ EntAt H r v ∧ ¬ isT r ∧
  (b = false → ∀ H' a' q i j, a'.A = a.A → TS H H' → AmidAt Hb H' a' ls (exec s r).2 → H' q = some (.tup [.int i, .int j, optV (plc ls (exec s r).1)]) → Q (.ref q) H') ∧
  (b = true → ∀ H' v', Same Hb H' → Q v' H')
def sp_law_ahead : Sp := fun vs H Q _ => ∃ (Hb : Hp) (a : AmA) (ls : List LD) (s : Mc) (r : Row) (v : V) (b : Bool), vs = [.ref a.A, v, .bl b, .int 1] ∧ AmidAt Hb H a ls s ∧ okL ls ∧ okD1 ls s r ∧ okRow (ls.map LD.nm) 3 r ∧ ok3 ls s ∧ s.env.length ≤ 1000 ∧ s.stk.length ≤ 2990 ∧ EntAt H r v ∧ isT r ∧ ∀ H' q, Same H H' → Q (.ref q) H'
end NW
/-! ## Walks: bits, deeds, lines -/
namespace NW
open PySem PySem.Spec PyProof.Rows L2
set_option pp.maxSteps 150
-- an object's place in a heap
local macro_rules | `(tactic| walk_at "hp") => `(tactic| (show _ = some _; first
  | assumption
  | exact upd_same
  | (refine' upd_get ?n ?h; (case n => assumption); (case h => walk_at "hp"))
  | (refine' same_get ?n ?h; (case n => assumption); (case h => walk_at "hp"))))
-- a heap that has grown
local macro_rules | `(tactic| walk_at "sm") => `(tactic| first
  | assumption
  | exact Same.refl _
  | (refine' same_nw ?n ?h; (case h => assumption); (case n => walk_at "sm"))
  | (refine' Same.trans ?n ?h; (case h => assumption); (case n => walk_at "sm")))
local macro_rules | `(tactic| walk_at "ty") => `(tactic| first
  | exact TyN.int _
  | exact TyN.str _
  | exact TyN.non
  | (refine' TyN.tup ?h; (case h => walk_at "hp"))
  | (refine' TyN.lst ?h; (case h => walk_at "hp")))
-- a test whose answer is known
local macro_rules | `(tactic| walk_at "if") => `(tactic| first
  | (refine iteB (by decide +kernel) ?_)
  | (refine iteN (by decide +kernel) ?_)
  | (refine iteB (by rfl) ?_)
  | (refine iteN (by rfl) ?_)
  | (refine iteB (decide_eq_true (by first | omega | assumption)) ?_)
  | (refine iteN (decide_eq_false (by first | omega | assumption)) ?_)
  | (refine iteB (by simp only [Bool.not_eq_true', Bool.not_eq_false', Bool.and_eq_true, Bool.and_eq_false_iff, Bool.or_eq_true, Bool.or_eq_false_iff, decide_eq_true_eq, decide_eq_false_iff_not]; omega) ?_)
  | (refine iteN (by simp only [Bool.not_eq_true', Bool.not_eq_false', Bool.and_eq_true, Bool.and_eq_false_iff, Bool.or_eq_true, Bool.or_eq_false_iff, decide_eq_true_eq, decide_eq_false_iff_not]; omega) ?_))
-- one step of a reading
local macro_rules | `(tactic| walk_at "s") => `(tactic| first
  | refine ⟨_, rfl, ?_⟩
  | refine ⟨_, _, rfl, rfl, ?_⟩
  | refine And.intro (show wipe _ _ = wipe _ _ by kernel_rfl) ?_
  | refine And.intro rfl ?_
  | (refine' ⟨_, _, _, _, rfl, rfl, SqT.of ?h, ?e, ?_⟩; (case h => walk_at "hp"); (case e => exact rfl))
  | (refine' ⟨_, _, rfl, ?t, ?_⟩; (case t => walk_at "ty"))
  | (refine' ⟨_, _, rfl, SqT.of ?h, ?e, ?_⟩; (case h => walk_at "hp"); (case e => exact rfl))
  | refine ⟨_, _, rfl, ?_⟩
  | (refine' ⟨_, _, _, rfl, rfl, ?h1, ?h2, ?_⟩; (case h1 => walk_at "hp"); (case h2 => walk_at "hp"))
  | (refine' ⟨_, _, _, _, rfl, rfl, SqL.of ?h, ?e, ?_⟩; (case h => walk_at "hp"); (case e => exact rfl))
  | (refine' ⟨_, _, rfl, Or.inr (SqT.of ?h), ?_⟩; (case h => walk_at "hp"))
  | (refine' ⟨_, _, rfl, Or.inr (SqT.of ?h), rfl, rfl, ?_⟩; (case h => walk_at "hp"))
  | (refine' ⟨_, _, rfl, Or.inl (SqL.of ?h), ?_⟩; (case h => walk_at "hp"))
  | refine And.intro (flat_strs _) ?_
  | (refine And.intro (sm_sz (Nat.le_of_ble_eq_true rfl)) ?_; intro p np)
  | walk_at "if"
  | (refine' And.intro ?a ?_; (case a => first | assumption | exact sm_sz (by omega) | omega | exact Or.inr ⟨by omega, by omega⟩ | exact Or.inl ⟨by omega, by omega⟩ | exact ⟨by omega, by omega⟩))
  | refine Or.inl ⟨_, _, _, rfl, ?_⟩
  | refine Or.inr ⟨_, _, _, rfl, ?_⟩
  | (intro Hn sn))
local macro_rules | `(tactic| walk_at "go") => `(tactic| repeat (walk_at "s"))

abbrev s_bits_of : Stmt := topS 43
abbrev N_bits_of : List Str := ["number", "found"]
abbrev P_bits_of : List Str := ["number"]
theorem sc_bits_of : FnScope N_bits_of P_bits_of (defScope s_bits_of) := ⟨rfl, rfl, rfl, by decide +kernel, rfl, by decide +kernel, by decide +kernel⟩

abbrev s_deed_of : Stmt := topS 44
abbrev N_deed_of : List Str := ["word", "one", "other"]
abbrev P_deed_of : List Str := ["word", "one", "other"]
theorem sc_deed_of : FnScope N_deed_of P_deed_of (defScope s_deed_of) := ⟨rfl, rfl, rfl, by decide +kernel, rfl, by decide +kernel, by decide +kernel⟩

abbrev s_line_of : Stmt := topS 61
abbrev N_line_of : List Str := ["cell"]
abbrev P_line_of : List Str := ["cell"]
theorem sc_line_of : FnScope N_line_of P_line_of (defScope s_line_of) := ⟨rfl, rfl, rfl, by decide +kernel, rfl, by decide +kernel, by decide +kernel⟩

section
variable {P : Program} {w : World} {K : PySem.W.Frag} {mg : Str → Option Value} {base : Heap} {aS aD : Addr} {es : Array DictEntry} {n : Nat}
theorem cm_ok {a b : Int} (ha : okV a) (hb : okV b) : CMul a b := by
  refine .inl ⟨?_, ?_⟩
  · exact Int.lt_of_lt_of_le (by decide) ha.1
  · exact Int.lt_of_le_of_lt ha.2 (by decide)
theorem ok_bits_of (T : Tx mg) (D : DefAt K mg "bits_of" s_bits_of) : C8.Cal P w K mg base 1 "bits_of" sp_bits_of [] := by
  refine D.cal (k := 0) sc_bits_of (fun _ _ _ _ _ _ us hl => match us, hl with | [_], _ => rfl) (fun vs H Q E h => ?_) (fun f cdv A outer s H vs Q E hr h => ⟨_, (pss_cons (ps_set (i := 1) sc_bits_of.nd rfl (Or.inl rfl) pe_int)
    (pss_cons (ps_while PassesOwn.never (pt_cmpR op_gt (pe_op op_shr (pv 0) (pv 1)) pe_int (nomark _)) (pss_one (ps_aug (i := 1) sc_bits_of.nd rfl (Or.inl rfl) pe_int ip_add)))
    (pss_one (ps_ret (pv 1))))), ?_⟩)
  · obtain ⟨i, rfl, _⟩ := h
    rfl
  · obtain ⟨i, rfl, hi, q⟩ := h
    refine ⟨fun m σ H' => H' = H ∧ ∃ j : Nat, j ≤ 8 ∧ m + j = 8 ∧ σ = [some (.int i), some (.int j)], ⟨8, rfl, 0, by omega, rfl, rfl⟩, ?_⟩
    rintro m σ H' ⟨rfl, j, hj, em, rfl⟩
    walk_at "go"
    refine ite_b (fun c => ?_) (fun c => ?_)
    · have c := of_decide_eq_true c
      have j8 : j ≠ 8 := by
        intro e
        subst e
        have : i / 2 ^ (8 : Int).toNat = 0 := Int.ediv_eq_zero_of_lt hi.1 (by have := hi.2; show i < 256; omega)
        have c : 0 < i / 2 ^ (8 : Int).toNat := c
        omega
      refine ⟨fun σ' H'' => H'' = H' ∧ σ' = [some (.int i), some (.int ((j + 1 : Nat) : Int))], fun σ' H'' z => ⟨m - 1, by omega, z.1, j + 1, by omega, by omega, z.2⟩, ?_⟩
      walk_at "go"
      exact rfl
    · walk_at "go"
      exact q j
theorem ok_deed_of (T : Tx mg) (D : DefAt K mg "deed_of" s_deed_of) : C8.Cal P w K mg base 1 "deed_of" sp_deed_of [] := by
  refine D.cal (k := 0) sc_deed_of (fun _ _ _ _ _ _ us hl => match us, hl with | [_, _, _], _ => rfl) (fun vs H Q E h => ?_) (fun f cdv A outer s H vs Q E hr h => ⟨_, (pss_cons (ps_if (pt_cmpR op_in_seq (pv 0) (pe_tup (pa_cons pe_str (pa_cons pe_str pa_nil))) (by rfl)) (pss_one (ps_ret (pe_ifExp (pt_cmpR op_eq (pv 0) pe_str (nomark _)) (pe_callTy call_int1 (by rfl) T.int_ (by decide +kernel) (pa_cons (pe_cmpR op_lt (pv 1) (pv 2) (nomark _)) pa_nil)) (pe_callTy call_int1 (by rfl) T.int_ (by decide +kernel) (pa_cons (pe_cmpR op_eq (pv 1) (pv 2) (nomark _)) pa_nil)))))
    pss_nil)
    (pss_cons (ps_if (pt_cmpR op_eq (pv 0) pe_str (nomark _)) (pss_one (ps_ret (pe_op op_shr (pv 1) (pv 2))))
    pss_nil)
    (pss_cons (ps_if (pt_cmpR op_in_seq (pv 0) (pe_tup (pa_cons pe_str (pa_cons pe_str (pa_cons pe_str pa_nil)))) (by rfl)) (pss_one (ps_ret (pe_dget (hu_of hr) (pe_disp (pps_cons pe_str (pe_op op_and (pv 1) (pv 2)) (pps_cons pe_str (pe_op op_or (pv 1) (pv 2)) (pps_cons pe_str (pe_op op_xor (pv 1) (pv 2)) pps_nil))) (by rfl) (by rfl) (fun z => by cases z) (by decide)) (pv 0) (fun _ _ => rfl))))
    pss_nil)
    (pss_one (ps_ret (pe_op op_andM (pe_dget (hu_of hr) (pe_disp (pps_cons pe_str (pe_op op_add (pv 1) (pv 2)) (pps_cons pe_str (pe_op op_sub (pv 1) (pv 2)) (pps_cons pe_str (pe_op op_mul (pv 1) (pv 2)) pps_nil))) (by rfl) (by rfl) (fun z => by cases z) (by decide)) (pv 0) (fun _ _ => rfl)) (pe_op op_sub (C8.pe_gc (by rfl) T.g_WORTHS) pe_int))))))), ?_⟩)
  · obtain ⟨d, a, b, rfl, _⟩ := h
    rfl
  · obtain ⟨d, a, b, rfl, hd, ha, hb, q⟩ := h
    have cm := cm_ok ha hb
    rcases hd with rfl | rfl | rfl | rfl | rfl | rfl | rfl | rfl | rfl <;> walk_at "go"
    · refine ⟨upd_same, [(Sum.inr "add", .int (a + b)), (Sum.inr "sub", .int (a - b)), (Sum.inr "mul", .int (a * b))], rfl, Nat.le_of_ble_eq_true rfl, ?_⟩
      refine ⟨_, rfl, _, _, rfl, .inl ⟨_, Sum.inr "add", .inl upd_same, rfl, rfl⟩, ?_⟩
      refine ⟨_, _, rfl, rfl, ?_⟩
      refine ⟨_, 8, rfl, rfl, ?_⟩
      exact q _ (by rw [upd_upd]; walk_at "sm")
    · refine ⟨upd_same, [(Sum.inr "add", .int (a + b)), (Sum.inr "sub", .int (a - b)), (Sum.inr "mul", .int (a * b))], rfl, Nat.le_of_ble_eq_true rfl, ?_⟩
      refine ⟨_, rfl, _, _, rfl, .inl ⟨_, Sum.inr "sub", .inl upd_same, rfl, rfl⟩, ?_⟩
      refine ⟨_, _, rfl, rfl, ?_⟩
      refine ⟨_, 8, rfl, rfl, ?_⟩
      exact q _ (by rw [upd_upd]; walk_at "sm")
    · refine ⟨upd_same, [(Sum.inr "add", .int (a + b)), (Sum.inr "sub", .int (a - b)), (Sum.inr "mul", .int (a * b))], rfl, Nat.le_of_ble_eq_true rfl, ?_⟩
      refine ⟨_, rfl, _, _, rfl, .inl ⟨_, Sum.inr "mul", .inl upd_same, rfl, rfl⟩, ?_⟩
      refine ⟨_, _, rfl, rfl, ?_⟩
      refine ⟨_, 8, rfl, rfl, ?_⟩
      exact q _ (by rw [upd_upd]; walk_at "sm")
    · refine ⟨upd_same, [(Sum.inr "and", .int (Builtin.bitAnd a b)), (Sum.inr "or", .int (Builtin.bitOr a b)), (Sum.inr "xor", .int (Builtin.bitXor a b))], rfl, Nat.le_of_ble_eq_true rfl, ?_⟩
      refine ⟨_, rfl, _, _, rfl, .inl ⟨_, Sum.inr "and", .inl upd_same, rfl, rfl⟩, ?_⟩
      exact q _ (by rw [upd_upd]; walk_at "sm")
    · refine ⟨upd_same, [(Sum.inr "and", .int (Builtin.bitAnd a b)), (Sum.inr "or", .int (Builtin.bitOr a b)), (Sum.inr "xor", .int (Builtin.bitXor a b))], rfl, Nat.le_of_ble_eq_true rfl, ?_⟩
      refine ⟨_, rfl, _, _, rfl, .inl ⟨_, Sum.inr "or", .inl upd_same, rfl, rfl⟩, ?_⟩
      exact q _ (by rw [upd_upd]; walk_at "sm")
    · refine ⟨upd_same, [(Sum.inr "and", .int (Builtin.bitAnd a b)), (Sum.inr "or", .int (Builtin.bitOr a b)), (Sum.inr "xor", .int (Builtin.bitXor a b))], rfl, Nat.le_of_ble_eq_true rfl, ?_⟩
      refine ⟨_, rfl, _, _, rfl, .inl ⟨_, Sum.inr "xor", .inl upd_same, rfl, rfl⟩, ?_⟩
      exact q _ (by rw [upd_upd]; walk_at "sm")
    · refine Or.inr ⟨_, rfl, ?_⟩
      rename_i p0 np0
      have q := q (upd H p0 (.tup [.str "less", .str "same"])) (same_nw (Same.refl _) np0)
      by_cases c : a < b
      · rw [decide_eq_true c]
        rw [show deed "less" a b = 1 from if_pos c] at q
        exact q
      · rw [decide_eq_false c]
        rw [show deed "less" a b = 0 from if_neg c] at q
        exact q
    · refine Or.inr ⟨_, rfl, ?_⟩
      rename_i p0 np0
      have q := q (upd H p0 (.tup [.str "less", .str "same"])) (same_nw (Same.refl _) np0)
      by_cases c : a = b
      · rw [decide_eq_true (congrArg V.int c)]
        rw [show deed "same" a b = 1 from if_pos c] at q
        exact q
      · rw [decide_eq_false (fun z => c (V.int.inj z))]
        rw [show deed "same" a b = 0 from if_neg c] at q
        exact q
    · refine ⟨hb.1, ?_⟩
      exact q _ (by walk_at "sm")
theorem ok_line_of (T : Tx mg) (D : DefAt K mg "line_of" s_line_of) : C8.Cal P w K mg base 1 "line_of" sp_line_of [] := by
  refine D.cal (k := 0) sc_line_of (fun _ _ _ _ _ _ us hl => match us, hl with | [_], _ => rfl) (fun vs H Q E h => ?_) (fun f cdv A outer s H vs Q E hr h => ⟨_, (pss_one (ps_ret (pe_ifExp (pt_cmpR op_isN (pv 0) pe_non (nomark _)) pe_non (pe_op op_fdiv (pv 0) (C8.pe_gc (by rfl) T.g_LINE))))), ?_⟩)
  · obtain ⟨c, rfl, _⟩ := h
    rfl
  · obtain ⟨c, rfl, q⟩ := h
    cases c with
    | none =>
      walk_at "go"
      exact q
    | some i =>
      walk_at "go"
      exact q
end
end NW
/-! ## Walks: the runner -/
namespace NW
open PySem PySem.Spec PyProof.Rows L2
set_option pp.maxSteps 150
-- an object's place in a heap
local macro_rules | `(tactic| walk_at "hp") => `(tactic| (show _ = some _; first
  | assumption
  | exact upd_same
  | (refine' upd_get ?n ?h; (case n => assumption); (case h => walk_at "hp"))
  | (refine' same_get ?n ?h; (case n => assumption); (case h => walk_at "hp"))))
-- a heap that has grown
local macro_rules | `(tactic| walk_at "sm") => `(tactic| first
  | assumption
  | exact Same.refl _
  | (refine' same_nw ?n ?h; (case h => assumption); (case n => walk_at "sm"))
  | (refine' Same.trans ?n ?h; (case h => assumption); (case n => walk_at "sm")))
local macro_rules | `(tactic| walk_at "ty") => `(tactic| first
  | exact TyN.int _
  | exact TyN.str _
  | exact TyN.non
  | (refine' TyN.tup ?h; (case h => walk_at "hp"))
  | (refine' TyN.lst ?h; (case h => walk_at "hp")))
-- a test whose answer is known
local macro_rules | `(tactic| walk_at "if") => `(tactic| first
  | (refine iteB (by decide +kernel) ?_)
  | (refine iteN (by decide +kernel) ?_)
  | (refine iteB (by rfl) ?_)
  | (refine iteN (by rfl) ?_)
  | (refine iteB (decide_eq_true (by first | omega | assumption)) ?_)
  | (refine iteN (decide_eq_false (by first | omega | assumption)) ?_)
  | (refine iteB (by simp only [Bool.not_eq_true', Bool.not_eq_false', Bool.and_eq_true, Bool.and_eq_false_iff, Bool.or_eq_true, Bool.or_eq_false_iff, decide_eq_true_eq, decide_eq_false_iff_not]; omega) ?_)
  | (refine iteN (by simp only [Bool.not_eq_true', Bool.not_eq_false', Bool.and_eq_true, Bool.and_eq_false_iff, Bool.or_eq_true, Bool.or_eq_false_iff, decide_eq_true_eq, decide_eq_false_iff_not]; omega) ?_))
-- one step of a reading
local macro_rules | `(tactic| walk_at "s") => `(tactic| first
  | refine ⟨_, rfl, ?_⟩
  | refine ⟨_, _, rfl, rfl, ?_⟩
  | refine And.intro (show wipe _ _ = wipe _ _ by kernel_rfl) ?_
  | refine And.intro rfl ?_
  | (refine' ⟨_, _, _, _, rfl, rfl, SqT.of ?h, ?e, ?_⟩; (case h => walk_at "hp"); (case e => exact rfl))
  | (refine' ⟨_, _, rfl, ?t, ?_⟩; (case t => walk_at "ty"))
  | (refine' ⟨_, _, rfl, SqT.of ?h, ?e, ?_⟩; (case h => walk_at "hp"); (case e => exact rfl))
  | refine ⟨_, _, rfl, ?_⟩
  | (refine' ⟨_, _, _, rfl, rfl, ?h1, ?h2, ?_⟩; (case h1 => walk_at "hp"); (case h2 => walk_at "hp"))
  | (refine' ⟨_, _, _, _, rfl, rfl, SqL.of ?h, ?e, ?_⟩; (case h => walk_at "hp"); (case e => exact rfl))
  | (refine' ⟨_, _, rfl, Or.inr (SqT.of ?h), ?_⟩; (case h => walk_at "hp"))
  | (refine' ⟨_, _, rfl, Or.inr (SqT.of ?h), rfl, rfl, ?_⟩; (case h => walk_at "hp"))
  | (refine' ⟨_, _, rfl, Or.inl (SqL.of ?h), ?_⟩; (case h => walk_at "hp"))
  | refine And.intro (flat_strs _) ?_
  | (refine And.intro (sm_sz (Nat.le_of_ble_eq_true rfl)) ?_; intro p np)
  | walk_at "if"
  | (refine' And.intro ?a ?_; (case a => first | assumption | exact sm_sz (by omega) | omega | exact Or.inr ⟨by omega, by omega⟩ | exact Or.inl ⟨by omega, by omega⟩ | exact ⟨by omega, by omega⟩))
  | refine Or.inl ⟨_, _, _, rfl, ?_⟩
  | refine Or.inr ⟨_, _, _, rfl, ?_⟩
  | (intro Hn sn))
local macro_rules | `(tactic| walk_at "go") => `(tactic| repeat (walk_at "s"))

abbrev s_Runner_worth : Stmt := inClass (topS 46) 1
abbrev N_Runner_worth : List Str := ["self", "operand"]
abbrev P_Runner_worth : List Str := ["self", "operand"]
theorem sc_Runner_worth : FnScope N_Runner_worth P_Runner_worth (defScope s_Runner_worth) := ⟨rfl, rfl, rfl, by decide +kernel, rfl, by decide +kernel, by decide +kernel⟩

abbrev s_Runner_cell : Stmt := inClass (topS 46) 2
abbrev N_Runner_cell : List Str := ["self", "name", "at"]
abbrev P_Runner_cell : List Str := ["self", "name", "at"]
theorem sc_Runner_cell : FnScope N_Runner_cell P_Runner_cell (defScope s_Runner_cell) := ⟨rfl, rfl, rfl, by decide +kernel, rfl, by decide +kernel, by decide +kernel⟩

abbrev s_Runner_push : Stmt := inClass (topS 46) 3
abbrev N_Runner_push : List Str := ["self", "nodes"]
abbrev P_Runner_push : List Str := ["self", "nodes"]
theorem sc_Runner_push : FnScope N_Runner_push P_Runner_push (defScope s_Runner_push) := ⟨rfl, rfl, rfl, by decide +kernel, rfl, by decide +kernel, by decide +kernel⟩

abbrev s_Runner_next_one : Stmt := inClass (topS 46) 4
abbrev N_Runner_next_one : List Str := ["self", "place", "row", "parts"]
abbrev P_Runner_next_one : List Str := ["self"]
theorem sc_Runner_next_one : FnScope N_Runner_next_one P_Runner_next_one (defScope s_Runner_next_one) := ⟨rfl, rfl, rfl, by decide +kernel, rfl, by decide +kernel, by decide +kernel⟩

theorem atI0 {x : V} {xs : List V} : atI (x :: xs) 0 = some x := by
  simp [atI, ixN]
theorem word_ne {r : Row} (h : ¬ ∃ a n b, r = .whl a n b) : r.word ≠ "while" := by
  cases r with
  | whl a n b => exact absurd ⟨a, n, b, rfl⟩ h
  | set => exact (show ("set" : Str) ≠ "while" by decide +kernel)
  | get => exact (show ("get" : Str) ≠ "while" by decide +kernel)
  | put => exact (show ("put" : Str) ≠ "while" by decide +kernel)
  | pick => exact (show ("pick" : Str) ≠ "while" by decide +kernel)
  | lt => exact (show ("let" : Str) ≠ "while" by decide +kernel)
  | ite => exact (show ("if" : Str) ≠ "while" by decide +kernel)
theorem lk1 {a b c d e f : V} : List.lookup ("held" : Str) [("held", a), ("cells", b), ("begins", c), ("many", d), ("lets", e), ("waiting", f)] = some a := rfl
section
variable {P : Program} {w : World} {K : PySem.W.Frag} {mg : Str → Option Value} {base : Heap} {cR : Addr}
theorem ok_worth (T : Tx mg) (R : RunnerC K cR) (D : MetAt K cR "worth" "Runner.worth" s_Runner_worth) : C8.Met P w K mg base 1 cR "worth" (sp_worth cR) [] := by
  refine D.met (k := 0) sc_Runner_worth (fun _ _ _ _ _ _ us hl => match us, hl with | [_, _], _ => rfl) (fun vs H Q E h => ?_) (fun f cdv A outer s H vs Q E hr h => ⟨_, (pss_one (ps_ret (pe_ifExp (pt_val (pe_callB (call_isK .str) (by rfl) T.isinstance_ (by decide +kernel) (pa_cons (pv 1) (pa_cons (pe_bltn (v := .ty "str") (u := .type "str") (by rfl) T.str_ (by decide +kernel) rfl) pa_nil)))) (pe_dget2 (hu_of hr) (pe_fld (pv 0) rfl) (pv 1) pe_int ⟨by rfl, by rfl, by rfl, by rfl⟩) (pv 1)))), ?_⟩)
  · obtain ⟨Hb, a, ls, s, o, rfl, _⟩ := h
    rfl
  · obtain ⟨Hb, a, ls, s, o, rfl, hR, q⟩ := h
    cases o with
    | n i =>
      walk_at "go"
      exact q
    | s x =>
      walk_at "go"
      refine ⟨a.r, cR, a.dx, _, _, rfl, hR.hr, R.cl, R.held, rfl, ?_⟩
      refine ⟨a.D, rfl, .inl ⟨_, .inl hR.hD⟩, _, rfl, _, .inl ⟨_, Sum.inr x, .inl hR.hD, rfl, rfl⟩, ?_⟩
      rw [valV_env]
      have e : ((getE s.env x).map V.int).getD (.int 0) = .int (wor s.env (.s x)) := by
        show _ = V.int ((getE s.env x).getD 0)
        cases getE s.env x <;> rfl
      rw [e]
      exact q
theorem ok_cell (T : Tx mg) (R : RunnerC K cR) (D : MetAt K cR "cell" "Runner.cell" s_Runner_cell) : C8.Met P w K mg base 1 cR "cell" (sp_cell cR) [] := by
  refine D.met (k := 0) sc_Runner_cell (fun _ _ _ _ _ _ us hl => match us, hl with | [_, _, _], _ => rfl) (fun vs H Q E h => ?_) (fun f cdv A outer s H vs Q E hr h => ⟨_, (pss_one (ps_ret (pe_ifExp (pt_cmpR op_lt (pv 2) (pe_dget (hu_of hr) (pe_fld (pv 0) rfl) (pv 1) (fun _ _ => rfl)) (nomark _)) (pe_op op_add (pe_dget (hu_of hr) (pe_fld (pv 0) rfl) (pv 1) (fun _ _ => rfl)) (pv 2)) pe_non))), ?_⟩)
  · obtain ⟨Hb, a, ls, s, l, i, rfl, _⟩ := h
    rfl
  · obtain ⟨Hb, a, ls, s, l, i, rfl, hR, hl, hm, hi, q⟩ := h
    walk_at "go"
    refine ⟨a.r, cR, a.dx, _, _, rfl, hR.hr, R.cl, R.many, rfl, ?_⟩
    obtain ⟨d, md, ed, vd⟩ := valV_many ls l hl
    obtain ⟨h1, h2, h3⟩ := hm d md
    rw [ed] at h1
    obtain ⟨p, ep⟩ := firstOf_some ls 0 l hl
    refine ⟨_, rfl, _, _, rfl, .inl ⟨_, Sum.inr l, .inl hR.hM, rfl, vd.symm⟩, ?_⟩
    refine ⟨_, _, rfl, rfl, _, rfl, ite_b (fun c => ?_) (fun c => ?_)⟩
    · have c := of_decide_eq_true c
      rw [if_pos (by omega)] at q
      refine ⟨_, rfl, a.r, cR, a.dx, _, _, rfl, hR.hr, R.cl, R.begins, rfl, ?_⟩
      refine ⟨_, rfl, _, _, rfl, .inl ⟨_, Sum.inr l, .inl hR.hG, rfl, (by rw [valV_beg, ep]; rfl)⟩, ?_⟩
      refine ⟨_, rfl, _, _, rfl, rfl, ?_⟩
      have e : optV (plc ls (some (l, i.toNat))) = .int (p + i) := by
        show optV ((firstOf ls 0 l).map (· + (i.toNat : Int))) = _
        rw [ep, Int.toNat_of_nonneg hi]
        rfl
      rw [e] at q
      exact q
    · have c := of_decide_eq_false c
      rw [if_neg (by omega)] at q
      exact q
theorem ok_push (T : Tx mg) (R : RunnerC K cR) (D : MetAt K cR "push" "Runner.push" s_Runner_push) : C8.Met P w K mg base 1 cR "push" (sp_push cR) [] := by
  refine D.met (k := 0) sc_Runner_push (fun _ _ _ _ _ _ us hl => match us, hl with | [_, _], _ => rfl) (fun vs H Q E h => ?_) (fun f cdv A outer s H vs Q E hr h => ⟨_, (pss_one (ps_expr (pe_bm PySem.F.plainAttrs_list PySem.F.slot_list_extend PySem.F.type_list_extend mt_extend (pe_fld (pv 0) rfl) (pa_cons (pe_revL (pe_callTy call_list_of (by rfl) T.list_ (by decide +kernel) (pa_cons (pv 1) pa_nil))) pa_nil)))), ?_⟩)
  · obtain ⟨Hb, a, ls, s, rs, v, rfl, _⟩ := h
    rfl
  · obtain ⟨Hb, a, ls, s, rs, v, rfl, hR, hn, hl, hk, q⟩ := h
    obtain ⟨p, ws, rfl, hp, hw⟩ := nodesAt_iff.mp hn
    refine ⟨_, rfl, a.r, cR, a.dx, _, _, rfl, hR.hr, R.cl, R.waiting, rfl, ?_⟩
    obtain ⟨xs0, h01, h02⟩ := hR.hW
    refine ⟨.inl ⟨rfl, _, SqL.of h01⟩, ?_⟩
    refine ⟨_, rfl, _, _, rfl, Or.inr (SqT.of hp), fun p1 n1 => ?_⟩
    refine ⟨_, _, rfl, SqL.of upd_same, fun p2 n2 => ?_⟩
    have hR1 := hR.nw (o := .lst ws) n1
    have hR2 := hR1.nw (o := .lst ws.reverse) n2
    have t2 : TS H (upd (upd H p1 (.lst ws)) p2 (.lst ws.reverse)) := ts_nw (ts_nw (TS.refl _) n1) n2
    obtain ⟨xs, h1, h2⟩ := hR2.hW
    have lx : xs.length = s.stk.length := by rw [← Paired.length h2, List.length_reverse]
    have lw : ws.length = rs.len := by rw [← Paired.length hw.pair, Rows.list_len]
    refine ⟨_, _, _, _, rfl, rfl, h1, upd_same, sm_sz (by rw [List.length_reverse]; omega), ?_⟩
    obtain ⟨z1, z2⟩ := hR2.setW (st := rs.list ++ s.stk) (xs := xs ++ ws.reverse) (by rw [List.reverse_append]; exact paired_app h2 (Paired.rev (Paired.mapP hw.pair fun _ _ q => q.ts t2)))
    exact q _ (t2.trans z2) z1
theorem ok_next_one (T : Tx mg) (R : RunnerC K cR) (D : MetAt K cR "next_one" "Runner.next_one" s_Runner_next_one) : C8.Met P w K mg base 1 cR "next_one" (sp_next_one cR) [] := by
  refine D.met (k := 0) sc_Runner_next_one (fun _ _ _ _ _ _ us hl => match us, hl with | [_], _ => rfl) (fun vs H Q E h => ?_) (fun f cdv A outer s H vs Q E hr h => ⟨_, (pss_cons (ps_while PassesOwn.never (pt_cmpR (op_neNilL hr.units) (pe_fld (pv 0) rfl) (pe_lst pa_nil) (nomark _)) (pss_cons (ps_asg (pe_bm0 PySem.F.plainAttrs_list PySem.F.slot_list_pop PySem.F.type_list_pop mt_pop (pe_fld (pv 0) rfl)) (pg_tup rfl (pgs_cons (pg_name (i := 1) sc_Runner_next_one.nd rfl (Or.inl rfl)) (pgs_cons (pg_name (i := 2) sc_Runner_next_one.nd rfl (Or.inl rfl)) (pgs_cons (pg_name (i := 3) sc_Runner_next_one.nd rfl (Or.inl rfl)) pgs_nil)))))
    (pss_one (ps_if (PW.pt (pw_or (pt_cmpR op_ne (pe_ix ix_tup (pv 2) pe_int (fun _ _ => rfl)) pe_str (nomark _)) (pw_or1 (pt_cmpR op_gt (pe_ix ix_tup (pv 2) pe_int (fun _ _ => rfl)) pe_int (nomark _))))) (pss_one (ps_ret (pe_tup (pa_cons (pv 1) (pa_cons (pv 2) (pa_cons (pv 3) pa_nil))))))
    pss_nil))))
    (pss_one (ps_ret pe_non))), ?_⟩)
  · obtain ⟨Hb, a, ls, s, rfl, _⟩ := h
    rfl
  · obtain ⟨Hb, a, ls, s, rfl, hR, hl, hk, q1, q2⟩ := h
    refine ⟨fun m σ H' => ∃ t : List Row, m = t.length ∧ TS H H' ∧ RunAt cR Hb H' a ls { s with stk := t } ∧ due t = due s.stk ∧ ∃ o1 o2 o3, σ = [some (.ref a.r), o1, o2, o3], ⟨_, s.stk, rfl, TS.refl _, hR, rfl, _, _, _, rfl⟩, ?_⟩
    rintro m σ H1 ⟨t, rfl, t1, hR1, ed, o1, o2, o3, rfl⟩
    refine ⟨_, rfl, a.r, cR, a.dx, _, _, rfl, hR1.hr, R.cl, R.waiting, rfl, ?_⟩
    refine ⟨sm_sz (Nat.zero_le _), fun p1 n1 => ?_⟩
    have hR2 := hR1.nw (o := .lst []) n1
    have t2 : TS H1 (upd H1 p1 (.lst [])) := ts_nw (TS.refl _) n1
    obtain ⟨xs, h1, h2⟩ := hR2.hW
    refine ⟨_, _, _, rfl, rfl, h1, upd_same, _, rfl, ?_⟩
    cases t with
    | nil =>
      cases h2
      walk_at "go"
      exact q1 ed.symm _ (t1.trans t2) hR2
    | cons r t =>
      have h2 : Paired (NodeAt _) (r :: t).reverse xs := h2
      rw [List.reverse_cons] at h2
      obtain ⟨xs, v, rfl, h3, h4⟩ := Paired.snoc h2
      have hR3 : RunAt cR Hb _ a ls _ ∧ _ := hR2.setW (st := t) (xs := xs) h3
      obtain ⟨hR3, t3⟩ := hR3
      have t4 := t1.trans (t2.trans t3)
      have h4 := h4.ts t3
      obtain ⟨pv, i, vr, pp, ps, rfl, hv, hrow, hpp, hps⟩ := nodeAt_iff.mp h4
      have el : (xs ++ [V.ref pv])[(xs ++ [V.ref pv]).length - 1]? = some (V.ref pv) := by simp
      have ed2 : (xs ++ [V.ref pv]).dropLast = xs := List.dropLast_concat
      refine iteB (by simp) ?_
      refine ⟨fun σ' H' => TS H H' ∧ RunAt cR Hb H' a ls { s with stk := t } ∧ due t = due s.stk ∧ ∃ o1 o2 o3, σ' = [some (.ref a.r), o1, o2, o3], fun σ' H' z => ⟨t.length, Nat.lt_succ_self _, t, rfl, z⟩, ?_⟩
      refine ⟨_, rfl, a.r, cR, a.dx, _, _, rfl, hR2.hr, R.cl, R.waiting, rfl, ?_⟩
      refine ⟨.inl ⟨rfl, _, SqL.of h1⟩, ?_⟩
      refine ⟨_, _, _, rfl, rfl, h1, el, ?_⟩
      rw [ed2]
      obtain ⟨pr, rest, rfl, hw⟩ := hrow.word
      walk_at "go"
      have fin : ∀ p2 H4, due (r :: t) = some (r, t) → H4 = upd (upd H1 p1 (.lst [])) a.W (.lst xs) → H4 p2 = none → Q (.ref p2) (upd H4 p2 (.tup [.int i, .ref pr, .ref pp])) := fun p2 H4 eq eH n2 => by
        subst eH
        have t5 := ts_nw (o := .tup [.int i, .ref pr, .ref pp]) (TS.refl _) n2
        exact q2 r t (ed ▸ eq) _ _ (t4.trans t5) (hR3.nw n2) (nodeAt_iff.mpr ⟨p2, i, .ref pr, pp, ps, rfl, upd_same, hrow.ts t5, t5 _ _ hpp, hps.ts t5⟩)
      by_cases hwl : ∃ a n b, r = .whl a n b
      · obtain ⟨o, n, b, rfl⟩ := hwl
        obtain ⟨_, pb, bs, er, hw, _⟩ := hrow
        cases er
        walk_at "go"
        refine ite_b (fun c => ?_) (fun c => ?_)
        · have c := of_decide_eq_true c
          walk_at "go"
          exact fin _ _ (if_pos c) rfl (by assumption)
        · have c := of_decide_eq_false c
          walk_at "go"
          exact ⟨(due_skip c).symm.trans ed, _, _, _, rfl⟩
      · refine ⟨_, _, _, _, rfl, rfl, SqT.of hw, atI0, ?_⟩
        walk_at "go"
        refine iteB (by rw [decide_eq_false fun z => word_ne hwl (V.str.inj z)]; rfl) ?_
        walk_at "go"
        exact fin _ _ (due_take fun a n b z => absurd ⟨a, n, b, z⟩ hwl) rfl (by assumption)
end
end NW
/-! ## Walks: where a runner begins -/
namespace NW
open PySem PySem.Spec PyProof.Rows L2
set_option pp.maxSteps 150
-- an object's place in a heap
local macro_rules | `(tactic| walk_at "hp") => `(tactic| (show _ = some _; first
  | assumption
  | exact upd_same
  | (refine' upd_get ?n ?h; (case n => assumption); (case h => walk_at "hp"))
  | (refine' same_get ?n ?h; (case n => assumption); (case h => walk_at "hp"))))
-- a heap that has grown
local macro_rules | `(tactic| walk_at "sm") => `(tactic| first
  | assumption
  | exact Same.refl _
  | (refine' same_nw ?n ?h; (case h => assumption); (case n => walk_at "sm"))
  | (refine' Same.trans ?n ?h; (case h => assumption); (case n => walk_at "sm")))
local macro_rules | `(tactic| walk_at "ty") => `(tactic| first
  | exact TyN.int _
  | exact TyN.str _
  | exact TyN.non
  | (refine' TyN.tup ?h; (case h => walk_at "hp"))
  | (refine' TyN.lst ?h; (case h => walk_at "hp")))
-- a test whose answer is known
local macro_rules | `(tactic| walk_at "if") => `(tactic| first
  | (refine iteB (by decide +kernel) ?_)
  | (refine iteN (by decide +kernel) ?_)
  | (refine iteB (by rfl) ?_)
  | (refine iteN (by rfl) ?_)
  | (refine iteB (decide_eq_true (by first | omega | assumption)) ?_)
  | (refine iteN (decide_eq_false (by first | omega | assumption)) ?_)
  | (refine iteB (by simp only [Bool.not_eq_true', Bool.not_eq_false', Bool.and_eq_true, Bool.and_eq_false_iff, Bool.or_eq_true, Bool.or_eq_false_iff, decide_eq_true_eq, decide_eq_false_iff_not]; omega) ?_)
  | (refine iteN (by simp only [Bool.not_eq_true', Bool.not_eq_false', Bool.and_eq_true, Bool.and_eq_false_iff, Bool.or_eq_true, Bool.or_eq_false_iff, decide_eq_true_eq, decide_eq_false_iff_not]; omega) ?_))
-- one step of a reading
local macro_rules | `(tactic| walk_at "s") => `(tactic| first
  | refine ⟨_, rfl, ?_⟩
  | refine ⟨_, _, rfl, rfl, ?_⟩
  | refine And.intro (show wipe _ _ = wipe _ _ by kernel_rfl) ?_
  | refine And.intro rfl ?_
  | (refine' ⟨_, _, _, _, rfl, rfl, SqT.of ?h, ?e, ?_⟩; (case h => walk_at "hp"); (case e => exact rfl))
  | (refine' ⟨_, _, rfl, ?t, ?_⟩; (case t => walk_at "ty"))
  | (refine' ⟨_, _, rfl, SqT.of ?h, ?e, ?_⟩; (case h => walk_at "hp"); (case e => exact rfl))
  | refine ⟨_, _, rfl, ?_⟩
  | (refine' ⟨_, _, _, rfl, rfl, ?h1, ?h2, ?_⟩; (case h1 => walk_at "hp"); (case h2 => walk_at "hp"))
  | (refine' ⟨_, _, _, _, rfl, rfl, SqL.of ?h, ?e, ?_⟩; (case h => walk_at "hp"); (case e => exact rfl))
  | (refine' ⟨_, _, rfl, Or.inr (SqT.of ?h), ?_⟩; (case h => walk_at "hp"))
  | (refine' ⟨_, _, rfl, Or.inr (SqT.of ?h), rfl, rfl, ?_⟩; (case h => walk_at "hp"))
  | (refine' ⟨_, _, rfl, Or.inl (SqL.of ?h), ?_⟩; (case h => walk_at "hp"))
  | refine And.intro (flat_strs _) ?_
  | (refine And.intro (sm_sz (Nat.le_of_ble_eq_true rfl)) ?_; intro p np)
  | walk_at "if"
  | (refine' And.intro ?a ?_; (case a => first | assumption | exact sm_sz (by omega) | omega | exact Or.inr ⟨by omega, by omega⟩ | exact Or.inl ⟨by omega, by omega⟩ | exact ⟨by omega, by omega⟩))
  | refine Or.inl ⟨_, _, _, rfl, ?_⟩
  | refine Or.inr ⟨_, _, _, rfl, ?_⟩
  | (intro Hn sn))
local macro_rules | `(tactic| walk_at "go") => `(tactic| repeat (walk_at "s"))

abbrev s_cell_begins : Stmt := topS 40
abbrev N_cell_begins : List Str := ["program", "found", "first", "name", "sort", "many", "worths", "empty"]
abbrev P_cell_begins : List Str := ["program"]
theorem sc_cell_begins : FnScope N_cell_begins P_cell_begins (defScope s_cell_begins) := ⟨rfl, rfl, rfl, by decide +kernel, rfl, by decide +kernel, by decide +kernel⟩

abbrev s_placed : Stmt := topS 41
abbrev N_placed : List Str := ["rows", "first", "row", "found", "place", "part", "at", "parts"]
abbrev P_placed : List Str := ["rows", "first"]
theorem sc_placed : FnScope N_placed P_placed (defScope s_placed) := ⟨rfl, rfl, rfl, by decide +kernel, rfl, by decide +kernel, by decide +kernel⟩

section
variable {P : Program} {w : World} {K : PySem.W.Frag} {mg : Str → Option Value} {base : Heap} {cR : Addr}
theorem begK_take : ∀ (ls : List LD) (f : Int) (i : Nat) (d : LD), ls[i]? = some d → ∃ g, begK (ls.take (i + 1)) f = begK (ls.take i) f ++ [((Sum.inr d.nm : Key), V.int (g + d.em))] ∧ g = (ls.take i).foldl (fun f d => f + (d.em + d.cells)) f
  | [], _, _, _, h => by cases h
  | d :: r, f, 0, d', h => by
    cases h
    exact ⟨f, rfl, rfl⟩
  | d :: r, f, i + 1, d', h => by
    obtain ⟨g, e, eg⟩ := begK_take r (f + d.em + d.cells) i d' h
    refine ⟨g, ?_, ?_⟩
    · show ((Sum.inr d.nm : Key), V.int (f + d.em)) :: begK (r.take (i + 1)) (f + d.em + d.cells) = (((Sum.inr d.nm : Key), V.int (f + d.em)) :: begK (r.take i) (f + d.em + d.cells)) ++ [_]
      rw [e]
      rfl
    · rw [eg]
      show _ = (r.take i).foldl _ (f + (d.em + d.cells))
      rw [Int.add_assoc]
theorem begK_nk : ∀ (ls : List LD) (f : Int) (l : Str), l ∉ ls.map LD.nm → valV (begK ls f) (Sum.inr l) = none
  | [], _, _, _ => rfl
  | d :: r, f, l, h => by
    show valV (((Sum.inr d.nm : Key), V.int (f + d.em)) :: begK r (f + d.em + d.cells)) (Sum.inr l) = none
    rw [valV_neg (fun e => h (by rw [← Sum.inr.inj e]; exact List.mem_cons_self))]
    exact begK_nk r _ l fun m => h (List.mem_cons_of_mem _ m)
theorem nd_take {ls : List LD} {i : Nat} {d : LD} (nd : (ls.map LD.nm).Nodup) (e : ls[i]? = some d) : d.nm ∉ (ls.take i).map LD.nm := by
  intro m
  obtain ⟨hi, ed⟩ := List.getElem?_eq_some_iff.mp e
  obtain ⟨j, hj, e2⟩ := List.mem_iff_getElem.mp m
  rw [List.length_map, List.length_take] at hj
  rw [List.getElem_map, List.getElem_take] at e2
  have h0 : j < (ls.map LD.nm).length := by
    rw [List.length_map]
    omega
  have h1 : i < (ls.map LD.nm).length := by
    rw [List.length_map]
    exact hi
  have := (List.getElem_inj nd).mp (show (ls.map LD.nm)[j] = (ls.map LD.nm)[i] by rw [List.getElem_map, List.getElem_map, e2, ed])
  omega
theorem begK_len : ∀ (ls : List LD) (f : Int), (begK ls f).length = ls.length
  | [], _ => rfl
  | d :: r, f => congrArg (· + 1) (begK_len r _)
theorem ok_cell_begins (T : Tx mg) (D : DefAt K mg "cell_begins" s_cell_begins) : C8.Cal P w K mg base 1 "cell_begins" sp_cell_begins [] := by
  refine D.cal (k := 0) sc_cell_begins (fun _ _ _ _ _ _ us hl => match us, hl with | [_], _ => rfl) (fun vs H Q E h => ?_) (fun f cdv A outer s H vs Q E hr h => ⟨_, (pss_cons (ps_par (i := 1) (j := 2) rfl sc_cell_begins.nd rfl rfl (by decide) rfl rfl (pa_cons pe_dnewK (pa_cons pe_int pa_nil)) (by rfl))
    (pss_cons (ps_for PassesOwn.never rfl (pi_tup (pe_ix ix_tup (pv 0) pe_int (fun _ _ => rfl))) (pg_tup rfl (pgs_cons (pg_name (i := 3) sc_cell_begins.nd rfl (Or.inl rfl)) (pgs_cons (pg_name (i := 4) sc_cell_begins.nd rfl (Or.inl rfl)) (pgs_cons (pg_name (i := 5) sc_cell_begins.nd rfl (Or.inl rfl)) (pgs_cons (pg_name (i := 6) sc_cell_begins.nd rfl (Or.inl rfl)) (pgs_cons (pg_name (i := 7) sc_cell_begins.nd rfl (Or.inl rfl)) pgs_nil))))))
    (pss_cons (ps_dput (hu_of hr) (pv 1) (pv 3) (pe_op op_add (pv 2) (pv 7)) rfl)
    (pss_one (ps_aug (i := 2) sc_cell_begins.nd rfl (Or.inl rfl) (pe_op op_add (pv 7) (pv 5)) ip_add))))
    (pss_one (ps_ret (pv 1))))), ?_⟩)
  · obtain ⟨p, v, rfl, _⟩ := h
    rfl
  · obtain ⟨p, v, rfl, ⟨a, ah, al, ar, at_, hs, ls, rs, rfl, h0, h1, h2, h3, h4, h5, h6, h7⟩, hL, q⟩ := h
    refine fun F nF => ?_
    walk_at "go"
    refine ⟨⟨_, SqT.of (upd_get nF h3)⟩, ?_⟩
    refine for_it h4.walk (fun i σ H' => Same H H' ∧ H' F = some (.dK (begK (p.lists.take i) 0)) ∧ ∃ o3 o4 o5 o6 o7, σ = [some (.ref a), some (.ref F), some (.int ((p.lists.take i).foldl (fun f d => f + (d.em + d.cells)) 0)), o3, o4, o5, o6, o7]) ⟨same_nw (Same.refl _) nF, upd_same, _, _, _, _, _, rfl⟩ (fun i σ H' _ z => SqT.of (z.1 _ _ h3)) ?_ ?_
    · rintro i x σ H2 H3 hi ⟨s2, hF, o3, o4, o5, o6, o7, rfl⟩ ⟨rfl, e⟩
      obtain ⟨d, pd, ed, rfl, hd⟩ := TupsL.at (h4.ts (same_ts s2)) e
      have hd : H3 pd = some (.tup [.str d.nm, .str d.so, .int d.cells, .int d.wo, .int d.em]) := hd
      obtain ⟨g, eg, egg⟩ := begK_take p.lists 0 i d ed
      walk_at "go"
      refine ⟨F, _, rfl, .inl ⟨_, Sum.inr d.nm, hF, rfl, sm_lt (by rw [begK_len, List.length_take]; have := hL.len; omega), rfl⟩, ?_⟩
      walk_at "go"
      refine ⟨same_mut s2 nF, ?_, _, _, _, _, _, by rw [foldl_take ed]; rfl⟩
      rw [upd_same, eg, putK_new _ (begK_nk _ _ _ (nd_take hL.nd ed)), egg]
    · rintro σ H2 ⟨s2, hF, o3, o4, o5, o6, o7, rfl⟩
      rw [List.take_length] at hF
      walk_at "go"
      exact q _ _ s2 nF hF
theorem PartsN.of {H : Hp} {r : Row} {us : List V} (h : Paired (NodesAt H) r.parts us) : PartsN H r us := by
  cases r with
  | ite a t e =>
    cases h with
    | cons h1 h => cases h with
      | cons h2 h => cases h with
        | nil => exact ⟨_, _, rfl, h1, h2⟩
  | whl a n b =>
    cases h with
    | cons h1 h => cases h with
      | nil => exact ⟨_, rfl, h1⟩
  | _ =>
    cases h
    rfl
theorem Paired.take_snoc {α β : Type} {F : α → β → Prop} {xs : List α} {i : Nat} {x : α} {us : List β} {v : β} (h : Paired F (xs.take i) us) (e : xs[i]? = some x) (q : F x v) : Paired F (xs.take (i + 1)) (us ++ [v]) := by
  obtain ⟨hi, ex⟩ := List.getElem?_eq_some_iff.mp e
  rw [List.take_succ_eq_append_getElem hi, ex]
  exact paired_app h (.cons q .nil)
theorem ok_placed {m : Nat} (T : Tx mg) (D : DefAt K mg "placed" s_placed) (c_parts_of : C8.Cal P w K mg base 1 "parts_of" sp_parts_of []) (c_many_rows : C8.Cal P w K mg base (2 + m) "many_rows" (sp_many_rows m) []) (c_placed : C8.Cal P w K mg base (3 + m) "placed" (sp_placed m) []) :
    C8.Cal P w K mg base (3 + (m + 1)) "placed" (sp_placed (m + 1)) [] := by
  refine Cal.mono (j := 3 + (m + 1)) (D.cal (k := 3 + m) sc_placed (fun _ _ _ _ _ _ us hl => match us, hl with | [_, _], _ => rfl) (fun vs H Q E h => ?_) (fun f cdv A outer s H vs Q E hr h => ⟨_, (pss_cons (ps_par (i := 3) (j := 4) rfl sc_placed.nd rfl rfl (by decide) rfl rfl (pa_cons (pe_lst pa_nil) (pa_cons (pv 1) pa_nil)) (by rfl))
    (pss_cons (ps_for PassesOwn.never rfl (pi_tup (pv 0)) (pg_name (i := 2) sc_placed.nd rfl (Or.inl rfl))
    (pss_cons (ps_par (i := 6) (j := 7) rfl sc_placed.nd rfl rfl (by decide) rfl rfl (pa_cons (pv 4) (pa_cons (pe_lst pa_nil) pa_nil)) (by rfl))
    (pss_cons (ps_aug (i := 4) sc_placed.nd rfl (Or.inl rfl) pe_int ip_add)
    (pss_cons (ps_for PassesOwn.never rfl (pi_tup (C8.pe_c c_parts_of hr (by omega) (by rfl) (pa_cons (pv 2) pa_nil))) (pg_name (i := 5) sc_placed.nd rfl (Or.inl rfl))
    (pss_cons (ps_expr (pe_bm PySem.F.plainAttrs_list PySem.F.slot_list_append PySem.F.type_list_append mt_append (pv 7) (pa_cons (C8.pe_c c_placed hr (by omega) (by rfl) (pa_cons (pv 5) (pa_cons (pv 4) pa_nil))) pa_nil)))
    (pss_one (ps_aug (i := 4) sc_placed.nd rfl (Or.inl rfl) (C8.pe_c c_many_rows hr (by omega) (by rfl) (pa_cons (pv 5) pa_nil)) ip_add))))
    (pss_one (ps_expr (pe_bm PySem.F.plainAttrs_list PySem.F.slot_list_append PySem.F.type_list_append mt_append (pv 3) (pa_cons (pe_tup (pa_cons (pv 6) (pa_cons (pv 2) (pa_cons (pe_callTy call_tuple_of (by rfl) T.tuple_ (by decide +kernel) (pa_cons (pv 7) pa_nil)) pa_nil)))) pa_nil))))))))
    (pss_one (ps_ret (pe_callTy call_tuple_of (by rfl) T.tuple_ (by decide +kernel) (pa_cons (pv 3) pa_nil)))))), ?_⟩)) (by omega)
  · obtain ⟨rows, v, f, ls, rfl, _⟩ := h
    rfl
  · obtain ⟨rows, v, f0, ls, rfl, _, ⟨p, ws, rfl, hp, hw⟩, ho, hl, q⟩ := h
    have hlen : rows.list.length = ws.length := by rw [hw.len, Rows.list_len]
    have wk : Walk (Itt K p) rows.list.length (fun H => SqT K H p ws) (YAt ws) := by
      rw [hlen]
      exact walk_tup
    walk_at "go"
    rename_i F nF
    refine ⟨⟨_, SqT.of (upd_get nF hp)⟩, ?_⟩
    refine for_it wk (fun i σ H' => Same H H' ∧ (∃ us, H' F = some (.lst us) ∧ Paired (NodeAt H') (rows.list.take i) us) ∧ ∃ k o2 o5 o6 o7, σ = [some (.ref p), some (.int f0), o2, some (.ref F), some (.int k), o5, o6, o7]) ⟨same_nw (Same.refl _) nF, ⟨[], upd_same, .nil⟩, _, _, _, _, _, rfl⟩ (fun i σ H' _ z => SqT.of (z.1 _ _ hp)) ?_ ?_
    · rintro i x σ H2 H3 hi ⟨s2, ⟨us, hF, hus⟩, k, o2, o5, o6, o7, rfl⟩ ⟨rfl, e⟩
      obtain ⟨r, er, hr'⟩ := (hw.ts (same_ts s2)).at e
      have okr := ho.at er
      walk_at "go"
      rename_i L nL
      refine ⟨r, x, rfl, hr'.ts (ts_nw (TS.refl _) nL), fun H4 p4 ws4 s4 hp4 pp => ?_⟩
      refine ⟨_, rfl, ⟨_, SqT.of hp4⟩, ?_⟩
      have wk2 : Walk (Itt K p4) r.parts.length (fun H => SqT K H p4 ws4) (YAt ws4) := by
        rw [Paired.length pp]
        exact walk_tup
      have s34 : Same H3 H4 := (same_nw (Same.refl _) nL).trans s4
      have s4 : Same (upd H3 L (.lst [])) H4 := s4
      refine for_it wk2 (fun j σ H' => Same H3 H' ∧ H' p4 = some (.tup ws4) ∧ Paired (RowsAt H') r.parts ws4 ∧ (∃ us, H' L = some (.lst us) ∧ Paired (NodesAt H') (r.parts.take j) us) ∧ ∃ k2 o5, σ = [some (.ref p), some (.int f0), some x, some (.ref F), some (.int k2), o5, some (.int k), some (.ref L)]) ⟨s34, hp4, pp, ⟨[], s4 _ _ upd_same, .nil⟩, _, _, rfl⟩ (fun i σ H' _ z => SqT.of z.2.1) ?_ ?_
      · rintro j x2 σ H5 H6 hj ⟨s5, hp5, pp5, ⟨us2, hL2, hus2⟩, k2, o5, rfl⟩ ⟨rfl, e2⟩
        obtain ⟨rs', er2, hrs⟩ := Paired.at pp5 e2
        obtain ⟨m0, op, lp⟩ := okRow.parts okr (List.mem_of_getElem? er2)
        obtain ⟨pb, wb, rfl, hpb, hwb⟩ := id hrs
        refine ⟨_, rfl, .inl ⟨rfl, _, SqL.of hL2⟩, ?_⟩
        refine ⟨_, rfl, _, rfl, rs', _, k2, ls, rfl, m0, hrs, op, by omega, fun H7 v7 s7 hn7 => ?_⟩
        have ln : us2.length ≤ 2 := by
          rw [← Paired.length hus2]
          have : r.parts.length ≤ 2 := by cases r <;> simp [Row.parts]
          rw [List.length_take]
          omega
        refine ⟨_, _, _, rfl, rfl, s7 _ _ hL2, sm_lt (by omega), ?_⟩
        have t8 : TS H7 (upd H7 L (.lst (us2 ++ [v7]))) := ts_mut (TS.refl _) (s7 _ _ hL2) (fun _ z => nomatch z)
        have s8 : Same H3 (upd H7 L (.lst (us2 ++ [v7]))) := same_mut (s5.trans s7) nL
        have t78 := (same_ts s7).trans t8
        refine ⟨_, rfl, _, rfl, rs', pb, wb, ls, rfl, m0, t78 _ _ hpb, hwb.ts t78, op, by omega, fun H9 s9 => ?_⟩
        walk_at "go"
        have t79 := t78.trans (same_ts s9)
        exact ⟨s8.trans s9, t79 _ _ hp5, Paired.mapP pp5 fun _ _ z => z.ts t79, ⟨_, s9 _ _ upd_same, Paired.take_snoc (Paired.mapP hus2 fun _ _ z => z.ts t79) er2 (hn7.ts (t8.trans (same_ts s9)))⟩, _, _, rfl⟩
      · rintro σ H5 ⟨s5, hp5, pp5, ⟨us2, hL2, hus2⟩, k2, o5, rfl⟩
        rw [List.take_length] at hus2
        have lu : us.length ≤ 5 := by
          rw [← Paired.length hus, List.length_take, Rows.list_len]
          omega
        have hF5 := s5 _ _ hF
        refine ⟨_, rfl, .inl ⟨rfl, _, SqL.of hF5⟩, ?_⟩
        refine ⟨_, rfl, _, rfl, _, rfl, _, us2, rfl, .inl ⟨SqL.of hL2, fun l nl => ?_⟩⟩
        walk_at "go"
        rename_i N nN
        have tl := ts_nw (o := .tup us2) (TS.refl _) nl
        have tN := ts_nw (o := .tup [.int k, x, .ref l]) (TS.refl _) nN
        have hF7 := upd_get (o := .tup [.int k, x, .ref l]) nN (upd_get (o := .tup us2) nl hF5)
        refine ⟨_, _, _, rfl, rfl, hF7, sm_lt (by omega), ?_⟩
        have tF := ts_mut (u := .lst us) (o := .lst (us ++ [.ref N])) (TS.refl _) hF7 (fun _ z => nomatch z)
        have t5 := same_ts s5
        have tlN := tl.trans (tN.trans tF)
        have t5l := t5.trans tlN
        exact ⟨same_mut (s2.trans (same_nw (same_nw s5 nl) nN)) nF, ⟨_, upd_same, Paired.take_snoc (Paired.mapP hus fun _ _ z => z.ts t5l) er (nodeAt_iff.mpr ⟨N, k, x, l, us2, rfl, tF _ _ upd_same, hr'.ts t5l, (tN.trans tF) _ _ upd_same, PartsN.of (Paired.mapP hus2 fun _ _ z => z.ts tlN)⟩)⟩, _, _, _, _, _, rfl⟩
    · rintro σ H2 ⟨s2, ⟨us, hF, hus⟩, k, o2, o5, o6, o7, rfl⟩
      rw [List.take_length] at hus
      walk_at "go"
      refine ⟨_, us, rfl, .inl ⟨SqL.of hF, fun l nl => ?_⟩⟩
      have t9 := ts_nw (o := .tup us) (TS.refl _) nl
      exact q _ _ (same_nw s2 nl) (nodesAt_iff.mpr ⟨l, us, rfl, upd_same, NodesL.of (Paired.mapP hus fun _ _ z => z.ts t9)⟩)
end
end NW
/-! ## Walks: the law's interpreter, its smaller defs -/
namespace NW
open PySem PySem.Spec PyProof.Rows L2
set_option pp.maxSteps 150
-- an object's place in a heap
local macro_rules | `(tactic| walk_at "hp") => `(tactic| (show _ = some _; first
  | assumption
  | exact upd_same
  | (refine' upd_get ?n ?h; (case n => assumption); (case h => walk_at "hp"))
  | (refine' same_get ?n ?h; (case n => assumption); (case h => walk_at "hp"))))
-- a heap that has grown
local macro_rules | `(tactic| walk_at "sm") => `(tactic| first
  | assumption
  | exact Same.refl _
  | (refine' same_nw ?n ?h; (case h => assumption); (case n => walk_at "sm"))
  | (refine' Same.trans ?n ?h; (case h => assumption); (case n => walk_at "sm")))
local macro_rules | `(tactic| walk_at "ty") => `(tactic| first
  | exact TyN.int _
  | exact TyN.str _
  | exact TyN.non
  | (refine' TyN.tup ?h; (case h => walk_at "hp"))
  | (refine' TyN.lst ?h; (case h => walk_at "hp")))
-- a test whose answer is known
local macro_rules | `(tactic| walk_at "if") => `(tactic| first
  | (refine iteB (by decide +kernel) ?_)
  | (refine iteN (by decide +kernel) ?_)
  | (refine iteB (by rfl) ?_)
  | (refine iteN (by rfl) ?_)
  | (refine iteB (decide_eq_true (by first | omega | assumption)) ?_)
  | (refine iteN (decide_eq_false (by first | omega | assumption)) ?_)
  | (refine iteB (by simp only [Bool.not_eq_true', Bool.not_eq_false', Bool.and_eq_true, Bool.and_eq_false_iff, Bool.or_eq_true, Bool.or_eq_false_iff, decide_eq_true_eq, decide_eq_false_iff_not]; omega) ?_)
  | (refine iteN (by simp only [Bool.not_eq_true', Bool.not_eq_false', Bool.and_eq_true, Bool.and_eq_false_iff, Bool.or_eq_true, Bool.or_eq_false_iff, decide_eq_true_eq, decide_eq_false_iff_not]; omega) ?_))
-- one step of a reading
local macro_rules | `(tactic| walk_at "s") => `(tactic| first
  | refine ⟨_, rfl, ?_⟩
  | refine ⟨_, _, rfl, rfl, ?_⟩
  | refine And.intro (show wipe _ _ = wipe _ _ by kernel_rfl) ?_
  | refine And.intro rfl ?_
  | (refine' ⟨_, _, _, _, rfl, rfl, SqT.of ?h, ?e, ?_⟩; (case h => walk_at "hp"); (case e => exact rfl))
  | (refine' ⟨_, _, rfl, ?t, ?_⟩; (case t => walk_at "ty"))
  | (refine' ⟨_, _, rfl, SqT.of ?h, ?e, ?_⟩; (case h => walk_at "hp"); (case e => exact rfl))
  | refine ⟨_, _, rfl, ?_⟩
  | (refine' ⟨_, _, _, rfl, rfl, ?h1, ?h2, ?_⟩; (case h1 => walk_at "hp"); (case h2 => walk_at "hp"))
  | (refine' ⟨_, _, _, _, rfl, rfl, SqL.of ?h, ?e, ?_⟩; (case h => walk_at "hp"); (case e => exact rfl))
  | (refine' ⟨_, _, rfl, Or.inr (SqT.of ?h), ?_⟩; (case h => walk_at "hp"))
  | (refine' ⟨_, _, rfl, Or.inr (SqT.of ?h), rfl, rfl, ?_⟩; (case h => walk_at "hp"))
  | (refine' ⟨_, _, rfl, Or.inl (SqL.of ?h), ?_⟩; (case h => walk_at "hp"))
  | refine And.intro (flat_strs _) ?_
  | (refine And.intro (sm_sz (Nat.le_of_ble_eq_true rfl)) ?_; intro p np)
  | walk_at "if"
  | (refine' And.intro ?a ?_; (case a => first | assumption | exact sm_sz (by omega) | omega | exact Or.inr ⟨by omega, by omega⟩ | exact Or.inl ⟨by omega, by omega⟩ | exact ⟨by omega, by omega⟩))
  | refine Or.inl ⟨_, _, _, rfl, ?_⟩
  | refine Or.inr ⟨_, _, _, rfl, ?_⟩
  | (intro Hn sn))
local macro_rules | `(tactic| walk_at "go") => `(tactic| repeat (walk_at "s"))

abbrev s__law_many : Stmt := topS 91
abbrev N__law_many : List Str := ["_law_rows_here", "_law_found", "_law_row_here"]
abbrev P__law_many : List Str := ["_law_rows_here"]
theorem sc__law_many : FnScope N__law_many P__law_many (defScope s__law_many) := ⟨rfl, rfl, rfl, by decide +kernel, rfl, by decide +kernel, by decide +kernel⟩

abbrev s__law_todo : Stmt := topS 92
abbrev N__law_todo : List Str := ["_law_rows_here", "_law_first", "_law_row_here", "_law_found", "_law_place"]
abbrev P__law_todo : List Str := ["_law_rows_here", "_law_first"]
theorem sc__law_todo : FnScope N__law_todo P__law_todo (defScope s__law_todo) := ⟨rfl, rfl, rfl, by decide +kernel, rfl, by decide +kernel, by decide +kernel⟩

abbrev s__law_worth : Stmt := topS 94
abbrev N__law_worth : List Str := ["_law_amid", "_law_operand_here"]
abbrev P__law_worth : List Str := ["_law_amid", "_law_operand_here"]
theorem sc__law_worth : FnScope N__law_worth P__law_worth (defScope s__law_worth) := ⟨rfl, rfl, rfl, by decide +kernel, rfl, by decide +kernel, by decide +kernel⟩

abbrev s__law_due : Stmt := topS 95
abbrev N__law_due : List Str := ["_law_amid", "_law_here"]
abbrev P__law_due : List Str := ["_law_amid"]
theorem sc__law_due : FnScope N__law_due P__law_due (defScope s__law_due) := ⟨rfl, rfl, rfl, by decide +kernel, rfl, by decide +kernel, by decide +kernel⟩

abbrev s__law_deed : Stmt := topS 98
abbrev N__law_deed : List Str := ["_law_word", "_law_one", "_law_other"]
abbrev P__law_deed : List Str := ["_law_word", "_law_one", "_law_other"]
theorem sc__law_deed : FnScope N__law_deed P__law_deed (defScope s__law_deed) := ⟨rfl, rfl, rfl, by decide +kernel, rfl, by decide +kernel, by decide +kernel⟩

theorem word_if {r : Row} (h : ¬ ∃ a t e, r = .ite a t e) : r.word ≠ "if" := by
  cases r with
  | ite a t e => exact absurd ⟨a, t, e, rfl⟩ h
  | set => exact (show ("set" : Str) ≠ "if" by decide +kernel)
  | get => exact (show ("get" : Str) ≠ "if" by decide +kernel)
  | put => exact (show ("put" : Str) ≠ "if" by decide +kernel)
  | pick => exact (show ("pick" : Str) ≠ "if" by decide +kernel)
  | lt => exact (show ("let" : Str) ≠ "if" by decide +kernel)
  | whl => exact (show ("while" : Str) ≠ "if" by decide +kernel)
theorem take_snocR {α : Type} {xs : List α} {i : Nat} {x : α} (e : xs[i]? = some x) : xs.take (i + 1) = xs.take i ++ [x] := by
  obtain ⟨hi, ex⟩ := List.getElem?_eq_some_iff.mp e
  rw [List.take_succ_eq_append_getElem hi, ex]
section
variable {P : Program} {w : World} {K : PySem.W.Frag} {mg : Str → Option Value} {base : Heap}
theorem ok_law_many {m : Nat} (T : Tx mg) (D : DefAt K mg "_law_many" s__law_many) (c__law_many : C8.Cal P w K mg base (1 + m) "_law_many" (sp_law_many m) []) : C8.Cal P w K mg base (1 + (m + 1)) "_law_many" (sp_law_many (m + 1)) [] := by
  refine Cal.mono (j := 1 + (m + 1)) (D.cal (k := 1 + m) sc__law_many (fun _ _ _ _ _ _ us hl => match us, hl with | [_], _ => rfl) (fun vs H Q E h => ?_) (fun f cdv A outer s H vs Q E hr h => ⟨_, (pss_cons (ps_set (i := 1) sc__law_many.nd rfl (Or.inl rfl) pe_int)
    (pss_cons (ps_for PassesOwn.never rfl (pi_tup (pv 0)) (pg_name (i := 2) sc__law_many.nd rfl (Or.inl rfl))
    (pss_cons (ps_set (i := 1) sc__law_many.nd rfl (Or.inl rfl) (pe_op op_add (pv 1) pe_int))
    (pss_one (ps_if (pt_cmpR op_eq (pe_ix ix_tup (pv 2) pe_int (fun _ _ => rfl)) pe_str (nomark _)) (pss_one (ps_set (i := 1) sc__law_many.nd rfl (Or.inl rfl) (pe_op op_add (pe_op op_add (pv 1) (C8.pe_c c__law_many hr (by omega) (by rfl) (pa_cons (pe_ix ix_tup (pv 2) pe_int (fun _ _ => rfl)) pa_nil))) (C8.pe_c c__law_many hr (by omega) (by rfl) (pa_cons (pe_ix ix_tup (pv 2) pe_int (fun _ _ => rfl)) pa_nil)))))
    (pss_one (ps_if (pt_cmpR op_eq (pe_ix ix_tup (pv 2) pe_int (fun _ _ => rfl)) pe_str (nomark _)) (pss_one (ps_set (i := 1) sc__law_many.nd rfl (Or.inl rfl) (pe_op op_add (pv 1) (C8.pe_c c__law_many hr (by omega) (by rfl) (pa_cons (pe_ix ix_tup (pv 2) pe_int (fun _ _ => rfl)) pa_nil)))))
    pss_nil))))))
    (pss_one (ps_ret (pv 1))))), ?_⟩)) (by omega)
  · obtain ⟨rows, p, ws, ls, rfl, _⟩ := h
    rfl
  · obtain ⟨rows, p, ws, ls, rfl, _, hp, hw, ho, hl, q⟩ := h
    have hlen : rows.list.length = ws.length := by rw [hw.len, Rows.list_len]
    walk_at "go"
    refine ⟨⟨_, SqT.of hp⟩, ?_⟩
    refine for_it (walk_tup (a := p) (xs := ws)) (fun i σ H' => Same H H' ∧ ∃ j o2, σ = [some (.ref p), some (.int j), o2]) ⟨Same.refl _, _, _, rfl⟩ (fun i σ H' _ z => SqT.of (z.1 _ _ hp)) ?_ ?_
    · rintro i x σ H2 H3 hi ⟨s2, j, o2, rfl⟩ ⟨rfl, e⟩
      obtain ⟨r, er, hr'⟩ := (hw.ts (same_ts s2)).at e
      have okr := ho.at er
      by_cases ci : ∃ a t e, r = .ite a t e
      · obtain ⟨a, t, e2, rfl⟩ := ci
        obtain ⟨pr, pt, pe, ts, es, rfl, hpr, hpt, hpe, ht, he⟩ := hr'
        obtain ⟨k0, _, lt, le, okt, oke⟩ := okr
        walk_at "go"
        refine ⟨t, pt, ts, ls, rfl, by omega, hpt, ht, okt, by omega, fun i1 H4 s4 => ?_⟩
        have hpr4 := s4 _ _ hpr
        walk_at "go"
        refine ⟨e2, pe, es, ls, rfl, by omega, s4 _ _ hpe, he.ts (same_ts s4), oke, by omega, fun i2 H5 s5 => ?_⟩
        walk_at "go"
        exact ⟨s2.trans (s4.trans s5), _, _, rfl⟩
      by_cases cw : ∃ a n b, r = .whl a n b
      · obtain ⟨a, n, b, rfl⟩ := cw
        obtain ⟨pr, pb, bs, rfl, hpr, hpb, hb⟩ := hr'
        obtain ⟨k0, _, _, _, lb, okb⟩ := okr
        walk_at "go"
        refine ⟨b, pb, bs, ls, rfl, by omega, hpb, hb, okb, by omega, fun i1 H4 s4 => ?_⟩
        walk_at "go"
        exact ⟨s2.trans s4, _, _, rfl⟩
      · obtain ⟨pr, xs, rfl, hpr⟩ := hr'.word
        have w1 := word_if ci
        have w2 := word_ne cw
        generalize r.word = z at hpr w1 w2
        walk_at "go"
        refine ⟨pr, V.str z :: xs, 0, V.str z, rfl, rfl, SqT.of hpr, atI0, ?_⟩
        walk_at "go"
        refine iteN (decide_eq_false fun q => w1 (V.str.inj q)) ?_
        walk_at "go"
        refine ⟨pr, V.str z :: xs, 0, V.str z, rfl, rfl, SqT.of hpr, atI0, ?_⟩
        walk_at "go"
        refine iteN (decide_eq_false fun q => w2 (V.str.inj q)) ?_
        exact ⟨s2, _, _, rfl⟩
    · rintro σ H2 ⟨s2, j, o2, rfl⟩
      walk_at "go"
      exact q _ H2 s2
theorem ok_law_worth (T : Tx mg) (D : DefAt K mg "_law_worth" s__law_worth) : C8.Cal P w K mg base 1 "_law_worth" sp_law_worth [] := by
  refine D.cal (k := 0) sc__law_worth (fun _ _ _ _ _ _ us hl => match us, hl with | [_, _], _ => rfl) (fun vs H Q E h => ?_) (fun f cdv A outer s H vs Q E hr h => ⟨_, (pss_one (ps_ret (pe_ifExp (pt_val (pe_callB (call_isK .str) (by rfl) T.isinstance_ (by decide +kernel) (pa_cons (pv 1) (pa_cons (pe_bltn (v := .ty "str") (u := .type "str") (by rfl) T.str_ (by decide +kernel) rfl) pa_nil)))) (pe_dget2 (hu_of hr) (pe_ix ix_list (pv 0) pe_int (fun _ _ => rfl)) (pv 1) pe_int ⟨by rfl, by rfl, by rfl, by rfl⟩) (pv 1)))), ?_⟩)
  · obtain ⟨Hb, a, ls, s, o, rfl, _⟩ := h
    rfl
  · obtain ⟨Hb, a, ls, s, o, rfl, hR, q⟩ := h
    cases o with
    | n i =>
      walk_at "go"
      exact q
    | s x =>
      walk_at "go"
      refine ⟨a.A, _, _, _, rfl, rfl, SqL.of hR.hA, rfl, ?_⟩
      refine ⟨a.D, rfl, .inl ⟨_, .inl hR.hD⟩, _, rfl, _, .inl ⟨_, Sum.inr x, .inl hR.hD, rfl, rfl⟩, ?_⟩
      rw [valV_env]
      have e : ((getE s.env x).map V.int).getD (.int 0) = .int (wor s.env (.s x)) := by
        show _ = V.int ((getE s.env x).getD 0)
        cases getE s.env x <;> rfl
      rw [e]
      exact q
theorem ok_law_deed (T : Tx mg) (D : DefAt K mg "_law_deed" s__law_deed) : C8.Cal P w K mg base 1 "_law_deed" sp_deed_of [] := by
  refine D.cal (k := 0) sc__law_deed (fun _ _ _ _ _ _ us hl => match us, hl with | [_, _, _], _ => rfl) (fun vs H Q E h => ?_) (fun f cdv A outer s H vs Q E hr h => ⟨_, (pss_cons (ps_if (pt_cmpR op_eq (pv 0) pe_str (nomark _)) (pss_one (ps_ret (pe_op op_shr (pv 1) (pv 2))))
    pss_nil)
    (pss_cons (ps_if (pt_cmpR op_in_seq (pv 0) (pe_tup (pa_cons pe_str (pa_cons pe_str pa_nil))) (by rfl)) (pss_one (ps_ret (pe_ifExp (pt_cmpR op_eq (pv 0) pe_str (nomark _)) (pe_callTy call_int1 (by rfl) T.int_ (by decide +kernel) (pa_cons (pe_cmpR op_lt (pv 1) (pv 2) (nomark _)) pa_nil)) (pe_callTy call_int1 (by rfl) T.int_ (by decide +kernel) (pa_cons (pe_cmpR op_eq (pv 1) (pv 2) (nomark _)) pa_nil)))))
    pss_nil)
    (pss_cons (ps_if (pt_cmpR op_in_seq (pv 0) (pe_tup (pa_cons pe_str (pa_cons pe_str (pa_cons pe_str pa_nil)))) (by rfl)) (pss_one (ps_ret (pe_ifExp (pt_cmpR op_eq (pv 0) pe_str (nomark _)) (pe_op op_and (pv 1) (pv 2)) (pe_ifExp (pt_cmpR op_eq (pv 0) pe_str (nomark _)) (pe_op op_or (pv 1) (pv 2)) (pe_op op_xor (pv 1) (pv 2))))))
    pss_nil)
    (pss_one (ps_ret (pe_op op_mod (pe_ifExp (pt_cmpR op_eq (pv 0) pe_str (nomark _)) (pe_op op_add (pv 1) (pv 2)) (pe_ifExp (pt_cmpR op_eq (pv 0) pe_str (nomark _)) (pe_op op_sub (pv 1) (pv 2)) (pe_op op_mul (pv 1) (pv 2)))) pe_int)))))), ?_⟩)
  · obtain ⟨d, a, b, rfl, _⟩ := h
    rfl
  · obtain ⟨d, a, b, rfl, hd, ha, hb, q⟩ := h
    have cm := cm_ok ha hb
    rcases hd with rfl | rfl | rfl | rfl | rfl | rfl | rfl | rfl | rfl <;> walk_at "go"
    · exact q _ (by walk_at "sm")
    · exact q _ (by walk_at "sm")
    · exact q _ (by walk_at "sm")
    · exact q _ (by walk_at "sm")
    · exact q _ (by walk_at "sm")
    · exact q _ (by walk_at "sm")
    · refine Or.inr ⟨_, rfl, ?_⟩
      rename_i p0 np0
      have q := q (upd H p0 (.tup [.str "less", .str "same"])) (same_nw (Same.refl _) np0)
      by_cases c : a < b
      · rw [decide_eq_true c]
        rw [show deed "less" a b = 1 from if_pos c] at q
        exact q
      · rw [decide_eq_false c]
        rw [show deed "less" a b = 0 from if_neg c] at q
        exact q
    · refine Or.inr ⟨_, rfl, ?_⟩
      rename_i p0 np0
      have q := q (upd H p0 (.tup [.str "less", .str "same"])) (same_nw (Same.refl _) np0)
      by_cases c : a = b
      · rw [decide_eq_true (congrArg V.int c)]
        rw [show deed "same" a b = 1 from if_pos c] at q
        exact q
      · rw [decide_eq_false (fun z => c (V.int.inj z))]
        rw [show deed "same" a b = 0 from if_neg c] at q
        exact q
    · exact ⟨hb.1, q _ (Same.refl _)⟩
theorem ok_law_todo (T : Tx mg) (D : DefAt K mg "_law_todo" s__law_todo) (c__law_many : C8.Cal P w K mg base 5 "_law_many" (sp_law_many 4) []) : C8.Cal P w K mg base 6 "_law_todo" sp_law_todo [] := by
  refine D.cal (k := 5) sc__law_todo (fun _ _ _ _ _ _ us hl => match us, hl with | [_, _], _ => rfl) (fun vs H Q E h => ?_) (fun f cdv A outer s H vs Q E hr h => ⟨_, (pss_cons (ps_par (i := 3) (j := 4) rfl sc__law_todo.nd rfl rfl (by decide) rfl rfl (pa_cons (pe_lst pa_nil) (pa_cons (pv 1) pa_nil)) (by rfl))
    (pss_cons (ps_for PassesOwn.never rfl (pi_tup (pv 0)) (pg_name (i := 2) sc__law_todo.nd rfl (Or.inl rfl))
    (pss_cons (ps_expr (pe_bm PySem.F.plainAttrs_list PySem.F.slot_list_append PySem.F.type_list_append mt_append (pv 3) (pa_cons (pe_tup (pa_cons (pv 4) (pa_cons (pv 2) (pa_cons (pe_ifExp (pt_cmpR op_eq (pe_ix ix_tup (pv 2) pe_int (fun _ _ => rfl)) pe_str (nomark _)) (pe_ix ix_tup (pv 2) pe_int (fun _ _ => rfl)) pe_int) pa_nil)))) pa_nil)))
    (pss_one (ps_set (i := 4) sc__law_todo.nd rfl (Or.inl rfl) (pe_op op_add (pv 4) (C8.pe_c c__law_many hr (by omega) (by rfl) (pa_cons (pe_tup (pa_cons (pv 2) pa_nil)) pa_nil)))))))
    (pss_one (ps_ret (pe_revL (pv 3)))))), ?_⟩)
  · obtain ⟨rows, v, f, ls, rfl, _⟩ := h
    rfl
  · obtain ⟨rows, v, f, ls, rfl, ⟨p, ws, rfl, hp, hw⟩, ho, hl, q⟩ := h
    have hlen : rows.list.length = ws.length := by rw [hw.len, Rows.list_len]
    walk_at "go"
    rename_i F nF
    have s0 : Same H (upd H F (.lst [])) := same_nw (Same.refl _) nF
    refine ⟨⟨_, SqT.of (s0 _ _ hp)⟩, ?_⟩
    refine for_it (walk_tup (a := p) (xs := ws)) (fun i σ H' => Same H H' ∧ ∃ us k o2, H' F = some (.lst us) ∧ us.length = i ∧ Paired (EntAt H') (rows.list.take i) us ∧ σ = [some (.ref p), some (.int f), o2, some (.ref F), some (.int k)]) ⟨s0, [], _, _, upd_same, rfl, .nil, rfl⟩ (fun i σ H' _ z => SqT.of (z.1 _ _ hp)) ?_ ?_
    · rintro i x σ H2 H3 hi ⟨s2, us, k, o2, hF, lu, pu, rfl⟩ ⟨rfl, e⟩
      obtain ⟨r, er, hr'⟩ := (hw.ts (same_ts s2)).at e
      have okr := ho.at er
      have i5 : i < 5 := by rw [← hlen, Rows.list_len] at hi; omega
      have fin : ∀ (j : Int) (N : Addr) (H4 : Hp), H3 N = none → H4 = upd (upd H3 N (.tup [.int k, x, .int j])) F (.lst (us ++ [.ref N])) → EntAt (upd H3 N (.tup [.int k, x, .int j])) r (.ref N) →
          Same H H4 ∧ H4 F = some (.lst (us ++ [.ref N])) ∧ Paired (EntAt H4) (rows.list.take (i + 1)) (us ++ [.ref N]) ∧ TS H3 H4 := fun j N H4 nN e4 en => by
        subst e4
        have hF' := upd_get (o := .tup [.int k, x, .int j]) nN hF
        have t4 := ts_nw (o := .tup [.int k, x, .int j]) (TS.refl H3) nN
        have t5 := ts_mut (u := .lst us) (o := .lst (us ++ [.ref N])) (TS.refl _) hF' (fun _ z => nomatch z)
        refine ⟨same_mut (same_nw s2 nN) nF, upd_same, ?_, t4.trans t5⟩
        rw [take_snocR er]
        exact paired_app (Paired.mapP pu fun _ _ z => z.ts (t4.trans t5)) (.cons (en.ts t5) .nil)
      by_cases cw : ∃ a n b, r = .whl a n b
      · obtain ⟨a, n, b, rfl⟩ := cw
        obtain ⟨pr, pb, bs, rfl, hpr, hpb, hb⟩ := id hr'
        refine ⟨_, rfl, .inl ⟨rfl, _, SqL.of hF⟩, ?_⟩
        walk_at "go"
        rename_i N nN
        refine ⟨_, _, _, rfl, rfl, upd_get nN hF, sm_lt (by omega), ?_⟩
        obtain ⟨f1, f2, f3, f4⟩ := fin n N _ nN rfl ⟨N, k, _, n, rfl, upd_same, hr'.ts (ts_nw (TS.refl _) nN)⟩
        generalize upd (upd H3 N (.tup [.int k, .ref pr, .int n])) F (.lst (us ++ [.ref N])) = H4 at f1 f2 f3 f4 ⊢
        walk_at "go"
        rename_i p8 n8
        refine ⟨.cons (.whl a n b) .nil, p8, [.ref pr], ls, rfl, by decide, upd_same, ⟨_, _, rfl, hr'.ts (ts_nw f4 n8), rfl⟩, ⟨okr, True.intro⟩, Nat.le_of_ble_eq_true rfl, fun i1 H5 s5 => ?_⟩
        walk_at "go"
        have s45 := (same_nw (Same.refl _) n8).trans s5
        exact ⟨f1.trans s45, _, _, _, s45 _ _ f2, by rw [List.length_append, lu]; rfl, Paired.mapP f3 fun _ _ z => z.ts (same_ts s45), rfl⟩
      · obtain ⟨pr, xs, rfl, hpr⟩ := hr'.word
        have w2 := word_ne cw
        have nw : noW r := fun a n b z => cw ⟨a, n, b, z⟩
        refine ⟨_, rfl, .inl ⟨rfl, _, SqL.of hF⟩, ?_⟩
        generalize r.word = z at hpr w2
        walk_at "go"
        refine ⟨pr, V.str z :: xs, 0, V.str z, rfl, rfl, SqT.of hpr, atI0, ?_⟩
        walk_at "go"
        refine iteN (decide_eq_false fun q => w2 (V.str.inj q)) ?_
        walk_at "go"
        rename_i N nN
        refine ⟨_, _, _, rfl, rfl, upd_get nN hF, sm_lt (by omega), ?_⟩
        obtain ⟨f1, f2, f3, f4⟩ := fin 0 N _ nN rfl ((entAt_no nw).mpr ⟨N, k, _, 0, rfl, upd_same, hr'.ts (ts_nw (TS.refl _) nN)⟩)
        generalize upd (upd H3 N (.tup [.int k, .ref pr, .int 0])) F (.lst (us ++ [.ref N])) = H4 at f1 f2 f3 f4 ⊢
        walk_at "go"
        rename_i p8 n8
        refine ⟨.cons r .nil, p8, [.ref pr], ls, rfl, by decide, upd_same, ⟨_, _, rfl, hr'.ts (ts_nw f4 n8), rfl⟩, ⟨okr, True.intro⟩, Nat.le_of_ble_eq_true rfl, fun i1 H5 s5 => ?_⟩
        walk_at "go"
        have s45 := (same_nw (Same.refl _) n8).trans s5
        exact ⟨f1.trans s45, _, _, _, s45 _ _ f2, by rw [List.length_append, lu]; rfl, Paired.mapP f3 fun _ _ z => z.ts (same_ts s45), rfl⟩
    · rintro σ H2 ⟨s2, us, k, o2, hF, lu, pu, rfl⟩
      rw [← hlen, List.take_length] at pu
      refine ⟨_, rfl, _, _, rfl, SqL.of hF, fun Rv nR => ?_⟩
      exact q _ Rv us.reverse (same_nw s2 nR) (none_of s2 nR) upd_same (Paired.rev (Paired.mapP pu fun _ _ z => z.ts (ts_nw (TS.refl _) nR)))
theorem ok_law_due (T : Tx mg) (D : DefAt K mg "_law_due" s__law_due) : C8.Cal P w K mg base 1 "_law_due" sp_law_due [] := by
  refine D.cal (k := 0) sc__law_due (fun _ _ _ _ _ _ us hl => match us, hl with | [_], _ => rfl) (fun vs H Q E h => ?_) (fun f cdv A outer s H vs Q E hr h => ⟨_, (pss_cons (ps_while PassesOwn.never (pt_cmpR (op_neNilL hr.units) (pe_ix ix_list (pv 0) pe_int (fun _ _ => rfl)) (pe_lst pa_nil) (nomark _)) (pss_cons (ps_set (i := 1) sc__law_due.nd rfl (Or.inl rfl) (pe_bm0 PySem.F.plainAttrs_list PySem.F.slot_list_pop PySem.F.type_list_pop mt_pop (pe_ix ix_list (pv 0) pe_int (fun _ _ => rfl))))
    (pss_one (ps_if (PW.pt (pw_or (pt_cmpR op_ne (pe_ix ix_tup (pe_ix ix_tup (pv 1) pe_int (fun _ _ => rfl)) pe_int (fun _ _ => rfl)) pe_str (nomark _)) (pw_or1 (pt_cmpR op_gt (pe_ix ix_tup (pv 1) pe_int (fun _ _ => rfl)) pe_int (nomark _))))) (pss_one (ps_ret (pv 1)))
    pss_nil))))
    (pss_one (ps_ret pe_non))), ?_⟩)
  · obtain ⟨Hb, a, ls, s, rfl, _⟩ := h
    rfl
  · obtain ⟨Hb, a, ls, s, rfl, hR, q1, q2⟩ := h
    refine ⟨fun m σ H' => ∃ t : List Row, m = t.length ∧ TS H H' ∧ AmidAt Hb H' a ls { s with stk := t } ∧ due t = due s.stk ∧ ∃ o1, σ = [some (.ref a.A), o1], ⟨_, s.stk, rfl, TS.refl _, hR, rfl, _, rfl⟩, ?_⟩
    rintro m σ H1 ⟨t, rfl, t1, hR1, ed, o1, rfl⟩
    walk_at "go"
    refine ⟨_, _, _, _, rfl, rfl, SqL.of hR1.hA, rfl, ?_⟩
    refine ⟨sm_sz (Nat.zero_le _), fun p1 n1 => ?_⟩
    have hR2 := hR1.nw (o := .lst []) n1
    have t2 : TS H1 (upd H1 p1 (.lst [])) := ts_nw (TS.refl _) n1
    obtain ⟨xs, h1, h2⟩ := hR2.hW
    refine ⟨_, _, _, rfl, rfl, h1, upd_same, _, rfl, ?_⟩
    cases t with
    | nil =>
      cases h2
      walk_at "go"
      exact q1 ed.symm _ (t1.trans t2) hR2
    | cons r t =>
      have h2 : Paired (EntAt _) (r :: t).reverse xs := h2
      rw [List.reverse_cons] at h2
      obtain ⟨xs, v, rfl, h3, h4⟩ := Paired.snoc h2
      have hR3 : AmidAt Hb _ a ls _ ∧ _ := hR2.popW (st := t) (xs := xs) h3
      obtain ⟨hR3, t3⟩ := hR3
      have t4 := t1.trans (t2.trans t3)
      have h4 := h4.ts t3
      obtain ⟨pv, i, pr, n, rest, rfl, hv, hw, hn⟩ := h4.word
      have el : (xs ++ [V.ref pv])[(xs ++ [V.ref pv]).length - 1]? = some (V.ref pv) := by simp
      have ed2 : (xs ++ [V.ref pv]).dropLast = xs := List.dropLast_concat
      refine iteB (by simp) ?_
      refine ⟨fun σ' H' => TS H H' ∧ AmidAt Hb H' a ls { s with stk := t } ∧ due t = due s.stk ∧ ∃ o1, σ' = [some (.ref a.A), o1], fun σ' H' z => ⟨t.length, Nat.lt_succ_self _, t, rfl, z⟩, ?_⟩
      walk_at "go"
      refine ⟨_, _, _, _, rfl, rfl, SqL.of hR2.hA, rfl, ?_⟩
      refine ⟨.inl ⟨rfl, _, SqL.of h1⟩, ?_⟩
      refine ⟨_, _, _, rfl, rfl, h1, el, ?_⟩
      rw [ed2]
      generalize upd (upd H1 p1 (.lst [])) a.W (.lst xs) = H5 at hR3 t4 h4 hv hw t3 ⊢
      by_cases hwl : ∃ a n b, r = .whl a n b
      · obtain ⟨o, n', b, rfl⟩ := hwl
        have e := hn o n' b rfl
        subst e
        have hw : H5 pr = some (.tup (.str "while" :: rest)) := hw
        walk_at "go"
        refine ⟨_, _, _, _, rfl, rfl, SqT.of hw, atI0, ?_⟩
        walk_at "go"
        refine ite_b (fun c => ?_) (fun c => ?_)
        · have c := of_decide_eq_true c
          exact ⟨_, rfl, q2 _ _ (ed ▸ if_pos c) _ _ t4 hR3 h4⟩
        · have c := of_decide_eq_false c
          exact ⟨t4, hR3, (due_skip c).symm.trans ed, _, rfl⟩
      · have w2 := word_ne hwl
        generalize hz : r.word = z at hw w2
        walk_at "go"
        refine ⟨_, _, _, _, rfl, rfl, SqT.of hw, atI0, ?_⟩
        walk_at "go"
        refine iteB (by rw [decide_eq_false fun q => w2 (V.str.inj q)]; rfl) ?_
        walk_at "go"
        exact q2 _ _ (ed ▸ due_take fun a n b z => absurd ⟨a, n, b, z⟩ hwl) _ _ t4 hR3 h4
end
end NW
/-! ## Walks: a runner is made -/
namespace NW
open PySem PySem.Spec PyProof.Rows L2
set_option pp.maxSteps 150
-- an object's place in a heap
local macro_rules | `(tactic| walk_at "hp") => `(tactic| (show _ = some _; first
  | assumption
  | exact upd_same
  | (refine' upd_get ?n ?h; (case n => assumption); (case h => walk_at "hp"))
  | (refine' same_get ?n ?h; (case n => assumption); (case h => walk_at "hp"))))
-- a heap that has grown
local macro_rules | `(tactic| walk_at "sm") => `(tactic| first
  | assumption
  | exact Same.refl _
  | (refine' same_nw ?n ?h; (case h => assumption); (case n => walk_at "sm"))
  | (refine' Same.trans ?n ?h; (case h => assumption); (case n => walk_at "sm")))
local macro_rules | `(tactic| walk_at "ty") => `(tactic| first
  | exact TyN.int _
  | exact TyN.str _
  | exact TyN.non
  | (refine' TyN.tup ?h; (case h => walk_at "hp"))
  | (refine' TyN.lst ?h; (case h => walk_at "hp")))
-- a test whose answer is known
local macro_rules | `(tactic| walk_at "if") => `(tactic| first
  | (refine iteB (by decide +kernel) ?_)
  | (refine iteN (by decide +kernel) ?_)
  | (refine iteB (by rfl) ?_)
  | (refine iteN (by rfl) ?_)
  | (refine iteB (decide_eq_true (by first | omega | assumption)) ?_)
  | (refine iteN (decide_eq_false (by first | omega | assumption)) ?_)
  | (refine iteB (by simp only [Bool.not_eq_true', Bool.not_eq_false', Bool.and_eq_true, Bool.and_eq_false_iff, Bool.or_eq_true, Bool.or_eq_false_iff, decide_eq_true_eq, decide_eq_false_iff_not]; omega) ?_)
  | (refine iteN (by simp only [Bool.not_eq_true', Bool.not_eq_false', Bool.and_eq_true, Bool.and_eq_false_iff, Bool.or_eq_true, Bool.or_eq_false_iff, decide_eq_true_eq, decide_eq_false_iff_not]; omega) ?_))
-- one step of a reading
local macro_rules | `(tactic| walk_at "s") => `(tactic| first
  | refine ⟨_, rfl, ?_⟩
  | refine ⟨_, _, rfl, rfl, ?_⟩
  | refine And.intro (show wipe _ _ = wipe _ _ by kernel_rfl) ?_
  | refine And.intro rfl ?_
  | (refine' ⟨_, _, _, _, rfl, rfl, SqT.of ?h, ?e, ?_⟩; (case h => walk_at "hp"); (case e => exact rfl))
  | (refine' ⟨_, _, rfl, ?t, ?_⟩; (case t => walk_at "ty"))
  | (refine' ⟨_, _, rfl, SqT.of ?h, ?e, ?_⟩; (case h => walk_at "hp"); (case e => exact rfl))
  | refine ⟨_, _, rfl, ?_⟩
  | (refine' ⟨_, _, _, rfl, rfl, ?h1, ?h2, ?_⟩; (case h1 => walk_at "hp"); (case h2 => walk_at "hp"))
  | (refine' ⟨_, _, _, _, rfl, rfl, SqL.of ?h, ?e, ?_⟩; (case h => walk_at "hp"); (case e => exact rfl))
  | (refine' ⟨_, _, rfl, Or.inr (SqT.of ?h), ?_⟩; (case h => walk_at "hp"))
  | (refine' ⟨_, _, rfl, Or.inr (SqT.of ?h), rfl, rfl, ?_⟩; (case h => walk_at "hp"))
  | (refine' ⟨_, _, rfl, Or.inl (SqL.of ?h), ?_⟩; (case h => walk_at "hp"))
  | refine And.intro (flat_strs _) ?_
  | (refine And.intro (sm_sz (Nat.le_of_ble_eq_true rfl)) ?_; intro p np)
  | walk_at "if"
  | (refine' And.intro ?a ?_; (case a => first | assumption | exact sm_sz (by omega) | omega | exact Or.inr ⟨by omega, by omega⟩ | exact Or.inl ⟨by omega, by omega⟩ | exact ⟨by omega, by omega⟩))
  | refine Or.inl ⟨_, _, _, rfl, ?_⟩
  | refine Or.inr ⟨_, _, _, rfl, ?_⟩
  | (intro Hn sn))
local macro_rules | `(tactic| walk_at "go") => `(tactic| repeat (walk_at "s"))

abbrev s_RunnerU_initU : Stmt := inClass (topS 46) 0
abbrev N_RunnerU_initU : List Str := ["self", "program", "handing", "parts", "name", "sort", "many", "worths", "empty", "one"]
abbrev P_RunnerU_initU : List Str := ["self", "program", "handing"]
theorem sc_RunnerU_initU : FnScope N_RunnerU_initU P_RunnerU_initU (defScope s_RunnerU_initU) := ⟨rfl, rfl, rfl, by decide +kernel, rfl, by decide +kernel, by decide +kernel⟩

def hide (H : Hp) (S : List Addr) : Hp := fun b => if b ∈ S then none else H b
theorem hide_same (H : Hp) (S : List Addr) : Same (hide H S) H := fun b u q => by
  unfold hide at q
  split at q
  · cases q
  · exact q
theorem hide_in {H : Hp} {S : List Addr} {b : Addr} (h : b ∈ S) : hide H S b = none := if_pos h
theorem hide_out {H : Hp} {S : List Addr} {b : Addr} (h : b ∉ S) : hide H S b = H b := if_neg h
theorem hide_ts {H : Hp} {S : List Addr} (h : ∀ b ∈ S, ∀ xs, H b ≠ some (.tup xs)) : TS H (hide H S) := fun b xs q => by
  rw [hide_out fun m => h b m xs q]
  exact q
theorem many_nk : ∀ (ls : List LD) (l : Str), l ∉ ls.map LD.nm → valV (manyK ls) (Sum.inr l) = none
  | [], _, _ => rfl
  | d :: r, l, h => by
    show valV (((Sum.inr d.nm : Key), V.int d.cells) :: manyK r) (Sum.inr l) = none
    rw [valV_neg (fun e => h (by rw [← Sum.inr.inj e]; exact List.mem_cons_self))]
    exact many_nk r l fun m => h (List.mem_cons_of_mem _ m)
theorem same_none {H H' : Hp} {p : Addr} (s : Same H H') (n : H' p = none) : H p = none := by
  cases e : H p with
  | none => rfl
  | some u =>
    rw [s p u e] at n
    cases n
theorem rep_flat (n : Nat) : (List.replicate n [V.int 0]).flatten = (List.replicate n (0 : Int)).map V.int := by
  induction n with
  | zero => rfl
  | succ n ih =>
    rw [List.replicate_succ, List.flatten_cons, ih, List.replicate_succ]
    rfl
theorem flat_len (ls : List LD) (m : Str → List Int) (h : ∀ d ∈ ls, d.em.toNat + (m d.nm).length ≤ 100) : (flat ls m).length ≤ 100 * ls.length := by
  induction ls with
  | nil => exact Nat.le_refl _
  | cons d r ih =>
    have := ih fun d m => h d (List.mem_cons_of_mem _ m)
    have := h d List.mem_cons_self
    show ((List.replicate d.em.toNat 0 ++ m d.nm) ++ flat r m).length ≤ 100 * (r.length + 1)
    rw [List.length_append, List.length_append, List.length_replicate]
    omega
theorem flat_snoc {ls : List LD} {i : Nat} {d : LD} (m : Str → List Int) (e : ls[i]? = some d) : flat (ls.take (i + 1)) m = (flat (ls.take i) m ++ List.replicate d.em.toNat 0) ++ m d.nm := by
  obtain ⟨hi, ed⟩ := List.getElem?_eq_some_iff.mp e
  unfold flat
  rw [List.take_succ_eq_append_getElem hi, ed, List.flatMap_append, List.append_assoc]
  congr 1
  exact List.append_nil _
/-- a step that leaves all but x -/
theorem stepX {B H H' : Hp} {x : Addr} (sB : Same B H) (nB : B x = none) (k : ∀ b u, b ≠ x → H b = some u → H' b = some u) :
    ∃ B', Same B B' ∧ Same B' H' ∧ B' x = none ∧ ∀ b u, b ≠ x → H' b = some u → B' b = some u := by
  refine ⟨hide H' [x], fun b u q => ?_, hide_same _ _, hide_in List.mem_cons_self, fun b u n q => ?_⟩
  · have n := ne_of_none q nB
    rw [hide_out (fun m => n (List.mem_singleton.mp m))]
    exact k b u n (sB b u q)
  · rw [hide_out (fun m => n (List.mem_singleton.mp m))]
    exact q
section
variable {P : Program} {w : World} {K : PySem.W.Frag} {mg : Str → Option Value} {base : Heap} {cR : Addr}
theorem ok_init (T : Tx mg) (R : RunnerC K cR) (D : MakAt K mg "Runner" cR "Runner.__init__" s_RunnerU_initU) (c_cell_begins : C8.Cal P w K mg base 1 "cell_begins" sp_cell_begins []) (c_placed : C8.Cal P w K mg base 7 "placed" (sp_placed 4) []) :
    C8.Mak P w K mg base 8 "Runner" cR (sp_init cR) [] := by
  refine D.mak (k := 7) sc_RunnerU_initU (fun _ _ _ _ _ _ us hl => match us, hl with | [_, _, _], _ => rfl) (fun vs H Q E h => ?_) (fun f cdv A outer s H vs Q E hr h => ⟨_, (pss_cons (ps_fld (pv 0) pe_dnewK rfl)
    (pss_cons (ps_fld (pv 0) (pe_lst pa_nil) rfl)
    (pss_cons (ps_fld (pv 0) (C8.pe_c c_cell_begins hr (by omega) (by rfl) (pa_cons (pv 1) pa_nil)) rfl)
    (pss_cons (ps_fld (pv 0) (pe_dc (own := [("one", 9)]) (g := (gName 9)) (tt := tYes) rfl sc_RunnerU_initU.nd (pi_tup (pe_ix ix_tup (pv 1) pe_int (fun _ _ => rfl))) (blkOk_by (own := [("one", 9)]) (N := N_RunnerU_initU) (sc := defScope s_RunnerU_initU) (by decide +kernel)) (fun _ _ _ _ _ => (pg_name (i := 9) sc_RunnerU_initU.nd rfl (Or.inl rfl))) (fun _ _ _ _ _ => pts_nil) (fun _ _ _ _ _ => (pe_ix (ix_tupK (K := K) rfl) (pv 9) pe_int (fun _ _ => rfl))) (fun _ _ _ _ _ => (pe_ix (ix_tupK (K := K) rfl) (pv 9) pe_int (fun _ _ => rfl)))) rfl)
    (pss_cons (ps_fld (pv 0) (pe_lst pa_nil) rfl)
    (pss_cons (ps_fld (pv 0) (pe_revL (pe_callTy call_list_of (by rfl) T.list_ (by decide +kernel) (pa_cons (C8.pe_c c_placed hr (by omega) (by rfl) (pa_cons (pe_ix ix_tup (pv 1) pe_int (fun _ _ => rfl)) (pa_cons pe_int pa_nil))) pa_nil))) rfl)
    (pss_cons (ps_set (i := 3) sc_RunnerU_initU.nd rfl (Or.inl rfl) (pe_callTy call_list_of (by rfl) T.list_ (by decide +kernel) (pa_cons (pv 2) pa_nil)))
    (pss_cons (ps_for PassesOwn.never rfl (pi_tup (pe_ix ix_tup (pv 1) pe_int (fun _ _ => rfl))) (pg_tup rfl (pgs_cons (pg_name (i := 4) sc_RunnerU_initU.nd rfl (Or.inl rfl)) (pgs_cons (pg_name (i := 5) sc_RunnerU_initU.nd rfl (Or.inl rfl)) (pgs_cons (pg_name (i := 6) sc_RunnerU_initU.nd rfl (Or.inl rfl)) pgs_nil))))
    (pss_one (ps_dput (hu_of hr) (pe_fld (pv 0) rfl) (pv 4) (pe_bm PySem.F.plainAttrs_list PySem.F.slot_list_pop PySem.F.type_list_pop mt_popAt (pv 3) (pa_cons pe_int pa_nil)) rfl)))
    (pss_one (ps_for PassesOwn.never rfl (pi_tup (pe_ix ix_tup (pv 1) pe_int (fun _ _ => rfl))) (pg_tup rfl (pgs_cons (pg_name (i := 4) sc_RunnerU_initU.nd rfl (Or.inl rfl)) (pgs_cons (pg_name (i := 5) sc_RunnerU_initU.nd rfl (Or.inl rfl)) (pgs_cons (pg_name (i := 6) sc_RunnerU_initU.nd rfl (Or.inl rfl)) (pgs_cons (pg_name (i := 7) sc_RunnerU_initU.nd rfl (Or.inl rfl)) (pgs_cons (pg_name (i := 8) sc_RunnerU_initU.nd rfl (Or.inl rfl)) pgs_nil))))))
    (pss_cons (ps_expr (pe_bm PySem.F.plainAttrs_list PySem.F.slot_list_extend PySem.F.type_list_extend mt_extend (pe_fld (pv 0) rfl) (pa_cons (pe_op op_rep (pe_lst (pa_cons pe_int pa_nil)) (pv 8)) pa_nil)))
    (pss_one (ps_expr (pe_bm PySem.F.plainAttrs_list PySem.F.slot_list_extend PySem.F.type_list_extend mt_extend (pe_fld (pv 0) rfl) (pa_cons (pe_ifExp (pt_cmpR op_eq (pv 5) pe_str (nomark _)) (pe_op op_rep (pe_lst (pa_cons pe_int pa_nil)) (pv 6)) (pe_callTy call_list_of (by rfl) T.list_ (by decide +kernel) (pa_cons (pe_bm PySem.F.plainAttrs_list PySem.F.slot_list_pop PySem.F.type_list_pop mt_popAt (pv 3) (pa_cons pe_int pa_nil)) pa_nil))) pa_nil))))))))))))))), ?_⟩)
  · obtain ⟨p, v, Hb, x, dx, g, vg, rfl, _⟩ := h
    rfl
  · obtain ⟨p, v, Hb, x, dx, g, vg, rfl, hx, ⟨a, ah, al, ar, at_, hs, ls, rs, rfl, h0, h1, h2, h3, h4, h5, h6, h7⟩, ho, hL, ⟨pg, gs, rfl, hg, hgs⟩, hG, sb, nx, q⟩ := h
    -- the heap but for x
    obtain ⟨B0, s00, s0, n0, k0⟩ := stepX (x := x) sb nx (fun b u _ q => q)
    have t0 : TS H B0 := fun b xs e => k0 b _ (ne_of e hx (fun z => nomatch z)) e
    have prog0 : ProgAt B0 p (.ref a) := ProgAt.ts t0 ⟨a, ah, al, ar, at_, hs, ls, rs, rfl, h0, h1, h2, h3, h4, h5, h6, h7⟩
    have hand0 : HandAt B0 g (.ref pg) := HandAt.ts t0 ⟨pg, gs, rfl, hg, hgs⟩
    have G0 := t0 _ _ h0
    -- held
    refine fun pD nD => ?_
    refine ⟨_, rfl, x, cR, dx, _, rfl, upd_get nD hx, R.cl, R.held, Nat.le_of_ble_eq_true rfl, ?_⟩
    obtain ⟨B1, s01, s1, n1, k1⟩ := stepX (H' := upd (upd H pD (.dK [])) x (.ins cR dx (putF "held" (.ref pD) []))) s0 n0 (fun b u m q => upd_mut m (upd_get nD q))
    have D1 : B1 pD = some (.dK []) := k1 _ _ (Ne.symm (ne_of_none hx nD)) (upd_mut (Ne.symm (ne_of_none hx nD)) upd_same)
    have x1 : (upd (upd H pD (.dK [])) x (.ins cR dx (putF "held" (.ref pD) []))) x = _ := upd_same
    generalize upd (upd H pD (.dK [])) x (.ins cR dx (putF "held" (.ref pD) [])) = H1 at s1 k1 x1 ⊢
    -- cells
    refine ⟨sm_sz (Nat.zero_le _), fun pC nC => ?_⟩
    refine ⟨_, rfl, x, cR, dx, _, rfl, upd_get nC x1, R.cl, R.cells, Nat.le_of_ble_eq_true rfl, ?_⟩
    obtain ⟨B2, s12, s2, n2, k2⟩ := stepX (H' := upd (upd H1 pC (.lst [])) x (.ins cR dx [("held", .ref pD), ("cells", .ref pC)])) s1 n1 (fun b u m q => upd_mut m (upd_get nC q))
    have C2 : B2 pC = some (.lst []) := k2 _ _ (Ne.symm (ne_of_none x1 nC)) (upd_mut (Ne.symm (ne_of_none x1 nC)) upd_same)
    have x2 : (upd (upd H1 pC (.lst [])) x (.ins cR dx [("held", .ref pD), ("cells", .ref pC)])) x = _ := upd_same
    show (_ : L2.TS) _ _ (upd (upd H1 pC (.lst [])) x (.ins cR dx [("held", .ref pD), ("cells", .ref pC)]))
    generalize upd (upd H1 pC (.lst [])) x (.ins cR dx [("held", .ref pD), ("cells", .ref pC)]) = H2 at s2 k2 x2 ⊢
    have s02 := s01.trans s12
    -- begins
    refine ⟨_, rfl, p, _, rfl, prog0.ts (same_ts (s02.trans s2)), hL, fun H3 pG u3 nG hG3 => ?_⟩
    have x3 := u3 _ _ x2
    have s3 : Same B2 H3 := s2.trans u3
    have xG := Ne.symm (ne_of_none x2 nG)
    refine ⟨_, rfl, x, cR, dx, _, rfl, x3, R.cl, R.begins, Nat.le_of_ble_eq_true rfl, ?_⟩
    obtain ⟨B4, s24, s4, n4, k4⟩ := stepX (H' := upd H3 x (.ins cR dx [("held", .ref pD), ("cells", .ref pC), ("begins", .ref pG)])) s3 n2 (fun b u m q => upd_mut m q)
    have x4 : (upd H3 x (.ins cR dx [("held", .ref pD), ("cells", .ref pC), ("begins", .ref pG)])) x = _ := upd_same
    have j4 : ∀ b u, b ≠ x → H3 b = some u → B4 b = some u := fun b u m q => k4 b u m (upd_mut m q)
    show (_ : L2.TS) _ _ (upd H3 x (.ins cR dx [("held", .ref pD), ("cells", .ref pC), ("begins", .ref pG)]))
    generalize upd H3 x (.ins cR dx [("held", .ref pD), ("cells", .ref pC), ("begins", .ref pG)]) = H4 at s4 k4 x4 ⊢
    have G4 : B4 pG = some (.dK (begK p.lists 0)) := j4 _ _ xG hG3
    have s04 := s02.trans s24
    -- many
    have prog4 := prog0.ts (same_ts (s04.trans s4))
    have l4 := h4.ts (t0.trans (same_ts (s04.trans s4)))
    have hal : H4 al = some (.tup ls) := s4 _ _ (s04 _ _ (t0 _ _ h3))
    have ha4 : H4 a = some (.tup [.ref ah, .ref al, .ref ar, .ref at_]) := s4 _ _ (s04 _ _ G0)
    walk_at "go"
    refine ⟨⟨_, SqT.of hal⟩, fun pM nM => ?_⟩
    refine dc_it l4.walk (fun i H' => Same H4 H' ∧ H' pM = some (.dK (manyK (p.lists.take i)))) ⟨same_nw (Same.refl _) nM, upd_same⟩ (fun i H' _ z => SqT.of (z.1 _ _ hal)) ?_ ?_
    · rintro i y H5 H5' hi ⟨s5, hM5⟩ ⟨rfl, e⟩
      obtain ⟨d, pd, ed, rfl, hd⟩ := TupsL.at (l4.ts (same_ts s5)) e
      have hd : H5' pd = some (.tup [.str d.nm, .str d.so, .int d.cells, .int d.wo, .int d.em]) := hd
      walk_at "go"
      refine ⟨_, Sum.inr d.nm, rfl, hM5, sm_lt (by unfold manyK; rw [List.length_map, List.length_take]; have := hL.len; omega), same_mut s5 nM, ?_⟩
      obtain ⟨hi2, ed2⟩ := List.getElem?_eq_some_iff.mp ed
      rw [upd_same, putK_new _ (many_nk _ _ (nd_take hL.nd ed)), List.take_succ_eq_append_getElem hi2, ed2]
      unfold manyK
      rw [List.map_append]
      rfl
    rintro H5 ⟨u5, hM5⟩
    rw [List.take_length] at hM5
    have x5 := u5 _ _ x4
    have s5 : Same B4 H5 := s4.trans u5
    have xM := Ne.symm (ne_of_none x4 nM)
    refine ⟨_, rfl, x, cR, dx, _, rfl, x5, R.cl, R.many, Nat.le_of_ble_eq_true rfl, ?_⟩
    obtain ⟨B6, s46, s6, n6, k6⟩ := stepX (H' := upd H5 x (.ins cR dx [("held", .ref pD), ("cells", .ref pC), ("begins", .ref pG), ("many", .ref pM)])) s5 n4 (fun b u m q => upd_mut m q)
    have x6 : (upd H5 x (.ins cR dx [("held", .ref pD), ("cells", .ref pC), ("begins", .ref pG), ("many", .ref pM)])) x = _ := upd_same
    have j6 : ∀ b u, b ≠ x → H5 b = some u → B6 b = some u := fun b u m q => k6 b u m (upd_mut m q)
    show (_ : L2.TS) _ _ (upd H5 x (.ins cR dx [("held", .ref pD), ("cells", .ref pC), ("begins", .ref pG), ("many", .ref pM)]))
    generalize upd H5 x (.ins cR dx [("held", .ref pD), ("cells", .ref pC), ("begins", .ref pG), ("many", .ref pM)]) = H6 at s6 k6 x6 ⊢
    have M6 : B6 pM = some (.dK (manyK p.lists)) := j6 _ _ xM hM5
    have s06 := s04.trans s46
    -- lets
    refine ⟨sm_sz (Nat.zero_le _), fun pL nL => ?_⟩
    have s7 : Same B6 (upd H6 pL (.lst [])) := same_nw s6 nL
    have x7 : (upd H6 pL (.lst [])) x = _ := upd_get nL x6
    have xL := Ne.symm (ne_of_none x6 nL)
    have L7 : (upd H6 pL (.lst [])) pL = some (.lst []) := upd_same
    generalize upd H6 pL (.lst []) = H7 at s7 x7 L7 ⊢
    refine ⟨_, rfl, x, cR, dx, _, rfl, x7, R.cl, R.lets, Nat.le_of_ble_eq_true rfl, ?_⟩
    obtain ⟨B8, s68, s8, n8, k8⟩ := stepX (H' := upd H7 x (.ins cR dx [("held", .ref pD), ("cells", .ref pC), ("begins", .ref pG), ("many", .ref pM), ("lets", .ref pL)])) s7 n6 (fun b u m q => upd_mut m q)
    have x8 : (upd H7 x (.ins cR dx [("held", .ref pD), ("cells", .ref pC), ("begins", .ref pG), ("many", .ref pM), ("lets", .ref pL)])) x = _ := upd_same
    have j8 : ∀ b u, b ≠ x → H7 b = some u → B8 b = some u := fun b u m q => k8 b u m (upd_mut m q)
    show (_ : L2.TS) _ _ (upd H7 x (.ins cR dx [("held", .ref pD), ("cells", .ref pC), ("begins", .ref pG), ("many", .ref pM), ("lets", .ref pL)]))
    generalize upd H7 x (.ins cR dx [("held", .ref pD), ("cells", .ref pC), ("begins", .ref pG), ("many", .ref pM), ("lets", .ref pL)]) = H8 at s8 k8 x8 ⊢
    have L8 : B8 pL = some (.lst []) := j8 _ _ xL L7
    have s08 := s06.trans s68
    -- waiting
    have ha8 : H8 a = some (.tup [.ref ah, .ref al, .ref ar, .ref at_]) := s8 _ _ (s08 _ _ G0)
    have r8 : RowsAt H8 p.rows (.ref ar) := RowsAt.ts (t0.trans (same_ts (s08.trans s8))) ⟨ar, rs, rfl, h5, h6⟩
    walk_at "go"
    refine ⟨p.rows, _, _, _, rfl, by omega, r8, ho.rw, ho.rl, fun H9 v9 u9 hn9 => ?_⟩
    obtain ⟨p9, ws9, rfl, hp9, hw9⟩ := nodesAt_iff.mp hn9
    refine ⟨_, _, rfl, Or.inr (SqT.of hp9), fun q1 m1 => ?_⟩
    refine ⟨_, _, rfl, SqL.of upd_same, fun pW nW => ?_⟩
    have s10 : Same B8 (upd (upd H9 q1 (.lst ws9)) pW (.lst ws9.reverse)) := same_nw (same_nw (s8.trans u9) m1) nW
    have x10 : (upd (upd H9 q1 (.lst ws9)) pW (.lst ws9.reverse)) x = _ := upd_get nW (upd_get m1 (u9 _ _ x8))
    have xW := Ne.symm (ne_of_none (upd_get (o := .lst ws9) m1 (u9 _ _ x8)) nW)
    have W10 : (upd (upd H9 q1 (.lst ws9)) pW (.lst ws9.reverse)) pW = some (.lst ws9.reverse) := upd_same
    have t10 : TS H9 (upd (upd H9 q1 (.lst ws9)) pW (.lst ws9.reverse)) := ts_nw (ts_nw (TS.refl _) m1) nW
    generalize upd (upd H9 q1 (.lst ws9)) pW (.lst ws9.reverse) = H10 at s10 x10 W10 t10 ⊢
    refine ⟨_, rfl, x, cR, dx, _, rfl, x10, R.cl, R.waiting, Nat.le_of_ble_eq_true rfl, ?_⟩
    obtain ⟨B11, s811, s11, n11, k11⟩ := stepX (H' := upd H10 x (.ins cR dx [("held", .ref pD), ("cells", .ref pC), ("begins", .ref pG), ("many", .ref pM), ("lets", .ref pL), ("waiting", .ref pW)])) s10 n8 (fun b u m q => upd_mut m q)
    have x11 : (upd H10 x (.ins cR dx [("held", .ref pD), ("cells", .ref pC), ("begins", .ref pG), ("many", .ref pM), ("lets", .ref pL), ("waiting", .ref pW)])) x = _ := upd_same
    have j11 : ∀ b u, b ≠ x → H10 b = some u → B11 b = some u := fun b u m q => k11 b u m (upd_mut m q)
    show (_ : L2.TS) _ _ (upd H10 x (.ins cR dx [("held", .ref pD), ("cells", .ref pC), ("begins", .ref pG), ("many", .ref pM), ("lets", .ref pL), ("waiting", .ref pW)]))
    generalize upd H10 x (.ins cR dx [("held", .ref pD), ("cells", .ref pC), ("begins", .ref pG), ("many", .ref pM), ("lets", .ref pL), ("waiting", .ref pW)]) = H11 at s11 k11 x11 ⊢
    have W11 : B11 pW = some (.lst ws9.reverse) := j11 _ _ xW W10
    have s011 := s08.trans s811
    have t11 : TS H9 B11 := t10.trans fun b xs e => j11 b _ (ne_of e x10 (fun z => nomatch z)) e
    have N11 : NodesL B11 p.rows ws9 := hw9.ts t11
    -- the parts
    have hand11 : HandAt H11 g (.ref pg) := hand0.ts (same_ts (s011.trans s11))
    obtain ⟨_, gs', eg, hg11, hgs11⟩ := hand11
    cases eg
    refine ⟨_, rfl, _, gs', rfl, Or.inr (SqT.of hg11), fun pP nP => ?_⟩
    have xP := Ne.symm (ne_of_none x11 nP)
    have s68' := s68
    have s18 : Same B1 B8 := s12.trans (s24.trans (s46.trans s68))
    have s28 : Same B2 B8 := s24.trans (s46.trans s68)
    have D11 : H11 pD = some (.dK []) := s11 _ _ (s811 _ _ (s18 _ _ D1))
    have C11 : H11 pC = some (.lst []) := s11 _ _ (s811 _ _ (s28 _ _ C2))
    have dG : pD ≠ pG := ne_of_none (s2 _ _ (s12 _ _ D1)) nG
    have dM : pD ≠ pM := ne_of_none (s4 _ _ (s24 _ _ (s12 _ _ D1))) nM
    have cL : pC ≠ pL := ne_of_none (s6 _ _ (s46 _ _ (s24 _ _ C2))) nL
    have cW : pC ≠ pW := ne_of_none (upd_get (o := .lst ws9) m1 (u9 _ _ (s8 _ _ (s28 _ _ C2)))) nW
    have lW : pL ≠ pW := ne_of_none (upd_get (o := .lst ws9) m1 (u9 _ _ (s8 _ _ L8))) nW
    have fDn : Hb pD = none := same_none sb nD
    have fCn : Hb pC = none := same_none (s00.trans (s01.trans s1)) nC
    have fLn : Hb pL = none := same_none (s00.trans (s06.trans s6)) nL
    have fWn : Hb pW = none := same_none (((s00.trans (s08.trans s8)).trans u9).trans (same_nw (Same.refl _) m1)) nW
    have dP := ne_of_none D11 nP
    have cP := ne_of_none C11 nP
    have dC : pD ≠ pC := ne_of D11 C11 (fun z => nomatch z)
    have D12 : (upd H11 pP (.lst gs')) pD = some (.dK []) := upd_get nP D11
    have C12 : (upd H11 pP (.lst gs')) pC = some (.lst []) := upd_get nP C11
    have P12 : (upd H11 pP (.lst gs')) pP = some (.lst gs') := upd_same
    have s12b : Same H11 (upd H11 pP (.lst gs')) := same_nw (Same.refl _) nP
    have tH : TS H11 (hide (upd H11 pP (.lst gs')) [pD, pC, pP]) := (same_ts s12b).trans (hide_ts fun b m xs e => by
      rcases List.mem_cons.mp m with m | m
      · rw [m, D12] at e
        cases e
      rcases List.mem_cons.mp m with m | m
      · rw [m, C12] at e
        cases e
      · rw [List.mem_singleton.mp m, P12] at e
        cases e)
    have kp : ∀ {b : Addr} {u : HO}, b ≠ pD → b ≠ pC → b ≠ pP → H11 b = some u → hide (upd H11 pP (.lst gs')) [pD, pC, pP] b = some u := fun a1 a2 a3 e => by
      rw [hide_out (by simp [a1, a2, a3])]
      exact s12b _ _ e
    have sHb : Same Hb (hide (upd H11 pP (.lst gs')) [pD, pC, pP]) := fun b u e => by
      have e0 := s00 b u e
      have e1 := s01 b u e0
      exact kp (ne_of_none (sb b u e) nD) (ne_of_none (s1 _ _ e1) nC) (ne_of_none (s11 _ _ (s011 _ _ e0)) nP) (s11 _ _ (s011 _ _ e0))
    have hDn : hide (upd H11 pP (.lst gs')) [pD, pC, pP] pD = none := hide_in (by simp)
    have hCn : hide (upd H11 pP (.lst gs')) [pD, pC, pP] pC = none := hide_in (by simp)
    have hPn : hide (upd H11 pP (.lst gs')) [pD, pC, pP] pP = none := hide_in (by simp)
    have xB := kp (Ne.symm (ne_of D11 x11 (fun z => nomatch z))) (Ne.symm (ne_of C11 x11 (fun z => nomatch z))) (ne_of_none x11 nP) x11
    have GB := kp (Ne.symm dG) (ne_of (s11 _ _ (s811 _ _ (s68 _ _ (s46 _ _ G4)))) C11 (fun z => nomatch z)) (ne_of_none (s11 _ _ (s811 _ _ (s68 _ _ (s46 _ _ G4)))) nP) (s11 _ _ (s811 _ _ (s68 _ _ (s46 _ _ G4))))
    have MB := kp (Ne.symm dM) (ne_of (s11 _ _ (s811 _ _ (s68 _ _ M6))) C11 (fun z => nomatch z)) (ne_of_none (s11 _ _ (s811 _ _ (s68 _ _ M6))) nP) (s11 _ _ (s811 _ _ (s68 _ _ M6)))
    have LB := kp (ne_of (s11 _ _ (s811 _ _ L8)) D11 (fun z => nomatch z)) (Ne.symm cL) (ne_of_none (s11 _ _ (s811 _ _ L8)) nP) (s11 _ _ (s811 _ _ L8))
    have WB := kp (ne_of (s11 _ _ W11) D11 (fun z => nomatch z)) (Ne.symm cW) (ne_of_none (s11 _ _ W11) nP) (s11 _ _ W11)
    have NB := N11.ts ((same_ts s11).trans tH)
    have progB : ProgAt (hide (upd H11 pP (.lst gs')) [pD, pC, pP]) p (.ref a) := prog0.ts ((same_ts (s011.trans s11)).trans tH)
    have gB : Paired (PartAt (hide (upd H11 pP (.lst gs')) [pD, pC, pP])) g gs' := Paired.mapP hgs11 fun _ _ z => z.ts tH
    have sB := hide_same (upd H11 pP (.lst gs')) [pD, pC, pP]
    generalize hide (upd H11 pP (.lst gs')) [pD, pC, pP] = B at tH kp sHb hDn hCn hPn xB GB MB LB WB NB progB gB sB
    generalize upd H11 pP (.lst gs') = H12 at D12 C12 P12 sB ⊢
    clear kp tH s12b dP hgs11 hg11 W11 N11 x11 s11 s811 s011 W10 x10 s10 L8 s8 x8 M6 G4 C2 D1 nD nC
    obtain ⟨a', ah', al', ar', at', hs', ls', rs', ea', b0, b1, b2, b3, b4, b5, b6, b7⟩ := progB
    cases ea'
    have ha12 := sB _ _ b0
    walk_at "go"
    refine ⟨⟨_, SqT.of (sB _ _ b1)⟩, ?_⟩
    refine for_it b2.walk (fun i σ H' => Same B H' ∧ H' pC = some (.lst []) ∧ (∃ g' e rest, GoodP (p.handed.drop i) p.lists g' ∧ g' = g.drop i ∧ envG p.handed g [] = envG (p.handed.drop i) g' e ∧ e.length ≤ i ∧ H' pD = some (.dK (envK e)) ∧ H' pP = some (.lst rest) ∧ Paired (PartAt B) g' rest) ∧
      ∃ o4 o5 o6 o7 o8 o9, σ = [some (.ref x), some (.ref a), some (.ref pg), some (.ref pP), o4, o5, o6, o7, o8, o9]) ⟨sB, C12, ⟨g, [], gs', hG, rfl, rfl, Nat.le_refl _, D12, P12, gB⟩, _, _, _, _, _, _, rfl⟩ (fun i σ H' _ z => SqT.of (z.1 _ _ b1)) ?_ ?_
    · rintro i y σ J1 J2 hi ⟨sJ, CJ, ⟨g', e, rest, gg, eg, ee, el, DJ, PJ, gr⟩, o4, o5, o6, o7, o8, o9, rfl⟩ ⟨rfl, ey⟩
      obtain ⟨d, pd, ed, rfl, hd⟩ := TupsL.at b2 ey
      have hd : J2 pd = some (.tup [.str d.nm, .str d.so, .int d.sz]) := sJ _ _ hd
      rw [drop_cons ed] at gg ee
      cases gg with
      | w bi gt =>
        rename_i g2 v
        cases gr with
        | cons h1 gr =>
          rename_i y2 rest2
          have h1 : y2 = .int v := h1
          subst h1
          walk_at "go"
          refine ⟨.inl ⟨rfl, _, SqL.of PJ⟩, ?_⟩
          refine ⟨_, _, 0, 0, _, rfl, rfl, PJ, by decide, by decide, by simp [seqIndex?], rfl, ?_⟩
          have DJ2 : (upd J2 pP (.lst rest2)) pD = some (.dK (envK e)) := upd_mut (ne_of DJ PJ (fun z => nomatch z)) DJ
          refine ⟨_, rfl, x, cR, dx, _, _, rfl, upd_mut (ne_of (sJ _ _ xB) PJ (fun z => nomatch z)) (sJ _ _ xB), R.cl, R.held, rfl, ?_⟩
          walk_at "go"
          have lh := ho.nh
          refine ⟨pD, _, rfl, .inl ⟨_, Sum.inr d.nm, DJ2, rfl, sm_lt (by rw [envK_len]; omega), rfl⟩, ?_⟩
          refine ⟨same_mut (same_mut sJ hPn) hDn, upd_mut (ne_of CJ DJ (fun z => nomatch z)) (upd_mut cP CJ), ⟨g2, putE e d.nm v, rest2, gt, ?_, ee, Nat.le_trans (putE_len _ _ _) (by omega), by rw [putK_env]; exact upd_same, upd_mut (ne_of PJ DJ (fun z => nomatch z)) upd_same, gr⟩, _, _, _, _, _, _, rfl⟩
          rw [← List.tail_drop, ← eg]
          rfl
    · rintro σ J1 ⟨sJ, CJ, ⟨g', e, rest, gg, eg, ee, el, DJ, PJ, gr⟩, o4, o5, o6, o7, o8, o9, rfl⟩
      rw [List.drop_length] at gg ee
      cases gg with
      | nil gl =>
        have ee : envG p.handed g [] = e := ee
        have haJ := sJ _ _ b0
        walk_at "go"
        refine ⟨⟨_, SqT.of (sJ _ _ b3)⟩, ?_⟩
        refine for_it b4.walk (fun i σ H' => Same B H' ∧ H' pD = some (.dK (envK e)) ∧ (∃ g2 rest, GoodL (p.lists.drop i) g2 ∧ (∀ l ∈ (p.lists.drop i).map LD.nm, memG p.lists g' l = memG (p.lists.drop i) g2 l) ∧ H' pC = some (.lst ((flat (p.lists.take i) (memG p.lists g')).map .int)) ∧ H' pP = some (.lst rest) ∧ Paired (PartAt B) g2 rest) ∧
          ∃ o4 o5 o6 o7 o8 o9, σ = [some (.ref x), some (.ref a), some (.ref pg), some (.ref pP), o4, o5, o6, o7, o8, o9]) ⟨sJ, DJ, ⟨g', rest, gl, fun _ _ => rfl, CJ, PJ, gr⟩, _, _, _, _, _, _, rfl⟩ (fun i σ H' _ z => SqT.of (z.1 _ _ b3)) ?_ ?_
        · rintro i y σ J3 J4 hi ⟨sJ, DJ, ⟨g2, rest, gg, em, CJ, PJ, gr⟩, o4, o5, o6, o7, o8, o9, rfl⟩ ⟨rfl, ey⟩
          obtain ⟨d, pd, ed, rfl, hd⟩ := TupsL.at b4 ey
          have hd : J4 pd = some (.tup [.str d.nm, .str d.so, .int d.cells, .int d.wo, .int d.em]) := sJ _ _ hd
          walk_at "go"
          have tk : (p.lists.take i).length ≤ 2 := by
            rw [List.length_take]
            have := hL.len
            omega
          obtain ⟨o1, o2, o3', o4'⟩ := hL.ok d (List.mem_of_getElem? ed)
          have lM := memG_len gl hL.nd
          have lC := flat_len (p.lists.take i) (memG p.lists g') fun d' m' => by
            have m' := List.mem_of_mem_take m'
            rw [lM d' m']
            have := hL.ok d' m'
            omega
          refine ⟨x, cR, dx, _, _, rfl, sJ _ _ xB, R.cl, R.cells, rfl, ?_⟩
          refine ⟨.inl ⟨rfl, _, SqL.of CJ⟩, ?_⟩
          refine ⟨sm_sz (Nat.le_of_ble_eq_true rfl), fun z1 m1 => ?_⟩
          refine ⟨_, rfl, _, _, _, rfl, rfl, upd_same, by omega, by omega, sm_sz (by rw [List.length_singleton]; omega), fun z2 m2 => ?_⟩
          have C5 := upd_get (o := .lst (List.replicate d.em.toNat [V.int 0]).flatten) m2 (upd_get (o := .lst [V.int 0]) m1 CJ)
          refine ⟨_, _, _, _, rfl, rfl, C5, upd_same, sm_sz (by rw [rep_flat, List.length_map, List.length_map, List.length_replicate]; omega), ?_⟩
          have pCP : pP ≠ pC := Ne.symm cP
          have C6 : (upd (upd (upd J4 z1 (.lst [.int 0])) z2 (.lst (List.replicate d.em.toNat [V.int 0]).flatten)) pC (.lst ((flat (p.lists.take i) (memG p.lists g')).map V.int ++ (List.replicate d.em.toNat [V.int 0]).flatten))) pC = _ := upd_same
          have k6 : ∀ {b : Addr} {u : HO}, b ≠ pC → J4 b = some u → (upd (upd (upd J4 z1 (.lst [.int 0])) z2 (.lst (List.replicate d.em.toNat [V.int 0]).flatten)) pC (.lst ((flat (p.lists.take i) (memG p.lists g')).map V.int ++ (List.replicate d.em.toNat [V.int 0]).flatten))) b = some u := fun nb e => upd_mut nb (upd_get m2 (upd_get m1 e))
          have s6 : Same B (upd (upd (upd J4 z1 (.lst [.int 0])) z2 (.lst (List.replicate d.em.toNat [V.int 0]).flatten)) pC (.lst ((flat (p.lists.take i) (memG p.lists g')).map V.int ++ (List.replicate d.em.toNat [V.int 0]).flatten))) := same_mut (same_nw (same_nw sJ m1) m2) hCn
          have D6 := k6 (ne_of DJ CJ (fun z => nomatch z)) DJ
          have P6 := k6 pCP PJ
          generalize upd (upd (upd J4 z1 (.lst [.int 0])) z2 (.lst (List.replicate d.em.toNat [V.int 0]).flatten)) pC (.lst ((flat (p.lists.take i) (memG p.lists g')).map V.int ++ (List.replicate d.em.toNat [V.int 0]).flatten)) = J6 at C6 s6 D6 P6 ⊢
          clear k6
          rw [rep_flat, ← List.map_append] at C6
          have snoc := flat_snoc (memG p.lists g') ed
          have dn := drop_cons ed
          have nd' : d.nm ∉ (p.lists.drop (i + 1)).map LD.nm := by
            have := hL.nd
            rw [← List.take_append_drop i p.lists, dn, List.map_append] at this
            exact (List.nodup_cons.mp (List.nodup_append.mp this).2.1).1
          rw [dn] at gg em
          have emd := em d.nm List.mem_cons_self
          refine ⟨_, rfl, x, cR, dx, _, _, rfl, s6 _ _ xB, R.cl, R.cells, rfl, ?_⟩
          refine ⟨.inl ⟨rfl, _, SqL.of C6⟩, ?_⟩
          have lmd := lM d (List.mem_of_getElem? ed)
          have tot : ∀ n : Nat, n ≤ 9 → ((flat (p.lists.take i) (memG p.lists g') ++ List.replicate d.em.toNat 0).map V.int).length + n ≤ sizeLine := fun n hn => sm_sz (by rw [List.length_map, List.length_append, List.length_replicate]; omega)
          walk_at "go"
          refine ite_b (fun c => ?_) (fun c => ?_)
          · have c : d.so = "own" := V.str.inj (of_decide_eq_true c)
            cases gg with
            | cs h l b t => exact absurd c h
            | own h gt =>
              have ex : memG p.lists g' d.nm = List.replicate d.cells.toNat 0 := by
                rw [emd]
                show (if d.so = "own" then (if d.nm = d.nm then List.replicate d.cells.toNat 0 else _) else _) = _
                rw [if_pos c, if_pos rfl]
              refine ⟨sm_sz (Nat.le_of_ble_eq_true rfl), fun z3 m3 => ?_⟩
              refine ⟨_, rfl, _, _, _, rfl, rfl, upd_same, by omega, by omega, sm_sz (by rw [List.length_singleton]; omega), fun z4 m4 => ?_⟩
              have C7 := upd_get (o := .lst (List.replicate d.cells.toNat [V.int 0]).flatten) m4 (upd_get (o := .lst [V.int 0]) m3 C6)
              refine ⟨_, _, _, _, rfl, rfl, C7, upd_same, ?_, ?_⟩
              · rw [rep_flat, List.length_map (as := List.replicate d.cells.toNat 0), List.length_replicate]
                exact tot _ (by omega)
              · refine ⟨same_mut (same_nw (same_nw s6 m3) m4) hCn, upd_mut (ne_of DJ CJ (fun z => nomatch z)) (upd_get m4 (upd_get m3 D6)), ⟨g2, rest, gt, fun l ml => ?_, ?_, upd_mut pCP (upd_get m4 (upd_get m3 P6)), gr⟩, _, _, _, _, _, _, rfl⟩
                · rw [em l (List.mem_cons_of_mem _ ml)]
                  show (if d.so = "own" then (if d.nm = l then _ else memG (p.lists.drop (i + 1)) g2 l) else _) = _
                  rw [if_pos c, if_neg fun e => nd' (by rw [e]; exact ml)]
                · rw [upd_same, rep_flat, ← List.map_append, snoc, ex]
          · have c : ¬ d.so = "own" := fun z => of_decide_eq_false c (congrArg V.str z)
            cases gg with
            | own h gt => exact absurd h c
            | cs h l b gt =>
              rename_i g3 ws
              cases gr with
              | cons h1 gr =>
                rename_i y2 rest2
                obtain ⟨pt, rfl, hpt⟩ : ∃ pt, y2 = .ref pt ∧ B pt = some (.tup (ws.map .int)) := h1
                have ex : memG p.lists g' d.nm = ws := by
                  rw [emd]
                  show (if d.so = "own" then _ else if d.nm = d.nm then ws else _) = _
                  rw [if_neg c, if_pos rfl]
                walk_at "go"
                refine ⟨.inl ⟨rfl, _, SqL.of P6⟩, ?_⟩
                refine ⟨_, _, 0, 0, _, rfl, rfl, P6, by decide, by decide, by simp [seqIndex?], rfl, ?_⟩
                have hpt6 : (upd J6 pP (.lst rest2)) pt = some (.tup (ws.map .int)) := upd_mut (ne_of (s6 _ _ hpt) P6 (fun z => nomatch z)) (s6 _ _ hpt)
                have C61 : (upd J6 pP (.lst rest2)) pC = _ := upd_mut cP C6
                refine ⟨_, _, rfl, Or.inr (SqT.of hpt6), fun z4 m4 => ?_⟩
                have C7 := upd_get (o := .lst (ws.map V.int)) m4 C61
                refine ⟨_, _, _, _, rfl, rfl, C7, upd_same, ?_, ?_⟩
                · rw [List.length_map (as := ws)]
                  exact tot _ (by omega)
                · have D7 := upd_get (o := .lst (ws.map V.int)) m4 (upd_mut (o := .lst rest2) (ne_of D6 P6 (fun z => nomatch z)) D6)
                  refine ⟨same_mut (same_nw (same_mut s6 hPn) m4) hCn, upd_mut (ne_of DJ CJ (fun z => nomatch z)) D7, ⟨g3, rest2, gt, fun l ml => ?_, ?_, upd_mut pCP (upd_get m4 upd_same), gr⟩, _, _, _, _, _, _, rfl⟩
                  · rw [em l (List.mem_cons_of_mem _ ml), memG_cs c, if_neg fun e => nd' (by rw [e]; exact ml)]
                  · rw [upd_same, ← List.map_append, snoc, ex]
        · rintro σ J3 ⟨sJ, DJ, ⟨g2, rest, gg, em, CJ, PJ, gr⟩, o4, o5, o6, o7, o8, o9, rfl⟩
          rw [List.take_length] at CJ
          refine q J3 ⟨x, dx, pD, pC, pG, pM, pL, pW⟩ rfl ⟨sHb.trans sJ, sJ _ _ xB, ?_, ?_, sJ _ _ GB, sJ _ _ MB, sJ _ _ LB, ⟨ws9.reverse, sJ _ _ WB, Paired.rev (Paired.mapP NB.pair fun _ _ z => z.ts (same_ts sJ))⟩, fDn, fCn, fLn, fWn, dG, dM, cL, cW, lW⟩
          · show J3 pD = some (.dK (envK (envG p.handed g [])))
            rw [ee]
            exact DJ
          · show J3 pC = some (.lst ((flat p.lists (memG p.lists (g.drop p.handed.length))).map V.int))
            rw [← eg]
            exact CJ
end
end NW
/-! ## Walks: the law's interpreter begins -/
namespace NW
open PySem PySem.Spec PyProof.Rows L2
set_option pp.maxSteps 150
-- an object's place in a heap
local macro_rules | `(tactic| walk_at "hp") => `(tactic| (show _ = some _; first
  | assumption
  | exact upd_same
  | (refine' upd_get ?n ?h; (case n => assumption); (case h => walk_at "hp"))
  | (refine' same_get ?n ?h; (case n => assumption); (case h => walk_at "hp"))))
-- a heap that has grown
local macro_rules | `(tactic| walk_at "sm") => `(tactic| first
  | assumption
  | exact Same.refl _
  | (refine' same_nw ?n ?h; (case h => assumption); (case n => walk_at "sm"))
  | (refine' Same.trans ?n ?h; (case h => assumption); (case n => walk_at "sm")))
local macro_rules | `(tactic| walk_at "ty") => `(tactic| first
  | exact TyN.int _
  | exact TyN.str _
  | exact TyN.non
  | (refine' TyN.tup ?h; (case h => walk_at "hp"))
  | (refine' TyN.lst ?h; (case h => walk_at "hp")))
-- a test whose answer is known
local macro_rules | `(tactic| walk_at "if") => `(tactic| first
  | (refine iteB (by decide +kernel) ?_)
  | (refine iteN (by decide +kernel) ?_)
  | (refine iteB (by rfl) ?_)
  | (refine iteN (by rfl) ?_)
  | (refine iteB (decide_eq_true (by first | omega | assumption)) ?_)
  | (refine iteN (decide_eq_false (by first | omega | assumption)) ?_)
  | (refine iteB (by simp only [Bool.not_eq_true', Bool.not_eq_false', Bool.and_eq_true, Bool.and_eq_false_iff, Bool.or_eq_true, Bool.or_eq_false_iff, decide_eq_true_eq, decide_eq_false_iff_not]; omega) ?_)
  | (refine iteN (by simp only [Bool.not_eq_true', Bool.not_eq_false', Bool.and_eq_true, Bool.and_eq_false_iff, Bool.or_eq_true, Bool.or_eq_false_iff, decide_eq_true_eq, decide_eq_false_iff_not]; omega) ?_))
-- one step of a reading
local macro_rules | `(tactic| walk_at "s") => `(tactic| first
  | refine ⟨_, rfl, ?_⟩
  | refine ⟨_, _, rfl, rfl, ?_⟩
  | refine And.intro (show wipe _ _ = wipe _ _ by kernel_rfl) ?_
  | refine And.intro rfl ?_
  | (refine' ⟨_, _, _, _, rfl, rfl, SqT.of ?h, ?e, ?_⟩; (case h => walk_at "hp"); (case e => exact rfl))
  | (refine' ⟨_, _, rfl, ?t, ?_⟩; (case t => walk_at "ty"))
  | (refine' ⟨_, _, rfl, SqT.of ?h, ?e, ?_⟩; (case h => walk_at "hp"); (case e => exact rfl))
  | refine ⟨_, _, rfl, ?_⟩
  | (refine' ⟨_, _, _, rfl, rfl, ?h1, ?h2, ?_⟩; (case h1 => walk_at "hp"); (case h2 => walk_at "hp"))
  | (refine' ⟨_, _, _, _, rfl, rfl, SqL.of ?h, ?e, ?_⟩; (case h => walk_at "hp"); (case e => exact rfl))
  | (refine' ⟨_, _, rfl, Or.inr (SqT.of ?h), ?_⟩; (case h => walk_at "hp"))
  | (refine' ⟨_, _, rfl, Or.inr (SqT.of ?h), rfl, rfl, ?_⟩; (case h => walk_at "hp"))
  | (refine' ⟨_, _, rfl, Or.inl (SqL.of ?h), ?_⟩; (case h => walk_at "hp"))
  | refine And.intro (flat_strs _) ?_
  | (refine And.intro (sm_sz (Nat.le_of_ble_eq_true rfl)) ?_; intro p np)
  | walk_at "if"
  | (refine' And.intro ?a ?_; (case a => first | assumption | exact sm_sz (by omega) | omega | exact Or.inr ⟨by omega, by omega⟩ | exact Or.inl ⟨by omega, by omega⟩ | exact ⟨by omega, by omega⟩))
  | refine Or.inl ⟨_, _, _, rfl, ?_⟩
  | refine Or.inr ⟨_, _, _, rfl, ?_⟩
  | (intro Hn sn))
local macro_rules | `(tactic| walk_at "go") => `(tactic| repeat (walk_at "s"))

abbrev s__law_begun : Stmt := topS 93
abbrev N__law_begun : List Str := ["_law_program_here", "_law_handing", "_law_names", "_law_cells", "_law_lists", "_law_parts", "_law_name", "_law_sort", "_law_amount", "_law_worths", "_law_empty"]
abbrev P__law_begun : List Str := ["_law_program_here", "_law_handing"]
theorem sc__law_begun : FnScope N__law_begun P__law_begun (defScope s__law_begun) := ⟨rfl, rfl, rfl, by decide +kernel, rfl, by decide +kernel, by decide +kernel⟩

def sp_law_begun : Sp := fun vs H Q _ => ∃ (p : Prog) (v : V) (g : List Part) (vg : V), vs = [v, vg] ∧ ProgAt H p v ∧ okProg p ∧ okL p.lists ∧ HandAt H g vg ∧ Good p g ∧ ∀ H' a, AmidAt H H' a p.lists (mc0 p g) → Q (.ref a.A) H'
theorem firstOf_len : ∀ {ls : List LD} {m : Str → List Int} {f : Int} {i : Nat} {d : LD}, ls[i]? = some d → (ls.map LD.nm).Nodup → (∀ d ∈ ls, 0 ≤ d.em ∧ 0 ≤ d.cells ∧ (m d.nm).length = d.cells.toNat) → firstOf ls f d.nm = some (f + ((flat (ls.take i) m).length : Int) + d.em)
  | [], _, _, _, _, h, _, _ => by cases h
  | e :: r, m, f, 0, d0, h, _, _ => by
    have h : some e = some d0 := h
    have h := Option.some.inj h
    subst h
    show (if e.nm = e.nm then some (f + e.em) else _) = _
    rw [if_pos rfl]
    show _ = some (f + (([] : List Int).length : Int) + e.em)
    congr 1
    rw [List.length_nil]
    omega
  | e :: r, m, f, i + 1, d, h, nd, hm => by
    have nd := List.nodup_cons.mp nd
    have h : r[i]? = some d := h
    obtain ⟨e0, c0, len⟩ := hm e List.mem_cons_self
    show (if e.nm = d.nm then _ else firstOf r (f + e.em + e.cells) d.nm) = _
    rw [if_neg fun z => nd.1 (by rw [z]; exact List.mem_map_of_mem (List.mem_of_getElem? h)), firstOf_len (m := m) h nd.2 (fun d md => hm d (List.mem_cons_of_mem _ md))]
    show _ = some (f + (((List.replicate e.em.toNat 0 ++ m e.nm) ++ flat (r.take i) m).length : Int) + d.em)
    congr 1
    rw [List.length_append, List.length_append, List.length_replicate, len]
    omega
theorem cut1 {y : V} {r : List V} : cutV (y :: r) (some 1) none = r := by
  unfold cutV
  have e1 : HT.sIx (y :: r).length 0 (some 1) = 1 := by
    have h := HT.sIx_nat (y :: r).length 0 1
    rw [List.length_cons, show min 1 (r.length + 1) = 1 by omega] at h
    exact h
  rw [e1]
  show r.take (r.length + 1 - 1) = r
  rw [Nat.add_sub_cancel, List.take_length]
section
variable {P : Program} {w : World} {K : PySem.W.Frag} {mg : Str → Option Value} {base : Heap}
theorem ok_law_begun (T : Tx mg) (D : DefAt K mg "_law_begun" s__law_begun) (c__law_todo : C8.Cal P w K mg base 6 "_law_todo" sp_law_todo []) : C8.Cal P w K mg base 7 "_law_begun" sp_law_begun [] := by
  refine D.cal (k := 6) sc__law_begun (fun _ _ _ _ _ _ us hl => match us, hl with | [_, _], _ => rfl) (fun vs H Q E h => ?_) (fun f cdv A outer s H vs Q E hr h => ⟨_, (pss_cons (ps_asg (pe_tup (pa_cons pe_dnewK (pa_cons (pe_lst pa_nil) (pa_cons pe_dnewK (pa_cons (pe_callTy call_list_of (by rfl) T.list_ (by decide +kernel) (pa_cons (pv 1) pa_nil)) pa_nil))))) (pg_tup rfl (pgs_cons (pg_name (i := 2) sc__law_begun.nd rfl (Or.inl rfl)) (pgs_cons (pg_name (i := 3) sc__law_begun.nd rfl (Or.inl rfl)) (pgs_cons (pg_name (i := 4) sc__law_begun.nd rfl (Or.inl rfl)) (pgs_cons (pg_name (i := 5) sc__law_begun.nd rfl (Or.inl rfl)) pgs_nil))))))
    (pss_cons (ps_for PassesOwn.never rfl (pi_tup (pe_ix ix_tup (pv 0) pe_int (fun _ _ => rfl))) (pg_tup rfl (pgs_cons (pg_name (i := 6) sc__law_begun.nd rfl (Or.inl rfl)) (pgs_cons (pg_name (i := 7) sc__law_begun.nd rfl (Or.inl rfl)) (pgs_cons (pg_name (i := 8) sc__law_begun.nd rfl (Or.inl rfl)) pgs_nil))))
    (pss_one (ps_asg (pe_tup (pa_cons (pe_ix ix_list (pv 5) pe_int (fun _ _ => rfl)) (pa_cons (pe_slice sl_list (pv 5) (po_some pe_int) po_none) pa_nil))) (pg_tup rfl (pgs_cons (pg_sub (pv 2) (pv 6) (set_dict (hu_of hr))) (pgs_cons (pg_name (i := 5) sc__law_begun.nd rfl (Or.inl rfl)) pgs_nil))))))
    (pss_cons (ps_for PassesOwn.never rfl (pi_tup (pe_ix ix_tup (pv 0) pe_int (fun _ _ => rfl))) (pg_tup rfl (pgs_cons (pg_name (i := 6) sc__law_begun.nd rfl (Or.inl rfl)) (pgs_cons (pg_name (i := 7) sc__law_begun.nd rfl (Or.inl rfl)) (pgs_cons (pg_name (i := 8) sc__law_begun.nd rfl (Or.inl rfl)) (pgs_cons (pg_name (i := 9) sc__law_begun.nd rfl (Or.inl rfl)) (pgs_cons (pg_name (i := 10) sc__law_begun.nd rfl (Or.inl rfl)) pgs_nil))))))
    (pss_cons (ps_set (i := 3) sc__law_begun.nd rfl (Or.inl rfl) (pe_op op_cat (pv 3) (pe_op op_rep (pe_lst (pa_cons pe_int pa_nil)) (pv 10))))
    (pss_cons (ps_dput (hu_of hr) (pv 4) (pv 6) (pe_tup (pa_cons (pe_callB call_len_seq (by rfl) T.len_ PySem.boot_len (pa_cons (pv 3) pa_nil)) (pa_cons (pv 8) pa_nil))) rfl)
    (pss_one (ps_if (pt_cmpR op_eq (pv 7) pe_str (nomark _)) (pss_one (ps_set (i := 3) sc__law_begun.nd rfl (Or.inl rfl) (pe_op op_cat (pv 3) (pe_op op_rep (pe_lst (pa_cons pe_int pa_nil)) (pv 8)))))
    (pss_one (ps_par (i := 3) (j := 5) rfl sc__law_begun.nd rfl rfl (by decide) rfl rfl (pa_cons (pe_op op_cat (pv 3) (pe_callTy call_list_of (by rfl) T.list_ (by decide +kernel) (pa_cons (pe_ix ix_list (pv 5) pe_int (fun _ _ => rfl)) pa_nil))) (pa_cons (pe_slice sl_list (pv 5) (po_some pe_int) po_none) pa_nil)) (by rfl))))))))
    (pss_one (ps_ret (pe_lst (pa_cons (pv 2) (pa_cons (pv 3) (pa_cons (pv 4) (pa_cons (C8.pe_c c__law_todo hr (by omega) (by rfl) (pa_cons (pe_ix ix_tup (pv 0) pe_int (fun _ _ => rfl)) (pa_cons pe_int pa_nil))) (pa_cons (pe_lst pa_nil) pa_nil))))))))))), ?_⟩)
  · obtain ⟨p, v, g, vg, rfl, _⟩ := h
    rfl
  · obtain ⟨p, v, g, vg, rfl, ⟨a, ah, al, ar, at_, hs, ls, rs, rfl, h0, h1, h2, h3, h4, h5, h6, h7⟩, ho, hL, ⟨pg, gs, rfl, hg, hgs⟩, hG, q⟩ := h
    walk_at "go"
    rename_i pD nD pC nC pG nG pP nP pT nT
    have s0 : Same H (upd (upd (upd (upd (upd H pD (.dK [])) pC (.lst [])) pG (.dK [])) pP (.lst gs)) pT (.tup [.ref pD, .ref pC, .ref pG, .ref pP])) := by walk_at "sm"
    have hD0 := upd_get (o := .tup [.ref pD, .ref pC, .ref pG, .ref pP]) nT (upd_get (o := .lst gs) nP (upd_get (o := .dK []) nG (upd_get (o := .lst []) nC (upd_same (H := H) (a := pD) (o := .dK [])))))
    have hC0 := upd_get (o := .tup [.ref pD, .ref pC, .ref pG, .ref pP]) nT (upd_get (o := .lst gs) nP (upd_get (o := .dK []) nG (upd_same (H := upd H pD (.dK [])) (a := pC) (o := .lst []))))
    have hG0 := upd_get (o := .tup [.ref pD, .ref pC, .ref pG, .ref pP]) nT (upd_get (o := .lst gs) nP (upd_same (H := upd (upd H pD (.dK [])) pC (.lst [])) (a := pG) (o := .dK [])))
    have hP0 := upd_get (o := .tup [.ref pD, .ref pC, .ref pG, .ref pP]) nT (upd_same (H := upd (upd (upd H pD (.dK [])) pC (.lst [])) pG (.dK [])) (a := pP) (o := .lst gs))
    have fC : H pC = none := none_of (same_nw (Same.refl _) nD) nC
    have fG : H pG = none := none_of (same_nw (same_nw (Same.refl _) nD) nC) nG
    have dG : pD ≠ pG := ne_of_none (upd_get (o := .lst []) nC (upd_same (H := H) (a := pD) (o := .dK []))) nG
    generalize upd (upd (upd (upd (upd H pD (.dK [])) pC (.lst [])) pG (.dK [])) pP (.lst gs)) pT (.tup [.ref pD, .ref pC, .ref pG, .ref pP]) = HA at s0 hD0 hC0 hG0 hP0 ⊢
    clear nC nG nP nT
    refine ⟨⟨_, SqT.of (s0 _ _ h1)⟩, ?_⟩
    refine for_it h2.walk (fun i σ H' => Same H H' ∧ H' pC = some (.lst []) ∧ H' pG = some (.dK []) ∧ (∃ pP g' e rest, GoodP (p.handed.drop i) p.lists g' ∧ g' = g.drop i ∧ envG p.handed g [] = envG (p.handed.drop i) g' e ∧ e.length ≤ i ∧ H' pD = some (.dK (envK e)) ∧ H' pP = some (.lst rest) ∧ Paired (PartAt H) g' rest ∧
      ∃ o6 o7 o8 o9 o10, σ = [some (.ref a), some (.ref pg), some (.ref pD), some (.ref pC), some (.ref pG), some (.ref pP), o6, o7, o8, o9, o10])) ⟨s0, hC0, hG0, pP, g, [], gs, hG, rfl, rfl, Nat.le_refl _, hD0, hP0, hgs, _, _, _, _, _, rfl⟩ (fun i σ H' _ z => SqT.of (z.1 _ _ h1)) ?_ ?_
    · rintro i y σ J1 J2 hi ⟨sJ, CJ, GJ, pP, g', e, rest, gg, eg, ee, el, DJ, PJ, gr, o6, o7, o8, o9, o10, rfl⟩ ⟨rfl, ey⟩
      obtain ⟨d, pd, ed, rfl, hd⟩ := TupsL.at h2 ey
      have hd : J2 pd = some (.tup [.str d.nm, .str d.so, .int d.sz]) := sJ _ _ hd
      rw [drop_cons ed] at gg ee
      cases gg with
      | w bi gt =>
        rename_i g2 v
        cases gr with
        | cons h1' gr =>
          rename_i y2 rest2
          have h1' : y2 = .int v := h1'
          subst h1'
          walk_at "go"
          refine ⟨pP, _, 0, _, rfl, rfl, SqL.of PJ, atI0, ?_⟩
          walk_at "go"
          refine ⟨pP, _, rfl, SqL.of PJ, fun p8 n8 => ?_⟩
          have n8D := ne_of_none DJ n8
          have s8 : Same J2 (upd J2 p8 (.lst (cutV (.int v :: rest2) (some 1) none))) := same_nw (Same.refl _) n8
          have h8 : (upd J2 p8 (.lst (cutV (.int v :: rest2) (some 1) none))) p8 = some (.lst rest2) := by rw [upd_same, cut1]
          generalize upd J2 p8 (.lst (cutV (.int v :: rest2) (some 1) none)) = J3 at s8 h8 ⊢
          walk_at "go"
          rename_i p9 n9
          have s9 : Same J2 (upd J3 p9 (.tup [.int v, .ref p8])) := same_nw s8 n9
          have lh := ho.nh
          have DJ9 := s9 _ _ DJ
          refine ⟨pD, _, rfl, .inl ⟨_, Sum.inr d.nm, DJ9, rfl, sm_lt (by rw [envK_len]; omega), rfl⟩, _, _, rfl, ?_⟩
          refine ⟨rfl, ?_⟩
          refine ⟨same_mut (sJ.trans s9) nD, upd_mut (ne_of CJ DJ (fun z => nomatch z)) (s9 _ _ CJ), upd_mut (Ne.symm dG) (s9 _ _ GJ), p8, g2, putE e d.nm v, rest2, gt, ?_, ee, Nat.le_trans (putE_len _ _ _) (by omega), by rw [putK_env]; exact upd_same, upd_mut (Ne.symm n8D) (upd_get n9 h8), gr, _, _, _, _, _, rfl⟩
          rw [← List.tail_drop, ← eg]
          rfl
    · rintro σ J1 ⟨sJ, CJ, GJ, pP, g', e, rest, gg, eg, ee, el, DJ, PJ, gr, o6, o7, o8, o9, o10, rfl⟩
      rw [List.drop_length] at gg ee
      cases gg with
      | nil gl =>
        have ee : envG p.handed g [] = e := ee
        have haJ := sJ _ _ h0
        walk_at "go"
        refine ⟨⟨_, SqT.of (sJ _ _ h3)⟩, ?_⟩
        have lM := memG_len gl hL.nd
        have hm3 : ∀ d ∈ p.lists, 0 ≤ d.em ∧ 0 ≤ d.cells ∧ (memG p.lists g' d.nm).length = d.cells.toNat := fun d m => ⟨(hL.ok d m).1, by have := (hL.ok d m).2.2.1; omega, lM d m⟩
        refine for_it h4.walk (fun i σ H' => Same H H' ∧ H' pD = some (.dK (envK e)) ∧ ∃ pC pP g2 rest ks, H pC = none ∧ GoodL (p.lists.drop i) g2 ∧ (∀ l ∈ (p.lists.drop i).map LD.nm, memG p.lists g' l = memG (p.lists.drop i) g2 l) ∧ H' pC = some (.lst ((flat (p.lists.take i) (memG p.lists g')).map .int)) ∧ H' pG = some (.dK ks) ∧ ks.length ≤ i ∧
          (∀ l ∈ (p.lists.take i).map LD.nm, ∃ q f d, d ∈ p.lists ∧ d.nm = l ∧ valV ks (Sum.inr l) = some (.ref q) ∧ firstOf p.lists 0 l = some f ∧ H' q = some (.tup [.int f, .int d.cells])) ∧
          H' pP = some (.lst rest) ∧ Paired (PartAt H) g2 rest ∧
          ∃ o6 o7 o8 o9 o10, σ = [some (.ref a), some (.ref pg), some (.ref pD), some (.ref pC), some (.ref pG), some (.ref pP), o6, o7, o8, o9, o10]) ⟨sJ, DJ, pC, pP, g', rest, [], fC, gl, fun _ _ => rfl, CJ, GJ, Nat.le_refl _, fun _ m => (nomatch m), PJ, gr, _, _, _, _, _, rfl⟩ (fun i σ H' _ z => SqT.of (z.1 _ _ h3)) ?_ ?_
        · rintro i y σ J3 J4 hi ⟨sJ, DJ, pC, pP, g2, rest, ks, fC, gg, em, CJ, GJ, lk, gk, PJ, gr, o6, o7, o8, o9, o10, rfl⟩ ⟨rfl, ey⟩
          obtain ⟨d, pd, ed, rfl, hd⟩ := TupsL.at h4 ey
          have hd : J4 pd = some (.tup [.str d.nm, .str d.so, .int d.cells, .int d.wo, .int d.em]) := sJ _ _ hd
          have md := List.mem_of_getElem? ed
          obtain ⟨o1, o2, o3', o4'⟩ := hL.ok d md
          have tk : (p.lists.take i).length ≤ 2 := by
            rw [List.length_take]
            have := hL.len
            omega
          have lC := flat_len (p.lists.take i) (memG p.lists g') fun d' m' => by
            have m' := List.mem_of_mem_take m'
            rw [lM d' m']
            have := hL.ok d' m'
            omega
          walk_at "go"
          rename_i z1 m1
          refine ⟨z1, _, _, rfl, rfl, upd_same, by omega, by omega, sm_sz (by rw [List.length_singleton]; omega), fun z2 m2 => ?_⟩
          have C5 := upd_get (o := .lst (List.replicate d.em.toNat [V.int 0]).flatten) m2 (upd_get (o := .lst [V.int 0]) m1 CJ)
          refine ⟨pC, z2, _, _, rfl, rfl, C5, upd_same, sm_sz (by rw [rep_flat, List.length_map, List.length_map, List.length_replicate]; omega), fun pC2 n2 => ?_⟩
          have s6 : Same J4 (upd (upd (upd J4 z1 (.lst [.int 0])) z2 (.lst (List.replicate d.em.toNat [V.int 0]).flatten)) pC2 (.lst ((flat (p.lists.take i) (memG p.lists g')).map V.int ++ (List.replicate d.em.toNat [V.int 0]).flatten))) := by walk_at "sm"
          have C6 : (upd (upd (upd J4 z1 (.lst [.int 0])) z2 (.lst (List.replicate d.em.toNat [V.int 0]).flatten)) pC2 (.lst ((flat (p.lists.take i) (memG p.lists g')).map V.int ++ (List.replicate d.em.toNat [V.int 0]).flatten))) pC2 = some (.lst ((flat (p.lists.take i) (memG p.lists g') ++ List.replicate d.em.toNat 0).map V.int)) := by
            rw [upd_same, rep_flat, List.map_append]
          have fC2 : H pC2 = none := none_of (sJ.trans (same_nw (same_nw (Same.refl _) m1) m2)) n2
          generalize upd (upd (upd J4 z1 (.lst [.int 0])) z2 (.lst (List.replicate d.em.toNat [V.int 0]).flatten)) pC2 (.lst ((flat (p.lists.take i) (memG p.lists g')).map V.int ++ (List.replicate d.em.toNat [V.int 0]).flatten)) = J6 at s6 C6 ⊢
          have snoc := flat_snoc (memG p.lists g') ed
          have dn := drop_cons ed
          have nd' : d.nm ∉ (p.lists.drop (i + 1)).map LD.nm := by
            have := hL.nd
            rw [← List.take_append_drop i p.lists, dn, List.map_append] at this
            exact (List.nodup_cons.mp (List.nodup_append.mp this).2.1).1
          rw [dn] at gg em
          have emd := em d.nm List.mem_cons_self
          have lmd := lM d md
          have fo := firstOf_len (f := 0) ed hL.nd hm3
          have tot : ∀ n : Nat, n ≤ 9 → ((flat (p.lists.take i) (memG p.lists g') ++ List.replicate d.em.toNat 0).map V.int).length + n ≤ sizeLine := fun n hn => sm_sz (by rw [List.length_map, List.length_append, List.length_replicate]; omega)
          walk_at "go"
          rename_i q1 m5
          have s7 : Same J4 (upd J6 q1 (.tup [.int (((flat (p.lists.take i) (memG p.lists g') ++ List.replicate d.em.toNat 0).map V.int).length : Int), .int d.cells])) := same_nw s6 m5
          have h7 : (upd J6 q1 (.tup [.int (((flat (p.lists.take i) (memG p.lists g') ++ List.replicate d.em.toNat 0).map V.int).length : Int), .int d.cells])) q1 = some (.tup [.int (0 + ((flat (p.lists.take i) (memG p.lists g')).length : Int) + d.em), .int d.cells]) := by
            rw [upd_same, List.length_map, List.length_append, List.length_replicate]
            congr 4
            omega
          have C7 := upd_get (o := .tup [.int (((flat (p.lists.take i) (memG p.lists g') ++ List.replicate d.em.toNat 0).map V.int).length : Int), .int d.cells]) m5 C6
          have fq : H q1 = none := none_of (sJ.trans s6) m5
          generalize upd J6 q1 (.tup [.int (((flat (p.lists.take i) (memG p.lists g') ++ List.replicate d.em.toNat 0).map V.int).length : Int), .int d.cells]) = J7 at s7 h7 C7 ⊢
          have G7 := s7 _ _ GJ
          refine ⟨pG, _, rfl, .inl ⟨ks, Sum.inr d.nm, G7, rfl, sm_lt (by have := hL.len; omega), rfl⟩, ?_⟩
          have t8 : TS J7 (upd J7 pG (.dK (putK ks (Sum.inr d.nm) (.ref q1)))) := ts_mut (TS.refl _) G7 (fun _ z => nomatch z)
          have s8 : Same H (upd J7 pG (.dK (putK ks (Sum.inr d.nm) (.ref q1)))) := same_mut (sJ.trans s7) fG
          have k8 : ∀ {b : Addr} {xs : List V}, J7 b = some (.lst xs) → (upd J7 pG (.dK (putK ks (Sum.inr d.nm) (.ref q1)))) b = some (.lst xs) := fun e => upd_mut (ne_of e G7 (fun z => nomatch z)) e
          have D8 : (upd J7 pG (.dK (putK ks (Sum.inr d.nm) (.ref q1)))) pD = some (.dK (envK e)) := upd_mut dG (s7 _ _ DJ)
          have G8 : (upd J7 pG (.dK (putK ks (Sum.inr d.nm) (.ref q1)))) pG = some (.dK (putK ks (Sum.inr d.nm) (.ref q1))) := upd_same
          have C8' := k8 C7
          have P8 := k8 (s7 _ _ PJ)
          have q8 := t8 _ _ h7
          have gk8 : ∀ l ∈ (p.lists.take (i + 1)).map LD.nm, ∃ q f d', d' ∈ p.lists ∧ d'.nm = l ∧ valV (putK ks (Sum.inr d.nm) (.ref q1)) (Sum.inr l) = some (.ref q) ∧ firstOf p.lists 0 l = some f ∧ (upd J7 pG (.dK (putK ks (Sum.inr d.nm) (.ref q1)))) q = some (.tup [.int f, .int d'.cells]) := by
            intro l ml
            rw [take_snocR ed, List.map_append] at ml
            rcases List.mem_append.mp ml with ml | ml
            · obtain ⟨q, f, d', e1, e2, e3, e4, e5⟩ := gk l ml
              refine ⟨q, f, d', e1, e2, ?_, e4, t8 _ _ (s7 _ _ e5)⟩
              rw [valV_put, if_neg (fun z => nd_take hL.nd ed (by rw [← Sum.inr.inj z]; exact ml))]
              exact e3
            · obtain rfl : l = d.nm := List.mem_singleton.mp ml
              refine ⟨q1, _, d, md, rfl, ?_, fo, q8⟩
              rw [valV_put, if_pos rfl]
          have lk8 : (putK ks (Sum.inr d.nm) (.ref q1)).length ≤ i + 1 := by
            unfold putK
            split
            · rw [List.length_map]
              omega
            · rw [List.length_append, List.length_singleton]
              omega
          generalize upd J7 pG (.dK (putK ks (Sum.inr d.nm) (.ref q1))) = J8 at t8 s8 k8 D8 G8 C8' P8 q8 gk8 ⊢
          generalize putK ks (Sum.inr d.nm) (.ref q1) = ks8 at G8 gk8 lk8
          walk_at "go"
          refine ite_b (fun c => ?_) (fun c => ?_)
          · have c : d.so = "own" := V.str.inj (of_decide_eq_true c)
            cases gg with
            | cs h l b t => exact absurd c h
            | own h gt =>
              have ex : memG p.lists g' d.nm = List.replicate d.cells.toNat 0 := by
                rw [emd]
                show (if d.so = "own" then (if d.nm = d.nm then List.replicate d.cells.toNat 0 else _) else _) = _
                rw [if_pos c, if_pos rfl]
              walk_at "go"
              rename_i z3 m3
              refine ⟨z3, _, _, rfl, rfl, upd_same, by omega, by omega, sm_sz (by rw [List.length_singleton]; omega), fun z4 m4 => ?_⟩
              have C9 := upd_get (o := .lst (List.replicate d.cells.toNat [V.int 0]).flatten) m4 (upd_get (o := .lst [V.int 0]) m3 C8')
              refine ⟨pC2, z4, _, _, rfl, rfl, C9, upd_same, ?_, fun p9 m9 => ?_⟩
              · rw [rep_flat, List.length_map (as := List.replicate d.cells.toNat 0), List.length_replicate]
                exact tot _ (by omega)
              · have up : ∀ {b : Addr} {u : HO}, J8 b = some u → (upd (upd (upd J8 z3 (.lst [V.int 0])) z4 (.lst (List.replicate d.cells.toNat [V.int 0]).flatten)) p9 (.lst (((flat (p.lists.take i) (memG p.lists g') ++ List.replicate d.em.toNat 0).map V.int) ++ (List.replicate d.cells.toNat [V.int 0]).flatten))) b = some u := fun e => upd_get m9 (upd_get m4 (upd_get m3 e))
                have sN : Same J8 (upd (upd (upd J8 z3 (.lst [V.int 0])) z4 (.lst (List.replicate d.cells.toNat [V.int 0]).flatten)) p9 (.lst (((flat (p.lists.take i) (memG p.lists g') ++ List.replicate d.em.toNat 0).map V.int) ++ (List.replicate d.cells.toNat [V.int 0]).flatten))) := fun _ _ e => up e
                refine ⟨s8.trans sN, up D8, p9, pP, g2, rest, ks8, none_of (s8.trans (same_nw (same_nw (Same.refl _) m3) m4)) m9, gt, fun l ml => ?_, ?_, up G8, lk8, fun l ml => ?_, up P8, gr, _, _, _, _, _, rfl⟩
                · rw [em l (List.mem_cons_of_mem _ ml)]
                  show (if d.so = "own" then (if d.nm = l then _ else memG (p.lists.drop (i + 1)) g2 l) else _) = _
                  rw [if_pos c, if_neg fun e => nd' (by rw [e]; exact ml)]
                · rw [upd_same, rep_flat, ← List.map_append, snoc, ex]
                · obtain ⟨q, f, d', e1, e2, e3, e4, e5⟩ := gk8 l ml
                  exact ⟨q, f, d', e1, e2, e3, e4, up e5⟩
          · have c : ¬ d.so = "own" := fun z => of_decide_eq_false c (congrArg V.str z)
            cases gg with
            | own h gt => exact absurd h c
            | cs h l b gt =>
              rename_i g3 ws
              cases gr with
              | cons h1 gr =>
                rename_i y2 rest2
                obtain ⟨pt, rfl, hpt⟩ : ∃ pt, y2 = .ref pt ∧ H pt = some (.tup (ws.map .int)) := h1
                have ex : memG p.lists g' d.nm = ws := by
                  rw [emd]
                  show (if d.so = "own" then _ else if d.nm = d.nm then ws else _) = _
                  rw [if_neg c, if_pos rfl]
                have hpt8 := s8 _ _ hpt
                walk_at "go"
                refine ⟨pP, _, 0, _, rfl, rfl, SqL.of P8, atI0, ?_⟩
                walk_at "go"
                rename_i z4 m4
                have C9 := upd_get (o := .lst (ws.map V.int)) m4 C8'
                refine ⟨pC2, z4, _, _, rfl, rfl, C9, upd_same, ?_, fun p9 m9 => ?_⟩
                · rw [List.length_map (as := ws)]
                  exact tot _ (by omega)
                · have sN : Same J8 (upd (upd J8 z4 (.lst (ws.map V.int))) p9 (.lst (((flat (p.lists.take i) (memG p.lists g') ++ List.replicate d.em.toNat 0).map V.int) ++ ws.map V.int))) := same_nw (same_nw (Same.refl _) m4) m9
                  have hp9 : (upd (upd J8 z4 (.lst (ws.map V.int))) p9 (.lst (((flat (p.lists.take i) (memG p.lists g') ++ List.replicate d.em.toNat 0).map V.int) ++ ws.map V.int))) p9 = _ := upd_same
                  have f9 : H p9 = none := none_of (s8.trans (same_nw (Same.refl _) m4)) m9
                  generalize upd (upd J8 z4 (.lst (ws.map V.int))) p9 (.lst (((flat (p.lists.take i) (memG p.lists g') ++ List.replicate d.em.toNat 0).map V.int) ++ ws.map V.int)) = J9 at sN hp9 ⊢
                  walk_at "go"
                  refine ⟨pP, _, rfl, SqL.of (sN _ _ P8), fun p10 m10 => ?_⟩
                  have h10 : (upd J9 p10 (.lst (cutV (V.ref pt :: rest2) (some 1) none))) p10 = some (.lst rest2) := by rw [upd_same, cut1]
                  have s10 : Same J9 (upd J9 p10 (.lst (cutV (V.ref pt :: rest2) (some 1) none))) := same_nw (Same.refl _) m10
                  have s89 := sN.trans s10
                  have hp10 := s10 _ _ hp9
                  generalize upd J9 p10 (.lst (cutV (V.ref pt :: rest2) (some 1) none)) = J10 at h10 s10 s89 hp10 ⊢
                  refine ⟨_, _, rfl, s8.trans s89, s89 _ _ D8, p9, p10, g3, rest2, ks8, f9, gt, fun l ml => ?_, ?_, s89 _ _ G8, lk8, fun l ml => ?_, h10, gr, _, _, _, _, _, rfl⟩
                  · rw [em l (List.mem_cons_of_mem _ ml), memG_cs c, if_neg fun e => nd' (by rw [e]; exact ml)]
                  · rw [hp10, ← List.map_append, snoc, ex]
                  · obtain ⟨q, f, d', e1, e2, e3, e4, e5⟩ := gk8 l ml
                    exact ⟨q, f, d', e1, e2, e3, e4, s89 _ _ e5⟩
        · rintro σ J3 ⟨sJ, DJ, pC, pP, g2, rest, ks, fC, gg, em, CJ, GJ, lk, gk, PJ, gr, o6, o7, o8, o9, o10, rfl⟩
          rw [List.take_length] at CJ gk
          have haJ := sJ _ _ h0
          walk_at "go"
          refine ⟨p.rows, .ref ar, 0, p.lists.map LD.nm, rfl, ⟨ar, rs, rfl, sJ _ _ h5, h6.ts (same_ts sJ)⟩, ho.rw, ho.rl, fun H5 pW ws s5 nW hW pe => ?_⟩
          walk_at "go"
          rename_i pL nL pA nA
          have s6 : Same H5 (upd (upd H5 pL (.lst [])) pA (.lst [.ref pD, .ref pC, .ref pG, .ref pW, .ref pL])) := same_nw (same_nw (Same.refl _) nL) nA
          have s36 := s5.trans s6
          have CJ5 := s5 _ _ CJ
          refine q _ ⟨pA, pD, pC, pG, pW, pL⟩ ⟨sJ.trans s36, upd_same, ?_, ?_, ⟨ks, s36 _ _ GJ, ?_⟩, ⟨ws, s6 _ _ hW, Paired.mapP pe fun _ _ z => z.ts (same_ts s6)⟩, upd_get nA upd_same, none_of (sJ.trans s5) (none_of (same_nw (Same.refl _) nL) nA), nD, fC, none_of sJ nW, none_of (sJ.trans s5) nL, dG, ?_, ne_of_none CJ nW, ne_of_none CJ5 nL, ?_⟩
          · show _ = some (HO.dK (envK (envG p.handed g [])))
            rw [ee]
            exact s36 _ _ DJ
          · show _ = some (HO.lst ((flat p.lists (memG p.lists (g.drop p.handed.length))).map V.int))
            rw [← eg]
            exact s36 _ _ CJ
          · intro l ml
            obtain ⟨q, f, d, m1, m2, m3, m4, m5⟩ := gk l ml
            exact ⟨q, f, d, m1, m2, m3, m4, s36 _ _ m5⟩
          · exact Ne.symm (ne_of_none (upd_get (o := .lst []) nL hW) nA)
          · exact Ne.symm (ne_of_none hW nL)
end
end NW
/-! ## Walks: the runner's steps -/
namespace NW
open PySem PySem.Spec PyProof.Rows L2
set_option pp.maxSteps 150
-- an object's place in a heap
local macro_rules | `(tactic| walk_at "hp") => `(tactic| (show _ = some _; first
  | assumption
  | exact upd_same
  | (refine' upd_get ?n ?h; (case n => assumption); (case h => walk_at "hp"))
  | (refine' same_get ?n ?h; (case n => assumption); (case h => walk_at "hp"))))
-- a heap that has grown
local macro_rules | `(tactic| walk_at "sm") => `(tactic| first
  | assumption
  | exact Same.refl _
  | (refine' same_nw ?n ?h; (case h => assumption); (case n => walk_at "sm"))
  | (refine' Same.trans ?n ?h; (case h => assumption); (case n => walk_at "sm")))
local macro_rules | `(tactic| walk_at "ty") => `(tactic| first
  | exact TyN.int _
  | exact TyN.str _
  | exact TyN.non
  | (refine' TyN.tup ?h; (case h => walk_at "hp"))
  | (refine' TyN.lst ?h; (case h => walk_at "hp")))
-- a test whose answer is known
local macro_rules | `(tactic| walk_at "if") => `(tactic| first
  | (refine iteB (by decide +kernel) ?_)
  | (refine iteN (by decide +kernel) ?_)
  | (refine iteB (by rfl) ?_)
  | (refine iteN (by rfl) ?_)
  | (refine iteB (decide_eq_true (by first | omega | assumption)) ?_)
  | (refine iteN (decide_eq_false (by first | omega | assumption)) ?_)
  | (refine iteB (by simp only [Bool.not_eq_true', Bool.not_eq_false', Bool.and_eq_true, Bool.and_eq_false_iff, Bool.or_eq_true, Bool.or_eq_false_iff, decide_eq_true_eq, decide_eq_false_iff_not]; omega) ?_)
  | (refine iteN (by simp only [Bool.not_eq_true', Bool.not_eq_false', Bool.and_eq_true, Bool.and_eq_false_iff, Bool.or_eq_true, Bool.or_eq_false_iff, decide_eq_true_eq, decide_eq_false_iff_not]; omega) ?_))
-- one step of a reading
local macro_rules | `(tactic| walk_at "s") => `(tactic| first
  | refine ⟨_, rfl, ?_⟩
  | refine ⟨_, _, rfl, rfl, ?_⟩
  | refine And.intro (show wipe _ _ = wipe _ _ by kernel_rfl) ?_
  | refine And.intro rfl ?_
  | (refine' ⟨_, _, _, _, rfl, rfl, SqT.of ?h, ?e, ?_⟩; (case h => walk_at "hp"); (case e => exact rfl))
  | (refine' ⟨_, _, rfl, ?t, ?_⟩; (case t => walk_at "ty"))
  | (refine' ⟨_, _, rfl, SqT.of ?h, ?e, ?_⟩; (case h => walk_at "hp"); (case e => exact rfl))
  | refine ⟨_, _, rfl, ?_⟩
  | (refine' ⟨_, _, _, rfl, rfl, ?h1, ?h2, ?_⟩; (case h1 => walk_at "hp"); (case h2 => walk_at "hp"))
  | (refine' ⟨_, _, _, _, rfl, rfl, SqL.of ?h, ?e, ?_⟩; (case h => walk_at "hp"); (case e => exact rfl))
  | (refine' ⟨_, _, rfl, Or.inr (SqT.of ?h), ?_⟩; (case h => walk_at "hp"))
  | (refine' ⟨_, _, rfl, Or.inr (SqT.of ?h), rfl, rfl, ?_⟩; (case h => walk_at "hp"))
  | (refine' ⟨_, _, rfl, Or.inl (SqL.of ?h), ?_⟩; (case h => walk_at "hp"))
  | refine And.intro (flat_strs _) ?_
  | (refine And.intro (sm_sz (Nat.le_of_ble_eq_true rfl)) ?_; intro p np)
  | walk_at "if"
  | (refine' And.intro ?a ?_; (case a => first | assumption | exact sm_sz (by omega) | omega | exact Or.inr ⟨by omega, by omega⟩ | exact Or.inl ⟨by omega, by omega⟩ | exact ⟨by omega, by omega⟩))
  | refine Or.inl ⟨_, _, _, rfl, ?_⟩
  | refine Or.inr ⟨_, _, _, rfl, ?_⟩
  | (intro Hn sn))
local macro_rules | `(tactic| walk_at "go") => `(tactic| repeat (walk_at "s"))

abbrev s_Runner_touch : Stmt := inClass (topS 46) 6
abbrev N_Runner_touch : List Str := ["self", "row", "cell"]
abbrev P_Runner_touch : List Str := ["self", "row"]
theorem sc_Runner_touch : FnScope N_Runner_touch P_Runner_touch (defScope s_Runner_touch) := ⟨rfl, rfl, rfl, by decide +kernel, rfl, by decide +kernel, by decide +kernel⟩

abbrev s_Runner_done_one : Stmt := inClass (topS 46) 5
abbrev N_Runner_done_one : List Str := ["self", "found", "place", "row", "parts", "price", "cell", "one", "other"]
abbrev P_Runner_done_one : List Str := ["self"]
theorem sc_Runner_done_one : FnScope N_Runner_done_one P_Runner_done_one (defScope s_Runner_done_one) := ⟨rfl, rfl, rfl, by decide +kernel, rfl, by decide +kernel, by decide +kernel⟩

theorem okL.at {ls : List LD} {s : Mc} (o : okL ls) (m : okM ls s) : ∀ d ∈ ls, 0 ≤ d.em ∧ 0 ≤ d.cells ∧ (s.mem d.nm).length = d.cells.toNat := fun d md => by
  obtain ⟨h1, h2, h3, h4⟩ := o.ok d md
  exact ⟨h1, by omega, m.len d md⟩
/-- a cell that is there: its place, what stands there, what a write leaves -/
theorem cel_at {ls : List LD} {s : Mc} {l : Str} {a : Opd} (o : okL ls) (m : okM ls s) (hl : l ∈ ls.map LD.nm) (h0 : 0 ≤ wor s.env a) :
    (cel s l a = none ∧ plc ls (cel s l a) = none) ∨ ∃ (i p : Nat), cel s l a = some (l, i) ∧ plc ls (cel s l a) = some (p : Int) ∧ (flat ls s.mem)[p]? = some (memGet s.mem (cel s l a)) ∧ ∀ v, flat ls (memSet s.mem (cel s l a) v) = (flat ls s.mem).set p v := by
  unfold cel
  by_cases c : wor s.env a < ((s.mem l).length : Int)
  · rw [if_pos c]
    have hi : (wor s.env a).toNat < (s.mem l).length := by omega
    obtain ⟨p, a1, a2, a3⟩ := flat_at (f := 0) (o.at m) hl hi
    refine Or.inr ⟨(wor s.env a).toNat, p + (wor s.env a).toNat, rfl, ?_, ?_, fun v => a3 v o.nd⟩
    · show (firstOf ls 0 l).map _ = _
      rw [a1]
      show some (0 + (p : Int) + ((wor s.env a).toNat : Int)) = some ((p + (wor s.env a).toNat : Nat) : Int)
      congr 1
      omega
    · rw [a2]
      show (s.mem l)[(wor s.env a).toNat]? = some ((s.mem l).getD (wor s.env a).toNat 0)
      rw [List.getD_eq_getElem?_getD, List.getElem?_eq_getElem hi]
      rfl
  · rw [if_neg c]
    exact Or.inl ⟨rfl, rfl⟩
section
variable {P : Program} {w : World} {K : PySem.W.Frag} {mg : Str → Option Value} {base : Heap} {cR : Addr}
theorem ok_touch (T : Tx mg) (R : RunnerC K cR) (D : MetAt K cR "touch" "Runner.touch" s_Runner_touch) (c_Runner_cell : C8.Met P w K mg base 1 cR "cell" (sp_cell cR) []) (c_Runner_worth : C8.Met P w K mg base 1 cR "worth" (sp_worth cR) []) : C8.Met P w K mg base 2 cR "touch" (sp_touch cR) [] := by
  refine D.met (k := 1) sc_Runner_touch (fun _ _ _ _ _ _ us hl => match us, hl with | [_, _], _ => rfl) (fun vs H Q E h => ?_) (fun f cdv A outer s H vs Q E hr h => ⟨_, (pss_cons (ps_if (pt_cmpR op_eq (pe_ix ix_tup (pv 1) pe_int (fun _ _ => rfl)) pe_str (nomark _)) (pss_cons (ps_set (i := 2) sc_Runner_touch.nd rfl (Or.inl rfl) (C8.pe_mt c_Runner_cell hr (by omega) (pv 0) (pa_cons (pe_ix ix_tup (pv 1) pe_int (fun _ _ => rfl)) (pa_cons (C8.pe_mt c_Runner_worth hr (by omega) (pv 0) (pa_cons (pe_ix ix_tup (pv 1) pe_int (fun _ _ => rfl)) pa_nil)) pa_nil))))
    (pss_cons (ps_dput (hu_of hr) (pe_fld (pv 0) rfl) (pe_ix ix_tup (pv 1) pe_int (fun _ _ => rfl)) (pe_ifExp (pt_cmpR op_isN (pv 2) pe_non (nomark _)) pe_int (pe_ix ix_list (pe_fld (pv 0) rfl) (pv 2) (fun _ _ => rfl))) rfl)
    (pss_one (ps_ret (pv 2)))))
    pss_nil)
    (pss_cons (ps_set (i := 2) sc_Runner_touch.nd rfl (Or.inl rfl) (C8.pe_mt c_Runner_cell hr (by omega) (pv 0) (pa_cons (pe_ix ix_tup (pv 1) pe_int (fun _ _ => rfl)) (pa_cons (C8.pe_mt c_Runner_worth hr (by omega) (pv 0) (pa_cons (pe_ix ix_tup (pv 1) pe_int (fun _ _ => rfl)) pa_nil)) pa_nil))))
    (pss_cons (ps_if (pt_cmpR op_notN (pv 2) pe_non (nomark _)) (pss_one (ps_asg (C8.pe_mt c_Runner_worth hr (by omega) (pv 0) (pa_cons (pe_ix ix_tup (pv 1) pe_int (fun _ _ => rfl)) pa_nil)) (pg_sub (pe_fld (pv 0) rfl) (pv 2) set_list)))
    pss_nil)
    (pss_one (ps_ret (pv 2)))))), ?_⟩)
  · obtain ⟨Hb, a, ls, s, r, v, rfl, _⟩ := h
    rfl
  · obtain ⟨Hb, a, ls, s, r, v, rfl, hR, hL, ⟨hM, ⟨k, ok⟩, _⟩, hz, hr0, hrr, q⟩ := h
    have lens : ∀ d ∈ ls, (s.mem d.nm).length = d.cells.toNat ∧ 0 ≤ d.cells ∧ 0 ≤ d.em := fun d md => by
      obtain ⟨h1, h2, h3⟩ := hL.at hM d md
      exact ⟨h3, h2, h1⟩
    rcases hrr with ⟨x, l, o, rfl⟩ | ⟨l, o, u, rfl⟩
    · obtain ⟨p, rfl, hp⟩ := hr0
      have wo := wor_ok hM.env ok.2.2
      walk_at "go"
      refine ⟨_, _, _, rfl, hR.hr, rfl, ?_⟩
      walk_at "go"
      refine ⟨_, _, _, rfl, hR.hr, rfl, ?_⟩
      walk_at "go"
      refine ⟨Hb, a, ls, s, o, rfl, hR, ?_⟩
      refine ⟨Hb, a, ls, s, l, wor s.env o, rfl, hR, ok.2.1, lens, wo.1, ?_⟩
      have cc : (if wor s.env o < ((s.mem l).length : Int) then some (l, (wor s.env o).toNat) else none) = cel s l o := rfl
      rw [cc]
      obtain ⟨z1, z2⟩ := hR.putD (putE s.env x (memGet s.mem (cel s l o)))
      have q := q _ z2 z1
      have put : DPut H a.D (.str x) (.int (memGet s.mem (cel s l o))) (upd H a.D (.dK (envK (putE s.env x (memGet s.mem (cel s l o)))))) :=
        .inl ⟨_, Sum.inr x, hR.hD, rfl, sm_lt (by rw [envK_len]; omega), by rw [putK_env]⟩
      have q : Q (optV (plc ls (cel s l o))) _ := q
      rcases cel_at hL hM ok.2.1 wo.1 with ⟨e1, e2⟩ | ⟨i, p', e1, e2, e3, e4⟩
      · rw [e2] at q ⊢
        rw [e1] at put
        walk_at "go"
        refine ⟨a.r, cR, a.dx, _, _, rfl, hR.hr, R.cl, R.held, rfl, ?_⟩
        walk_at "go"
        refine ⟨a.D, _, rfl, put, ?_⟩
        walk_at "go"
        rw [← e1] 
        exact q
      · rw [e2] at q ⊢
        walk_at "go"
        refine ⟨a.r, cR, a.dx, _, _, rfl, hR.hr, R.cl, R.cells, rfl, ?_⟩
        refine ⟨_, rfl, _, _, _, _, rfl, rfl, SqL.of hR.hC, atI_nat (v := .int (memGet s.mem (cel s l o))) (by rw [List.getElem?_map, e3]; rfl), ?_⟩
        refine ⟨_, rfl, a.r, cR, a.dx, _, _, rfl, hR.hr, R.cl, R.held, rfl, ?_⟩
        walk_at "go"
        refine ⟨a.D, _, rfl, put, ?_⟩
        walk_at "go"
        exact q
    · obtain ⟨p, rfl, hp⟩ := hr0
      have wo := wor_ok hM.env ok.2.1
      have wu := wor_ok hM.env ok.2.2
      walk_at "go"
      refine ⟨_, _, _, rfl, hR.hr, rfl, ?_⟩
      walk_at "go"
      refine ⟨_, _, _, rfl, hR.hr, rfl, ?_⟩
      walk_at "go"
      refine ⟨Hb, a, ls, s, o, rfl, hR, ?_⟩
      refine ⟨Hb, a, ls, s, l, wor s.env o, rfl, hR, ok.1, lens, wo.1, ?_⟩
      have cc : (if wor s.env o < ((s.mem l).length : Int) then some (l, (wor s.env o).toNat) else none) = cel s l o := rfl
      rw [cc]
      rcases cel_at hL hM ok.1 wo.1 with ⟨e1, e2⟩ | ⟨i, p', e1, e2, e3, e4⟩
      · have q : ∀ H', TS H H' → RunAt cR Hb H' a ls { s with mem := memSet s.mem (cel s l o) (wor s.env u) } → Q (optV (plc ls (cel s l o))) H' := q
        rw [e1] at q e2 ⊢
        rw [e2] at q ⊢
        walk_at "go"
        exact q _ (TS.refl _) hR
      · obtain ⟨z1, z2⟩ := hR.setC (m := memSet s.mem (cel s l o) (wor s.env u)) (xs := ((flat ls s.mem).map V.int).set p' (.int (wor s.env u))) (by rw [e4, List.map_set])
        have q : Q (optV (plc ls (cel s l o))) _ := q _ z2 z1
        have lp := (List.getElem?_eq_some_iff.mp e3).1
        rw [e2] at q ⊢
        walk_at "go"
        refine ⟨_, _, _, rfl, hR.hr, rfl, ?_⟩
        walk_at "go"
        refine ⟨Hb, a, ls, s, u, rfl, hR, ?_⟩
        refine ⟨_, rfl, a.r, cR, a.dx, _, _, rfl, hR.hr, R.cl, R.cells, rfl, ?_⟩
        refine ⟨_, rfl, ?_⟩
        refine ⟨a.C, _, _, p', rfl, rfl, hR.hC, ?_, ?_⟩
        · unfold ixN
          rw [if_pos (Int.natCast_nonneg p')]
          simp [lp]
        · walk_at "go"
          exact q
theorem ok_done_one (T : Tx mg) (R : RunnerC K cR) (D : MetAt K cR "done_one" "Runner.done_one" s_Runner_done_one) (c_Runner_next_one : C8.Met P w K mg base 1 cR "next_one" (sp_next_one cR) []) (c_Runner_worth : C8.Met P w K mg base 1 cR "worth" (sp_worth cR) [])
    (c_Runner_push : C8.Met P w K mg base 1 cR "push" (sp_push cR) []) (c_Runner_touch : C8.Met P w K mg base 2 cR "touch" (sp_touch cR) []) (c_bits_of : C8.Cal P w K mg base 1 "bits_of" sp_bits_of []) (c_deed_of : C8.Cal P w K mg base 1 "deed_of" sp_deed_of []) :
    C8.Met P w K mg base 3 cR "done_one" (sp_done_one cR) [] := by
  refine D.met (k := 2) sc_Runner_done_one (fun _ _ _ _ _ _ us hl => match us, hl with | [_], _ => rfl) (fun vs H Q E h => ?_) (fun f cdv A outer s H vs Q E hr h => ⟨_, (pss_cons (ps_set (i := 1) sc_Runner_done_one.nd rfl (Or.inl rfl) (C8.pe_mt0 c_Runner_next_one hr (by omega) (pv 0)))
    (pss_cons (ps_if (pt_cmpR op_isN (pv 1) pe_non (nomark _)) (pss_one (ps_ret pe_non))
    pss_nil)
    (pss_cons (ps_asg (pv 1) (pg_tup rfl (pgs_cons (pg_name (i := 2) sc_Runner_done_one.nd rfl (Or.inl rfl)) (pgs_cons (pg_name (i := 3) sc_Runner_done_one.nd rfl (Or.inl rfl)) (pgs_cons (pg_name (i := 4) sc_Runner_done_one.nd rfl (Or.inl rfl)) pgs_nil)))))
    (pss_cons (ps_asg (pe_tup (pa_cons pe_int (pa_cons pe_non pa_nil))) (pg_tup rfl (pgs_cons (pg_name (i := 5) sc_Runner_done_one.nd rfl (Or.inl rfl)) (pgs_cons (pg_name (i := 6) sc_Runner_done_one.nd rfl (Or.inl rfl)) pgs_nil))))
    (pss_cons (ps_if (pt_cmpR op_eq (pe_ix ix_tup (pv 3) pe_int (fun _ _ => rfl)) pe_str (nomark _)) (pss_one (ps_expr (C8.pe_mt c_Runner_push hr (by omega) (pv 0) (pa_cons (pe_ifExp (pt_cmpR op_ne (C8.pe_mt c_Runner_worth hr (by omega) (pv 0) (pa_cons (pe_ix ix_tup (pv 3) pe_int (fun _ _ => rfl)) pa_nil)) pe_int (nomark _)) (pe_ix ix_tup (pv 4) pe_int (fun _ _ => rfl)) (pe_ix ix_tup (pv 4) pe_int (fun _ _ => rfl))) pa_nil))))
    (pss_one (ps_if (pt_cmpR op_eq (pe_ix ix_tup (pv 3) pe_int (fun _ _ => rfl)) pe_str (nomark _)) (pss_one (ps_if (pt_cmpR op_ne (C8.pe_mt c_Runner_worth hr (by omega) (pv 0) (pa_cons (pe_ix ix_tup (pv 3) pe_int (fun _ _ => rfl)) pa_nil)) pe_int (nomark _)) (pss_cons (ps_expr (pe_bm PySem.F.plainAttrs_list PySem.F.slot_list_append PySem.F.type_list_append mt_append (pe_fld (pv 0) rfl) (pa_cons (pe_tup (pa_cons (pv 2) (pa_cons (pe_tup (pa_cons pe_str (pa_cons (pe_ix ix_tup (pv 3) pe_int (fun _ _ => rfl)) (pa_cons (pe_op op_sub (pe_ix ix_tup (pv 3) pe_int (fun _ _ => rfl)) pe_int) (pa_cons (pe_ix ix_tup (pv 3) pe_int (fun _ _ => rfl)) pa_nil))))) (pa_cons (pv 4) pa_nil)))) pa_nil)))
    (pss_one (ps_expr (C8.pe_mt c_Runner_push hr (by omega) (pv 0) (pa_cons (pe_ix ix_tup (pv 4) pe_int (fun _ _ => rfl)) pa_nil)))))
    pss_nil))
    (pss_one (ps_if (pt_cmpR op_eq (pe_ix ix_tup (pv 3) pe_int (fun _ _ => rfl)) pe_str (nomark _)) (pss_cons (ps_par (i := 7) (j := 8) rfl sc_Runner_done_one.nd rfl rfl (by decide) rfl rfl (pa_cons (C8.pe_mt c_Runner_worth hr (by omega) (pv 0) (pa_cons (pe_ix ix_tup (pv 3) pe_int (fun _ _ => rfl)) pa_nil)) (pa_cons (C8.pe_mt c_Runner_worth hr (by omega) (pv 0) (pa_cons (pe_ix ix_tup (pv 3) pe_int (fun _ _ => rfl)) pa_nil)) pa_nil)) (by rfl))
    (pss_cons (ps_set (i := 5) sc_Runner_done_one.nd rfl (Or.inl rfl) (pe_ifExp (pt_cmpR op_eq (pe_ix ix_tup (pv 3) pe_int (fun _ _ => rfl)) pe_str (nomark _)) (pe_op op_add pe_int (C8.pe_c c_bits_of hr (by omega) (by rfl) (pa_cons (pv 8) pa_nil))) pe_int))
    (pss_one (ps_dput (hu_of hr) (pe_fld (pv 0) rfl) (pe_ix ix_tup (pv 3) pe_int (fun _ _ => rfl)) (C8.pe_c c_deed_of hr (by omega) (by rfl) (pa_cons (pe_ix ix_tup (pv 3) pe_int (fun _ _ => rfl)) (pa_cons (pv 7) (pa_cons (pv 8) pa_nil)))) rfl))))
    (pss_one (ps_if (pt_cmpR op_eq (pe_ix ix_tup (pv 3) pe_int (fun _ _ => rfl)) pe_str (nomark _)) (pss_one (ps_dput (hu_of hr) (pe_fld (pv 0) rfl) (pe_ix ix_tup (pv 3) pe_int (fun _ _ => rfl)) (pe_ifExp (pt_cmpR op_eq (C8.pe_mt c_Runner_worth hr (by omega) (pv 0) (pa_cons (pe_ix ix_tup (pv 3) pe_int (fun _ _ => rfl)) pa_nil)) pe_int (nomark _)) (C8.pe_mt c_Runner_worth hr (by omega) (pv 0) (pa_cons (pe_ix ix_tup (pv 3) pe_int (fun _ _ => rfl)) pa_nil)) (C8.pe_mt c_Runner_worth hr (by omega) (pv 0) (pa_cons (pe_ix ix_tup (pv 3) pe_int (fun _ _ => rfl)) pa_nil))) rfl))
    (pss_one (ps_if (pt_cmpR op_eq (pe_ix ix_tup (pv 3) pe_int (fun _ _ => rfl)) pe_str (nomark _)) (pss_one (ps_expr (pe_bm PySem.F.plainAttrs_list PySem.F.slot_list_append PySem.F.type_list_append mt_append (pe_fld (pv 0) rfl) (pa_cons (C8.pe_mt c_Runner_worth hr (by omega) (pv 0) (pa_cons (pe_ix ix_tup (pv 3) pe_int (fun _ _ => rfl)) pa_nil)) pa_nil))))
    (pss_one (ps_if (pt_cmpR op_ne (pe_ix ix_tup (pv 3) pe_int (fun _ _ => rfl)) pe_str (nomark _)) (pss_one (ps_set (i := 6) sc_Runner_done_one.nd rfl (Or.inl rfl) (C8.pe_mt c_Runner_touch hr (by omega) (pv 0) (pa_cons (pv 3) pa_nil))))
    pss_nil)))))))))))
    (pss_one (ps_ret (pe_tup (pa_cons (pv 2) (pa_cons (pv 5) (pa_cons (pv 6) pa_nil))))))))))), ?_⟩)
  · obtain ⟨Hb, a, ls, s, k, rfl, _⟩ := h
    rfl
  · obtain ⟨Hb, a, ls, s, k, rfl, hR, hL, hM, hF, q1, q2⟩ := h
    refine ⟨_, rfl, _, _, _, rfl, hR.hr, rfl, ?_⟩
    refine ⟨Hb, a, ls, s, rfl, hR, by have := hF.stk; omega, hM.stk, fun dn H1 t1 hR1 => ?_, fun r t dn H1 v t1 hR1 hn => ?_⟩
    · walk_at "go"
      exact q1 dn _ t1 hR1
    · obtain ⟨p, i, vr, pp, ps, rfl, hp, hrow, hpp, hps⟩ := nodeAt_iff.mp hn
      have hM1 := hM.due dn
      have hF1 := hF.step dn hM
      have le : s.env.length ≤ 999 := by have := hF.env; omega
      have lo : s.out.length ≤ 999 := by have := hF.out; omega
      have lt : t.length ≤ 2990 := by have := (due_some dn).2.2.1; have := hF.stk; omega
      have q2 := q2 r t dn
      generalize es : ({ s with stk := t } : Mc) = s1 at q2 hM1 hF1 hR1
      have ee : s1.env = s.env := by rw [← es]
      have eo : s1.out = s.out := by rw [← es]
      have et : s1.stk = t := by rw [← es]
      rw [← ee] at le
      rw [← eo] at lo
      rw [← et] at lt
      clear q1 hF hM hR dn es ee eo et
      have wo : ∀ o, okO o → okV (wor s1.env o) := fun o h => wor_ok hM1.1.env h
      obtain ⟨hMM, ⟨kk, okr⟩, n0⟩ := hM1
      cases r with
      | set x d a1 a2 =>
        obtain ⟨pr, rfl, hpr⟩ := hrow
        have w1 := wo _ okr.2.2.1
        have w2 := wo _ okr.2.2.2
        have od := okr.2.1
        walk_at "go"
        rename_i p9 n9
        have hR2 := hR1.nw (o := .tup [.int 1, .non]) n9
        have t2 := ts_nw (o := .tup [.int 1, .non]) (TS.refl _) n9
        refine ⟨_, _, _, rfl, hR2.hr, rfl, ?_⟩
        walk_at "go"
        refine ⟨Hb, a, ls, s1, a1, rfl, hR2, ?_⟩
        refine ⟨_, rfl, ?_⟩
        refine ⟨_, _, _, rfl, hR2.hr, rfl, ?_⟩
        walk_at "go"
        refine ⟨Hb, a, ls, s1, a2, rfl, hR2, ?_⟩
        walk_at "go"
        refine ite_b (fun c => ?_) (fun c => ?_)
        · walk_at "go"
          refine fun j => ?_
          walk_at "go"
          refine ⟨d, _, _, rfl, od, w1, w2, fun H3 s3 => ?_⟩
          have hR3 := hR2.same s3
          have t3 := same_ts s3
          obtain ⟨z1, z2⟩ := hR3.putD (putE s1.env x (deed d (wor s1.env a1) (wor s1.env a2)))
          have put : DPut H3 a.D (.str x) (.int (deed d (wor s1.env a1) (wor s1.env a2))) (upd H3 a.D (.dK (envK (putE s1.env x (deed d (wor s1.env a1) (wor s1.env a2)))))) :=
            .inl ⟨_, Sum.inr x, hR3.hD, rfl, sm_lt (by rw [envK_len]; omega), by rw [putK_env]⟩
          refine ⟨_, rfl, a.r, cR, a.dx, _, _, rfl, hR3.hr, R.cl, R.held, rfl, ?_⟩
          have hpr := t3 _ _ (upd_get n9 hpr)
          walk_at "go"
          refine ⟨a.D, _, rfl, put, ?_⟩
          walk_at "go"
          rename_i p8 n8
          exact q2 _ _ _ _ (t1.trans (t2.trans (t3.trans (z2.trans (ts_nw (TS.refl _) n8))))) (z1.nw n8) upd_same
        · walk_at "go"
          refine ⟨d, _, _, rfl, od, w1, w2, fun H3 s3 => ?_⟩
          have hR3 := hR2.same s3
          have t3 := same_ts s3
          obtain ⟨z1, z2⟩ := hR3.putD (putE s1.env x (deed d (wor s1.env a1) (wor s1.env a2)))
          have put : DPut H3 a.D (.str x) (.int (deed d (wor s1.env a1) (wor s1.env a2))) (upd H3 a.D (.dK (envK (putE s1.env x (deed d (wor s1.env a1) (wor s1.env a2)))))) :=
            .inl ⟨_, Sum.inr x, hR3.hD, rfl, sm_lt (by rw [envK_len]; omega), by rw [putK_env]⟩
          refine ⟨_, rfl, a.r, cR, a.dx, _, _, rfl, hR3.hr, R.cl, R.held, rfl, ?_⟩
          have hpr := t3 _ _ (upd_get n9 hpr)
          walk_at "go"
          refine ⟨a.D, _, rfl, put, ?_⟩
          walk_at "go"
          rename_i p8 n8
          exact q2 _ _ _ _ (t1.trans (t2.trans (t3.trans (z2.trans (ts_nw (TS.refl _) n8))))) (z1.nw n8) upd_same
      | get x l a1 =>
        obtain ⟨pr, rfl, hpr⟩ := id hrow
        walk_at "go"
        rename_i p9 n9
        have hR2 := hR1.nw (o := .tup [.int 1, .non]) n9
        have t2 := ts_nw (o := .tup [.int 1, .non]) (TS.refl _) n9
        refine ⟨_, _, _, rfl, hR2.hr, rfl, ?_⟩
        walk_at "go"
        refine ⟨Hb, a, ls, s1, _, _, rfl, hR2, hL, ⟨hMM, ⟨kk, okr⟩, n0⟩, by omega, hrow.ts t2, Or.inl ⟨_, _, _, rfl⟩, fun H2 t3 hR3 => ?_⟩
        walk_at "go"
        rename_i p8 n8
        exact q2 _ _ _ _ (t1.trans (t2.trans (t3.trans (ts_nw (TS.refl _) n8)))) (hR3.nw n8) upd_same
      | put l a1 a2 =>
        obtain ⟨pr, rfl, hpr⟩ := id hrow
        walk_at "go"
        rename_i p9 n9
        have hR2 := hR1.nw (o := .tup [.int 1, .non]) n9
        have t2 := ts_nw (o := .tup [.int 1, .non]) (TS.refl _) n9
        refine ⟨_, _, _, rfl, hR2.hr, rfl, ?_⟩
        walk_at "go"
        refine ⟨Hb, a, ls, s1, _, _, rfl, hR2, hL, ⟨hMM, ⟨kk, okr⟩, n0⟩, by omega, hrow.ts t2, Or.inr ⟨_, _, _, rfl⟩, fun H2 t3 hR3 => ?_⟩
        walk_at "go"
        rename_i p8 n8
        exact q2 _ _ _ _ (t1.trans (t2.trans (t3.trans (ts_nw (TS.refl _) n8)))) (hR3.nw n8) upd_same
      | pick x a1 a2 a3 =>
        obtain ⟨pr, rfl, hpr⟩ := hrow
        have put : ∀ (H : Hp) (v : Int), RunAt cR Hb H a ls s1 → DPut H a.D (.str x) (.int v) (upd H a.D (.dK (envK (putE s1.env x v)))) := fun H v h =>
          .inl ⟨_, Sum.inr x, h.hD, rfl, sm_lt (by rw [envK_len]; omega), by rw [putK_env]⟩
        walk_at "go"
        rename_i p9 n9
        have hR2 := hR1.nw (o := .tup [.int 1, .non]) n9
        have t2 := ts_nw (o := .tup [.int 1, .non]) (TS.refl _) n9
        refine ⟨_, _, _, rfl, hR2.hr, rfl, ?_⟩
        walk_at "go"
        refine ⟨Hb, a, ls, s1, a1, rfl, hR2, ?_⟩
        walk_at "go"
        refine ite_b (fun c => ?_) (fun c => ?_)
        · have c := V.int.inj (of_decide_eq_true c)
          obtain ⟨z1, z2⟩ := hR2.putD (putE s1.env x (wor s1.env a3))
          have ex : (exec s1 (.pick x a1 a2 a3)) = (none, { s1 with env := putE s1.env x (wor s1.env a3) }) := by
            show (none, { s1 with env := putE s1.env x (if wor s1.env a1 = 0 then wor s1.env a3 else wor s1.env a2) }) = _
            rw [if_pos c]
          rw [ex] at q2
          refine ⟨_, rfl, ?_⟩
          refine ⟨_, _, _, rfl, hR2.hr, rfl, ?_⟩
          walk_at "go"
          refine ⟨Hb, a, ls, s1, a3, rfl, hR2, ?_⟩
          refine ⟨_, rfl, a.r, cR, a.dx, _, _, rfl, hR2.hr, R.cl, R.held, rfl, ?_⟩
          walk_at "go"
          refine ⟨a.D, _, rfl, put _ _ hR2, ?_⟩
          walk_at "go"
          rename_i p8 n8
          exact q2 _ _ _ _ (t1.trans (t2.trans (z2.trans (ts_nw (TS.refl _) n8)))) (z1.nw n8) upd_same
        · have c : ¬ wor s1.env a1 = 0 := fun z => of_decide_eq_false c (congrArg V.int z)
          obtain ⟨z1, z2⟩ := hR2.putD (putE s1.env x (wor s1.env a2))
          have ex : (exec s1 (.pick x a1 a2 a3)) = (none, { s1 with env := putE s1.env x (wor s1.env a2) }) := by
            show (none, { s1 with env := putE s1.env x (if wor s1.env a1 = 0 then wor s1.env a3 else wor s1.env a2) }) = _
            rw [if_neg c]
          rw [ex] at q2
          refine ⟨_, rfl, ?_⟩
          refine ⟨_, _, _, rfl, hR2.hr, rfl, ?_⟩
          walk_at "go"
          refine ⟨Hb, a, ls, s1, a2, rfl, hR2, ?_⟩
          refine ⟨_, rfl, a.r, cR, a.dx, _, _, rfl, hR2.hr, R.cl, R.held, rfl, ?_⟩
          walk_at "go"
          refine ⟨a.D, _, rfl, put _ _ hR2, ?_⟩
          walk_at "go"
          rename_i p8 n8
          exact q2 _ _ _ _ (t1.trans (t2.trans (z2.trans (ts_nw (TS.refl _) n8)))) (z1.nw n8) upd_same
      | lt a1 =>
        obtain ⟨pr, rfl, hpr⟩ := hrow
        walk_at "go"
        rename_i p9 n9
        have hR2 := hR1.nw (o := .tup [.int 1, .non]) n9
        have t2 := ts_nw (o := .tup [.int 1, .non]) (TS.refl _) n9
        refine ⟨a.r, cR, a.dx, _, _, rfl, hR2.hr, R.cl, R.lets, rfl, ?_⟩
        refine ⟨.inl ⟨rfl, _, SqL.of hR2.hL⟩, ?_⟩
        walk_at "go"
        refine ⟨_, _, _, rfl, hR2.hr, rfl, ?_⟩
        walk_at "go"
        refine ⟨Hb, a, ls, s1, a1, rfl, hR2, ?_⟩
        refine ⟨_, _, _, rfl, rfl, hR2.hL, sm_lt (by rw [List.length_map]; omega), ?_⟩
        obtain ⟨z1, z2⟩ := hR2.setL (o := s1.out ++ [wor s1.env a1]) (xs := s1.out.map V.int ++ [.int (wor s1.env a1)]) (by rw [List.map_append]; rfl)
        walk_at "go"
        rename_i p8 n8
        exact q2 _ _ _ _ (t1.trans (t2.trans (z2.trans (ts_nw (TS.refl _) n8)))) (z1.nw n8) upd_same
      | ite a1 b1 b2 =>
        obtain ⟨pr, pt, pe, ts, es, rfl, hpr, _⟩ := hrow
        obtain ⟨v1, v2, rfl, hn1, hn2⟩ := hps
        walk_at "go"
        rename_i p9 n9
        have hR2 := hR1.nw (o := .tup [.int 1, .non]) n9
        have t2 := ts_nw (o := .tup [.int 1, .non]) (TS.refl _) n9
        refine ⟨_, _, _, rfl, hR2.hr, rfl, ?_⟩
        walk_at "go"
        refine ⟨_, _, _, rfl, hR2.hr, rfl, ?_⟩
        walk_at "go"
        refine ⟨Hb, a, ls, s1, a1, rfl, hR2, ?_⟩
        walk_at "go"
        refine ite_b (fun c => ?_) (fun c => ?_)
        · have c : ¬ wor s1.env a1 = 0 := fun z => by
            rw [decide_eq_true (congrArg V.int z)] at c
            cases c
          have ex : (exec s1 (.ite a1 b1 b2)) = (none, { s1 with stk := b1.list ++ s1.stk }) := by
            show (none, { s1 with stk := (if wor s1.env a1 = 0 then b2.list else b1.list) ++ s1.stk }) = _
            rw [if_neg c]
          rw [ex] at q2
          walk_at "go"
          refine ⟨Hb, a, ls, s1, b1, v1, rfl, hR2, hn1.ts t2, by omega, by have := okr.2.2.1; omega, fun H3 t3 hR3 => ?_⟩
          walk_at "go"
          rename_i p8 n8
          exact q2 _ _ _ _ (t1.trans (t2.trans (t3.trans (ts_nw (TS.refl _) n8)))) (hR3.nw n8) upd_same
        · have c : wor s1.env a1 = 0 := Classical.byContradiction fun z => by
            rw [decide_eq_false (fun y => z (V.int.inj y))] at c
            cases c
          have ex : (exec s1 (.ite a1 b1 b2)) = (none, { s1 with stk := b2.list ++ s1.stk }) := by
            show (none, { s1 with stk := (if wor s1.env a1 = 0 then b2.list else b1.list) ++ s1.stk }) = _
            rw [if_pos c]
          rw [ex] at q2
          walk_at "go"
          refine ⟨Hb, a, ls, s1, b2, v2, rfl, hR2, hn2.ts t2, by omega, by have := okr.2.2.2.1; omega, fun H3 t3 hR3 => ?_⟩
          walk_at "go"
          rename_i p8 n8
          exact q2 _ _ _ _ (t1.trans (t2.trans (t3.trans (ts_nw (TS.refl _) n8)))) (hR3.nw n8) upd_same
      | whl a1 n b =>
        obtain ⟨pr, pb, bs, rfl, hpr, hpb, hbs⟩ := hrow
        obtain ⟨v1, rfl, hn1⟩ := hps
        walk_at "go"
        rename_i p9 n9
        have hR2 := hR1.nw (o := .tup [.int 1, .non]) n9
        have t2 := ts_nw (o := .tup [.int 1, .non]) (TS.refl _) n9
        refine ⟨_, _, _, rfl, hR2.hr, rfl, ?_⟩
        walk_at "go"
        refine ⟨Hb, a, ls, s1, a1, rfl, hR2, ?_⟩
        walk_at "go"
        refine ite_b (fun c => ?_) (fun c => ?_)
        · have c : ¬ wor s1.env a1 = 0 := fun z => by
            rw [decide_eq_true (congrArg V.int z)] at c
            cases c
          have ex : (exec s1 (.whl a1 n b)) = (none, { s1 with stk := b.list ++ Row.whl a1 (n - 1) b :: s1.stk }) := by
            show (none, { s1 with stk := if wor s1.env a1 = 0 then s1.stk else b.list ++ Row.whl a1 (n - 1) b :: s1.stk }) = _
            rw [if_neg c]
          rw [ex] at q2
          walk_at "go"
          refine ⟨a.r, cR, a.dx, _, _, rfl, hR2.hr, R.cl, R.waiting, rfl, ?_⟩
          obtain ⟨xs0, h01, h02⟩ := hR2.hW
          refine ⟨.inl ⟨rfl, _, SqL.of h01⟩, ?_⟩
          walk_at "go"
          rename_i p8 n8 p7 n7
          have hR3 := hR2.nw (o := .tup [.str "while", a1.v, .int (n - 1), .ref pb]) n8
          have hR4 := hR3.nw (o := .tup [.int i, .ref p8, .ref pp]) n7
          have t3 := ts_nw (o := .tup [.str "while", a1.v, .int (n - 1), .ref pb]) (TS.refl _) n8
          have t4 := ts_nw (o := .tup [.int i, .ref p8, .ref pp]) (TS.refl _) n7
          obtain ⟨xs1, h11, h12⟩ := hR4.hW
          have t24 := t2.trans (t3.trans t4)
          have node : NodeAt (upd (upd (upd H1 p9 (.tup [.int 1, .non])) p8 (.tup [.str "while", a1.v, .int (n - 1), .ref pb])) p7 (.tup [.int i, .ref p8, .ref pp])) (.whl a1 (n - 1) b) (.ref p7) :=
            ⟨p7, i, _, pp, v1, rfl, upd_same, ⟨p8, pb, bs, rfl, t4 _ _ upd_same, t24 _ _ hpb, hbs.ts t24⟩, t24 _ _ hpp, hn1.ts t24⟩
          obtain ⟨z1, z2⟩ := hR4.setW (st := .whl a1 (n - 1) b :: s1.stk) (xs := xs1 ++ [.ref p7]) (by rw [List.reverse_cons]; exact paired_app h12 (.cons node .nil))
          have lx : xs1.length = s1.stk.length := by rw [← Paired.length h12, List.length_reverse]
          refine ⟨_, _, _, rfl, rfl, h11, sm_lt (by omega), ?_⟩
          have t5 := t24.trans z2
          have hpp5 := t5 _ _ hpp
          refine ⟨_, rfl, _, _, _, rfl, z1.hr, rfl, ?_⟩
          walk_at "go"
          refine ⟨Hb, a, ls, _, b, v1, rfl, z1, hn1.ts t5, by show s1.stk.length + 1 ≤ 3000; omega, by have := okr.2.2.2.2.1; omega, fun H3 t6 hR6 => ?_⟩
          walk_at "go"
          rename_i p6 n6
          exact q2 _ _ _ _ (t1.trans (t5.trans (t6.trans (ts_nw (TS.refl _) n6)))) (hR6.nw n6) upd_same
        · have c : wor s1.env a1 = 0 := Classical.byContradiction fun z => by
            rw [decide_eq_false (fun y => z (V.int.inj y))] at c
            cases c
          have ex : (exec s1 (.whl a1 n b)) = (none, s1) := by
            show (none, { s1 with stk := if wor s1.env a1 = 0 then s1.stk else b.list ++ Row.whl a1 (n - 1) b :: s1.stk }) = _
            rw [if_pos c]
          rw [ex] at q2
          walk_at "go"
          rename_i p8 n8
          exact q2 _ _ _ _ (t1.trans (t2.trans (ts_nw (TS.refl _) n8))) (hR2.nw n8) upd_same
end
end NW
/-! ## Walks: the law's interpreter, one step -/
namespace NW
open PySem PySem.Spec PyProof.Rows L2
set_option pp.maxSteps 150
-- an object's place in a heap
local macro_rules | `(tactic| walk_at "hp") => `(tactic| (show _ = some _; first
  | assumption
  | exact upd_same
  | (refine' upd_get ?n ?h; (case n => assumption); (case h => walk_at "hp"))
  | (refine' same_get ?n ?h; (case n => assumption); (case h => walk_at "hp"))))
-- a heap that has grown
local macro_rules | `(tactic| walk_at "sm") => `(tactic| first
  | assumption
  | exact Same.refl _
  | (refine' same_nw ?n ?h; (case h => assumption); (case n => walk_at "sm"))
  | (refine' Same.trans ?n ?h; (case h => assumption); (case n => walk_at "sm")))
local macro_rules | `(tactic| walk_at "ty") => `(tactic| first
  | exact TyN.int _
  | exact TyN.str _
  | exact TyN.non
  | (refine' TyN.tup ?h; (case h => walk_at "hp"))
  | (refine' TyN.lst ?h; (case h => walk_at "hp")))
-- a test whose answer is known
local macro_rules | `(tactic| walk_at "if") => `(tactic| first
  | (refine iteB (by decide +kernel) ?_)
  | (refine iteN (by decide +kernel) ?_)
  | (refine iteB (by rfl) ?_)
  | (refine iteN (by rfl) ?_)
  | (refine iteB (decide_eq_true (by first | omega | assumption)) ?_)
  | (refine iteN (decide_eq_false (by first | omega | assumption)) ?_)
  | (refine iteB (by simp only [Bool.not_eq_true', Bool.not_eq_false', Bool.and_eq_true, Bool.and_eq_false_iff, Bool.or_eq_true, Bool.or_eq_false_iff, decide_eq_true_eq, decide_eq_false_iff_not]; omega) ?_)
  | (refine iteN (by simp only [Bool.not_eq_true', Bool.not_eq_false', Bool.and_eq_true, Bool.and_eq_false_iff, Bool.or_eq_true, Bool.or_eq_false_iff, decide_eq_true_eq, decide_eq_false_iff_not]; omega) ?_))
-- one step of a reading
local macro_rules | `(tactic| walk_at "s") => `(tactic| first
  | refine ⟨_, rfl, ?_⟩
  | refine ⟨_, _, rfl, rfl, ?_⟩
  | refine And.intro (show wipe _ _ = wipe _ _ by kernel_rfl) ?_
  | refine And.intro rfl ?_
  | (refine' ⟨_, _, _, _, rfl, rfl, SqT.of ?h, ?e, ?_⟩; (case h => walk_at "hp"); (case e => exact rfl))
  | (refine' ⟨_, _, rfl, ?t, ?_⟩; (case t => walk_at "ty"))
  | (refine' ⟨_, _, rfl, SqT.of ?h, ?e, ?_⟩; (case h => walk_at "hp"); (case e => exact rfl))
  | refine ⟨_, _, rfl, ?_⟩
  | (refine' ⟨_, _, _, rfl, rfl, ?h1, ?h2, ?_⟩; (case h1 => walk_at "hp"); (case h2 => walk_at "hp"))
  | (refine' ⟨_, _, _, _, rfl, rfl, SqL.of ?h, ?e, ?_⟩; (case h => walk_at "hp"); (case e => exact rfl))
  | (refine' ⟨_, _, rfl, Or.inr (SqT.of ?h), ?_⟩; (case h => walk_at "hp"))
  | (refine' ⟨_, _, rfl, Or.inr (SqT.of ?h), rfl, rfl, ?_⟩; (case h => walk_at "hp"))
  | (refine' ⟨_, _, rfl, Or.inl (SqL.of ?h), ?_⟩; (case h => walk_at "hp"))
  | refine And.intro (flat_strs _) ?_
  | (refine And.intro (sm_sz (Nat.le_of_ble_eq_true rfl)) ?_; intro p np)
  | walk_at "if"
  | (refine' And.intro ?a ?_; (case a => first | assumption | exact sm_sz (by omega) | omega | exact Or.inr ⟨by omega, by omega⟩ | exact Or.inl ⟨by omega, by omega⟩ | exact ⟨by omega, by omega⟩))
  | refine Or.inl ⟨_, _, _, rfl, ?_⟩
  | refine Or.inr ⟨_, _, _, rfl, ?_⟩
  | (intro Hn sn))
local macro_rules | `(tactic| walk_at "go") => `(tactic| repeat (walk_at "s"))

abbrev s__law_turn : Stmt := topS 96
abbrev N__law_turn : List Str := ["_law_amid", "_law_here", "_law_is_yes", "_law_place", "_law_row_here", "_law_left", "_law_later"]
abbrev P__law_turn : List Str := ["_law_amid", "_law_here", "_law_is_yes"]
theorem sc__law_turn : FnScope N__law_turn P__law_turn (defScope s__law_turn) := ⟨rfl, rfl, rfl, by decide +kernel, rfl, by decide +kernel, by decide +kernel⟩

abbrev s__law_cell : Stmt := topS 97
abbrev N__law_cell : List Str := ["_law_amid", "_law_name", "_law_at", "_law_is_ahead", "_law_first", "_law_amount"]
abbrev P__law_cell : List Str := ["_law_amid", "_law_name", "_law_at", "_law_is_ahead"]
theorem sc__law_cell : FnScope N__law_cell P__law_cell (defScope s__law_cell) := ⟨rfl, rfl, rfl, by decide +kernel, rfl, by decide +kernel, by decide +kernel⟩

abbrev s__law_done : Stmt := topS 99
abbrev N__law_done : List Str := ["_law_amid", "_law_here", "_law_is_ahead", "_law_place", "_law_row_here", "_law_left", "_law_price", "_law_cell_here", "_law_one", "_law_other", "_law_bit"]
abbrev P__law_done : List Str := ["_law_amid", "_law_here", "_law_is_ahead"]
theorem sc__law_done : FnScope N__law_done P__law_done (defScope s__law_done) := ⟨rfl, rfl, rfl, by decide +kernel, rfl, by decide +kernel, by decide +kernel⟩

section
variable {P : Program} {w : World} {K : PySem.W.Frag} {mg : Str → Option Value} {base : Heap}
theorem ok_law_turn (T : Tx mg) (D : DefAt K mg "_law_turn" s__law_turn) (c__law_many : C8.Cal P w K mg base 5 "_law_many" (sp_law_many 4) []) (c__law_todo : C8.Cal P w K mg base 6 "_law_todo" sp_law_todo []) : C8.Cal P w K mg base 7 "_law_turn" sp_law_turn [] := by
  refine D.cal (k := 6) sc__law_turn (fun _ _ _ _ _ _ us hl => match us, hl with | [_, _, _], _ => rfl) (fun vs H Q E h => ?_) (fun f cdv A outer s H vs Q E hr h => ⟨_, (pss_cons (ps_asg (pv 1) (pg_tup rfl (pgs_cons (pg_name (i := 3) sc__law_turn.nd rfl (Or.inl rfl)) (pgs_cons (pg_name (i := 4) sc__law_turn.nd rfl (Or.inl rfl)) (pgs_cons (pg_name (i := 5) sc__law_turn.nd rfl (Or.inl rfl)) pgs_nil)))))
    (pss_one (ps_if (pt_cmpR op_eq (pe_ix ix_tup (pv 4) pe_int (fun _ _ => rfl)) pe_str (nomark _)) (pss_cons (ps_set (i := 6) sc__law_turn.nd rfl (Or.inl rfl) (pe_ifExp (pt_val (pv 2)) (pe_op op_add (pv 3) pe_int) (pe_op op_add (pe_op op_add (pv 3) pe_int) (C8.pe_c c__law_many hr (by omega) (by rfl) (pa_cons (pe_ix ix_tup (pv 4) pe_int (fun _ _ => rfl)) pa_nil)))))
    (pss_one (ps_asg (pe_op op_cat (pe_ix ix_list (pv 0) pe_int (fun _ _ => rfl)) (C8.pe_c c__law_todo hr (by omega) (by rfl) (pa_cons (pe_ifExp (pt_val (pv 2)) (pe_ix ix_tup (pv 4) pe_int (fun _ _ => rfl)) (pe_ix ix_tup (pv 4) pe_int (fun _ _ => rfl))) (pa_cons (pv 6) pa_nil)))) (pg_sub (pv 0) pe_int set_list))))
    (pss_one (ps_if (pt_val (pv 2)) (pss_one (ps_asg (pe_op op_cat (pe_op op_cat (pe_ix ix_list (pv 0) pe_int (fun _ _ => rfl)) (pe_lst (pa_cons (pe_tup (pa_cons (pv 3) (pa_cons (pv 4) (pa_cons (pe_op op_sub (pv 5) pe_int) pa_nil)))) pa_nil))) (C8.pe_c c__law_todo hr (by omega) (by rfl) (pa_cons (pe_ix ix_tup (pv 4) pe_int (fun _ _ => rfl)) (pa_cons (pe_op op_add (pv 3) pe_int) pa_nil)))) (pg_sub (pv 0) pe_int set_list)))
    pss_nil))))), ?_⟩)
  · obtain ⟨Hb, a, ls, s, r, v, b, rfl, _⟩ := h
    rfl
  · obtain ⟨Hb, a, ls, s, r, v, b, rfl, hR, he, ht, hk, hl, q⟩ := h
    rcases ht with ⟨o, t, e, rfl⟩ | ⟨o, n, bd, rfl⟩
    · obtain ⟨p, i, vr, n, rfl, hp, hrow⟩ := he
      obtain ⟨pr, pt, pe, ts, es, rfl, hpr, hpt, hpe, htt, hee⟩ := hrow
      obtain ⟨k0, ho, lt, le, okt, oke⟩ := hk
      walk_at "go"
      cases b with
      | true =>
        walk_at "go"
        refine ⟨a.A, _, 3, _, rfl, rfl, SqL.of hR.hA, rfl, ?_⟩
        walk_at "go"
        refine ⟨t, .ref pt, _, ls.map LD.nm, rfl, ⟨pt, ts, rfl, hpt, htt⟩, okt.mono (by decide), by omega, fun H1 q1 ws s1 n1 hq1 pe1 => ?_⟩
        have hR1 := hR.same s1
        obtain ⟨xs, h1, h2⟩ := hR1.hW
        have lx : xs.length = s.stk.length := by rw [← Paired.length h2, List.length_reverse]
        have lw : ws.length = t.len := by rw [← Paired.length pe1, List.length_reverse, Rows.list_len]
        refine ⟨a.W, q1, xs, ws, rfl, rfl, h1, hq1, sm_sz (by omega), fun pn npn => ?_⟩
        obtain ⟨z1, z2⟩ := hR1.setW (st := t.list ++ s.stk) (p := pn) (xs := xs ++ ws) npn (by rw [List.reverse_append]; exact paired_app h2 pe1)
        refine ⟨_, rfl, ?_⟩
        exact ⟨a.A, _, 3, 3, rfl, rfl, (hR1.nw npn).hA, rfl, q _ { a with W := pn } rfl ((same_ts s1).trans z2) z1⟩
      | false =>
        walk_at "go"
        refine ⟨t, pt, ts, ls.map LD.nm, rfl, by decide, hpt, htt, okt.mono (by decide), by omega, fun j H0 s0 => ?_⟩
        have hR0 := hR.same s0
        have hpr0 := s0 _ _ hpr
        walk_at "go"
        refine ⟨a.A, _, 3, _, rfl, rfl, SqL.of hR0.hA, rfl, ?_⟩
        walk_at "go"
        refine ⟨e, .ref pe, _, ls.map LD.nm, rfl, ⟨pe, es, rfl, s0 _ _ hpe, hee.ts (same_ts s0)⟩, oke.mono (by decide), by omega, fun H1 q1 ws s1 n1 hq1 pe1 => ?_⟩
        have hR1 := hR0.same s1
        obtain ⟨xs, h1, h2⟩ := hR1.hW
        have lx : xs.length = s.stk.length := by rw [← Paired.length h2, List.length_reverse]
        have lw : ws.length = e.len := by rw [← Paired.length pe1, List.length_reverse, Rows.list_len]
        refine ⟨a.W, q1, xs, ws, rfl, rfl, h1, hq1, sm_sz (by omega), fun pn npn => ?_⟩
        obtain ⟨z1, z2⟩ := hR1.setW (st := e.list ++ s.stk) (p := pn) (xs := xs ++ ws) npn (by rw [List.reverse_append]; exact paired_app h2 pe1)
        refine ⟨_, rfl, ?_⟩
        exact ⟨a.A, _, 3, 3, rfl, rfl, (hR1.nw npn).hA, rfl, q _ { a with W := pn } rfl ((same_ts (s0.trans s1)).trans z2) z1⟩
    · obtain ⟨p, i, vr, n0, rfl, hp, hrow⟩ := he
      obtain ⟨pr, pb, bs, rfl, hpr, hpb, hbb⟩ := id hrow
      obtain ⟨k0, ho, _, _, lb, okb⟩ := hk
      walk_at "go"
      cases b with
      | true =>
        refine iteT ?_
        walk_at "go"
        refine ⟨a.A, _, 3, _, rfl, rfl, SqL.of hR.hA, rfl, ?_⟩
        walk_at "go"
        rename_i N nN L nL
        have hR0 := (hR.nw (o := .tup [.int i, .ref pr, .int (n - 1)]) nN).nw (o := .lst [.ref N]) nL
        have s0 : Same H (upd (upd H N (.tup [.int i, .ref pr, .int (n - 1)])) L (.lst [.ref N])) := same_nw (same_nw (Same.refl _) nN) nL
        have hN := upd_get (o := .lst [.ref N]) nL (upd_same (H := H) (a := N) (o := .tup [.int i, .ref pr, .int (n - 1)]))
        have hL0 := upd_same (H := upd H N (.tup [.int i, .ref pr, .int (n - 1)])) (a := L) (o := .lst [.ref N])
        generalize upd (upd H N (.tup [.int i, .ref pr, .int (n - 1)])) L (.lst [.ref N]) = H0 at hR0 s0 hN hL0 ⊢
        obtain ⟨xs0, h10, h20⟩ := hR0.hW
        have lx : xs0.length = s.stk.length := by rw [← Paired.length h20, List.length_reverse]
        refine ⟨a.W, L, xs0, [.ref N], rfl, rfl, h10, hL0, sm_sz (by rw [List.length_singleton]; omega), fun pm npm => ?_⟩
        have hR2 := hR0.nw (o := .lst (xs0 ++ [.ref N])) npm
        have s2 := s0.trans (same_nw (o := .lst (xs0 ++ [.ref N])) (Same.refl _) npm)
        have hpr2 := s2 _ _ hpr
        have h22 : Paired (EntAt (upd H0 pm (.lst (xs0 ++ [.ref N])))) (s.stk.reverse ++ [.whl o (n - 1) bd]) (xs0 ++ [.ref N]) :=
          paired_app (Paired.mapP h20 fun _ _ z => z.ts (ts_nw (TS.refl _) npm)) (.cons ⟨N, i, _, n0, rfl, upd_get npm hN, hrow.ts (same_ts s2)⟩ .nil)
        have hpm := upd_same (H := H0) (a := pm) (o := .lst (xs0 ++ [.ref N]))
        generalize upd H0 pm (.lst (xs0 ++ [.ref N])) = H2 at hR2 s2 hpr2 h22 hpm ⊢
        walk_at "go"
        refine ⟨bd, .ref pb, _, ls.map LD.nm, rfl, ⟨pb, bs, rfl, s2 _ _ hpb, hbb.ts (same_ts s2)⟩, okb.mono (by decide), by omega, fun H1 q1 ws s1 n1 hq1 pe1 => ?_⟩
        have hR1 := hR2.same s1
        have lw : ws.length = bd.len := by rw [← Paired.length pe1, List.length_reverse, Rows.list_len]
        refine ⟨pm, q1, _, ws, rfl, rfl, s1 _ _ hpm, hq1, sm_sz (by rw [List.length_append, List.length_singleton]; omega), fun pn npn => ?_⟩
        obtain ⟨z1, z2⟩ := hR1.setW (st := (bd.list ++ [.whl o (n - 1) bd]) ++ s.stk) (p := pn) (xs := (xs0 ++ [.ref N]) ++ ws) npn (by
          rw [List.reverse_append, List.reverse_append, ← List.append_assoc]
          exact paired_app (Paired.mapP h22 fun _ _ z => z.ts (same_ts s1)) pe1)
        refine ⟨_, rfl, ?_⟩
        exact ⟨a.A, _, 3, 3, rfl, rfl, (hR1.nw npn).hA, rfl, q _ { a with W := pn } rfl ((same_ts (s2.trans s1)).trans z2) z1⟩
      | false =>
        refine iteF ?_
        exact q _ a rfl (TS.refl _) hR
theorem ok_law_cell (T : Tx mg) (D : DefAt K mg "_law_cell" s__law_cell) : C8.Cal P w K mg base 1 "_law_cell" sp_law_cell [] := by
  refine D.cal (k := 0) sc__law_cell (fun _ _ _ _ _ _ us hl => match us, hl with | [_, _, _, _], _ => rfl) (fun vs H Q E h => ?_) (fun f cdv A outer s H vs Q E hr h => ⟨_, (pss_cons (ps_asg (pe_dget (hu_of hr) (pe_ix ix_list (pv 0) pe_int (fun _ _ => rfl)) (pv 1) (fun _ _ => rfl)) (pg_tup rfl (pgs_cons (pg_name (i := 4) sc__law_cell.nd rfl (Or.inl rfl)) (pgs_cons (pg_name (i := 5) sc__law_cell.nd rfl (Or.inl rfl)) pgs_nil))))
    (pss_cons (ps_if (pt_val (pv 3)) (pss_one (ps_ret (pe_op op_mod (pe_op op_add (pv 4) (pv 2)) (pe_callB call_len_seq (by rfl) T.len_ PySem.boot_len (pa_cons (pe_ix ix_list (pv 0) pe_int (fun _ _ => rfl)) pa_nil)))))
    pss_nil)
    (pss_one (ps_ret (pe_ifExp (pt_cmpR op_lt (pv 2) (pv 5) (nomark _)) (pe_op op_add (pv 4) (pv 2)) pe_non))))), ?_⟩)
  · obtain ⟨Hb, a, ls, s, l, o, b, rfl, _⟩ := h
    rfl
  · obtain ⟨Hb, a, ls, s, l, o, b, rfl, hR, hL, hM, hl, wo, q1, q2⟩ := h
    obtain ⟨gs, g1, g2⟩ := hR.hG
    obtain ⟨p, f0, d, md, ed, vd, fo, hp⟩ := g2 l hl
    walk_at "go"
    refine ⟨a.A, _, 2, _, rfl, rfl, SqL.of hR.hA, rfl, ?_⟩
    refine ⟨_, rfl, _, _, rfl, .inl ⟨_, Sum.inr l, .inl g1, rfl, vd.symm⟩, ?_⟩
    walk_at "go"
    obtain ⟨e0, e1, c1, c2⟩ := hL.ok d md
    have ml : (s.mem l).length = d.cells.toNat := by rw [← ed]; exact hM.len d md
    cases b with
    | true =>
      refine iteT ?_
      walk_at "go"
      refine ⟨a.A, _, 1, _, rfl, rfl, SqL.of hR.hA, rfl, ?_⟩
      refine ⟨a.C, _, rfl, Or.inl (SqL.of hR.hC), ?_⟩
      have fp : 0 < (flat ls s.mem).length := by
        obtain ⟨x, mx⟩ := List.exists_mem_of_length_pos (l := s.mem l) (by omega)
        refine List.length_pos_of_mem (a := x) ?_
        exact List.mem_flatMap.mpr ⟨d, md, List.mem_append_right _ (by rw [ed]; exact mx)⟩
      have lm : (((flat ls s.mem).map V.int).length : Int) = ((flat ls s.mem).length : Int) := by rw [List.length_map]
      refine ⟨_, _, rfl, rfl, ?_, ?_⟩
      · show (0 : Int) < (((flat ls s.mem).map V.int).length : Int)
        omega
      · show Q (.int ((f0 + wor s.env o) % (((flat ls s.mem).map V.int).length : Int))) H
        rw [lm]
        have h0 := Int.emod_nonneg (f0 + wor s.env o) (show ((flat ls s.mem).length : Int) ≠ 0 by omega)
        have h1 := Int.emod_lt_of_pos (f0 + wor s.env o) (show 0 < ((flat ls s.mem).length : Int) by omega)
        have q := q2 rfl ((f0 + wor s.env o) % ((flat ls s.mem).length : Int)).toNat H (Same.refl _) (by omega)
        rw [Int.toNat_of_nonneg h0] at q
        exact q
    | false =>
      refine iteF ?_
      have q := q1 rfl H (Same.refl _)
      walk_at "go"
      refine ite_b (fun c => ?_) (fun c => ?_)
      · have c := of_decide_eq_true c
        have e : optV (plc ls (cel s l o)) = .int (f0 + wor s.env o) := by
          unfold cel
          rw [if_pos (by omega)]
          show optV ((firstOf ls 0 l).map (· + ((wor s.env o).toNat : Int))) = _
          rw [fo, Int.toNat_of_nonneg wo.1]
          rfl
        rw [e] at q
        walk_at "go"
        exact q
      · have c := of_decide_eq_false c
        have e : optV (plc ls (cel s l o)) = .non := by
          unfold cel
          rw [if_neg (by omega)]
          rfl
        rw [e] at q
        exact q
theorem ok_law_done (T : Tx mg) (D : DefAt K mg "_law_done" s__law_done) (c__law_worth : C8.Cal P w K mg base 1 "_law_worth" sp_law_worth []) (c__law_cell : C8.Cal P w K mg base 1 "_law_cell" sp_law_cell []) (c__law_deed : C8.Cal P w K mg base 1 "_law_deed" sp_deed_of []) : C8.Cal P w K mg base 2 "_law_done" sp_law_done [] := by
  refine D.cal (k := 1) sc__law_done (fun _ _ _ _ _ _ us hl => match us, hl with | [_, _, _], _ => rfl) (fun vs H Q E h => ?_) (fun f cdv A outer s H vs Q E hr h => ⟨_, (pss_cons (ps_asg (pv 1) (pg_tup rfl (pgs_cons (pg_name (i := 3) sc__law_done.nd rfl (Or.inl rfl)) (pgs_cons (pg_name (i := 4) sc__law_done.nd rfl (Or.inl rfl)) (pgs_cons (pg_name (i := 5) sc__law_done.nd rfl (Or.inl rfl)) pgs_nil)))))
    (pss_cons (ps_asg (pe_tup (pa_cons pe_int (pa_cons pe_non pa_nil))) (pg_tup rfl (pgs_cons (pg_name (i := 6) sc__law_done.nd rfl (Or.inl rfl)) (pgs_cons (pg_name (i := 7) sc__law_done.nd rfl (Or.inl rfl)) pgs_nil))))
    (pss_cons (ps_if (pt_cmpR op_eq (pe_ix ix_tup (pv 4) pe_int (fun _ _ => rfl)) pe_str (nomark _)) (pss_cons (ps_asg (pe_tup (pa_cons (C8.pe_c c__law_worth hr (by omega) (by rfl) (pa_cons (pv 0) (pa_cons (pe_ix ix_tup (pv 4) pe_int (fun _ _ => rfl)) pa_nil))) (pa_cons (C8.pe_c c__law_worth hr (by omega) (by rfl) (pa_cons (pv 0) (pa_cons (pe_ix ix_tup (pv 4) pe_int (fun _ _ => rfl)) pa_nil))) pa_nil))) (pg_tup rfl (pgs_cons (pg_name (i := 8) sc__law_done.nd rfl (Or.inl rfl)) (pgs_cons (pg_name (i := 9) sc__law_done.nd rfl (Or.inr rfl)) pgs_nil))))
    (pss_cons (ps_dput (hu_of hr) (pe_ix ix_list (pv 0) pe_int (fun _ _ => rfl)) (pe_ix ix_tup (pv 4) pe_int (fun _ _ => rfl)) (C8.pe_c c__law_deed hr (by omega) (by rfl) (pa_cons (pe_ix ix_tup (pv 4) pe_int (fun _ _ => rfl)) (pa_cons (pv 8) (pa_cons (pv 9) pa_nil)))) rfl)
    (pss_one (ps_if (pt_cmpR op_eq (pe_ix ix_tup (pv 4) pe_int (fun _ _ => rfl)) pe_str (nomark _)) (pss_one (ps_set (i := 6) sc__law_done.nd rfl (Or.inl rfl) (pe_op op_add pe_int (pe_callB call_len_seq (by rfl) T.len_ PySem.boot_len (pa_cons (pe_lc (own := [("_law_bit", 10)]) (g := (gName 10)) rfl sc__law_done.nd (pi_range1 (by rfl) T.range_ (pa_cons pe_int pa_nil)) (blkOk_by (own := [("_law_bit", 10)]) (N := N__law_done) (sc := defScope s__law_done) (by decide +kernel)) (fun _ _ _ _ _ => (pg_name (i := 10) sc__law_done.nd rfl (Or.inl rfl))) (fun _ _ _ _ _ => (pts_one (pt_cmpR op_gt (pe_op op_shr (pv 9) (pv 10)) pe_int (nomark _)))) (fun _ _ _ _ _ => (pv 10))) pa_nil)))))
    pss_nil))))
    (pss_one (ps_if (pt_cmpR op_eq (pe_ix ix_tup (pv 4) pe_int (fun _ _ => rfl)) pe_str (nomark _)) (pss_one (ps_dput (hu_of hr) (pe_ix ix_list (pv 0) pe_int (fun _ _ => rfl)) (pe_ix ix_tup (pv 4) pe_int (fun _ _ => rfl)) (C8.pe_c c__law_worth hr (by omega) (by rfl) (pa_cons (pv 0) (pa_cons (pe_ifExp (pt_cmpR op_gt (C8.pe_c c__law_worth hr (by omega) (by rfl) (pa_cons (pv 0) (pa_cons (pe_ix ix_tup (pv 4) pe_int (fun _ _ => rfl)) pa_nil))) pe_int (nomark _)) (pe_ix ix_tup (pv 4) pe_int (fun _ _ => rfl)) (pe_ix ix_tup (pv 4) pe_int (fun _ _ => rfl))) pa_nil))) rfl))
    (pss_one (ps_if (pt_cmpR op_eq (pe_ix ix_tup (pv 4) pe_int (fun _ _ => rfl)) pe_str (nomark _)) (pss_cons (ps_set (i := 7) sc__law_done.nd rfl (Or.inl rfl) (C8.pe_c c__law_cell hr (by omega) (by rfl) (pa_cons (pv 0) (pa_cons (pe_ix ix_tup (pv 4) pe_int (fun _ _ => rfl)) (pa_cons (C8.pe_c c__law_worth hr (by omega) (by rfl) (pa_cons (pv 0) (pa_cons (pe_ix ix_tup (pv 4) pe_int (fun _ _ => rfl)) pa_nil))) (pa_cons (pv 2) pa_nil))))))
    (pss_one (ps_dput (hu_of hr) (pe_ix ix_list (pv 0) pe_int (fun _ _ => rfl)) (pe_ix ix_tup (pv 4) pe_int (fun _ _ => rfl)) (pe_ifExp (pt_cmpR op_isN (pv 7) pe_non (nomark _)) pe_int (pe_ix ix_list (pe_ix ix_list (pv 0) pe_int (fun _ _ => rfl)) (pv 7) (fun _ _ => rfl))) rfl)))
    (pss_one (ps_if (pt_cmpR op_eq (pe_ix ix_tup (pv 4) pe_int (fun _ _ => rfl)) pe_str (nomark _)) (pss_cons (ps_set (i := 7) sc__law_done.nd rfl (Or.inl rfl) (C8.pe_c c__law_cell hr (by omega) (by rfl) (pa_cons (pv 0) (pa_cons (pe_ix ix_tup (pv 4) pe_int (fun _ _ => rfl)) (pa_cons (C8.pe_c c__law_worth hr (by omega) (by rfl) (pa_cons (pv 0) (pa_cons (pe_ix ix_tup (pv 4) pe_int (fun _ _ => rfl)) pa_nil))) (pa_cons (pv 2) pa_nil))))))
    (pss_one (ps_if (pt_cmpR op_notN (pv 7) pe_non (nomark _)) (pss_one (ps_asg (C8.pe_c c__law_worth hr (by omega) (by rfl) (pa_cons (pv 0) (pa_cons (pe_ix ix_tup (pv 4) pe_int (fun _ _ => rfl)) pa_nil))) (pg_sub (pe_ix ix_list (pv 0) pe_int (fun _ _ => rfl)) (pv 7) set_list)))
    pss_nil)))
    (pss_one (ps_if (PW.pt (pw_and (pt_cmpR op_eq (pe_ix ix_tup (pv 4) pe_int (fun _ _ => rfl)) pe_str (nomark _)) (pw_and1 (pt_not (pt_val (pv 2)))))) (pss_one (ps_asg (pe_op op_cat (pe_ix ix_list (pv 0) pe_int (fun _ _ => rfl)) (pe_lst (pa_cons (C8.pe_c c__law_worth hr (by omega) (by rfl) (pa_cons (pv 0) (pa_cons (pe_ix ix_tup (pv 4) pe_int (fun _ _ => rfl)) pa_nil))) pa_nil))) (pg_sub (pv 0) pe_int set_list)))
    pss_nil)))))))))
    (pss_one (ps_ret (pe_tup (pa_cons (pv 3) (pa_cons (pv 6) (pa_cons (pv 7) pa_nil))))))))), ?_⟩)
  · obtain ⟨Hb, a, ls, s, r, v, b, rfl, _⟩ := h
    rfl
  · obtain ⟨Hb, a, ls, s, r, v, b, rfl, hR, hL, hD1, lenv, lout, he, nt, q1, q2⟩ := h
    have fin : ∀ H' a' q i j, a'.A = a.A → TS H H' → AmidAt Hb H' a' ls (exec s r).2 → H' q = some (.tup [.int i, .int j, optV (plc ls (exec s r).1)]) → Q (.ref q) H' := fun H' a' q i j e t h hq => by
      cases b with
      | false => exact q1 rfl H' a' q i j e t h hq
      | true => exact q2 rfl H' _ h.sm
    obtain ⟨hMM, ⟨kk, okr⟩, n0⟩ := id hD1
    have wo : ∀ o, okO o → okV (wor s.env o) := fun o h => wor_ok hMM.env h
    cases r with
    | ite a1 b1 b2 => exact absurd (Or.inl ⟨_, _, _, rfl⟩) nt
    | whl a1 n1 b1 => exact absurd (Or.inr ⟨_, _, _, rfl⟩) nt
    | set x d a1 a2 =>
      obtain ⟨p, i, vr, n, rfl, hp, pr, rfl, hpr⟩ := he
      have w1 := wo _ okr.2.2.1
      have w2 := wo _ okr.2.2.2
      have od := okr.2.1
      walk_at "go"
      rename_i p9 n9
      have hR2 := hR.nw (o := .tup [.int 1, .non]) n9
      have t2 := ts_nw (o := .tup [.int 1, .non]) (TS.refl H) n9
      refine ⟨Hb, a, ls, s, a1, rfl, hR2, ?_⟩
      walk_at "go"
      refine ⟨Hb, a, ls, s, a2, rfl, hR2, ?_⟩
      walk_at "go"
      rename_i p8 n8
      have hR3 := hR2.nw (o := .tup [.int (wor s.env a1), .int (wor s.env a2)]) n8
      have t3 := t2.trans (ts_nw (o := .tup [.int (wor s.env a1), .int (wor s.env a2)]) (TS.refl _) n8)
      refine ⟨d, _, _, rfl, od, w1, w2, fun H4 s4 => ?_⟩
      have hR4 := hR3.same s4
      have t4 := t3.trans (same_ts s4)
      have hpr4 := t4 _ _ hpr
      obtain ⟨z1, z2⟩ := hR4.putD (putE s.env x (deed d (wor s.env a1) (wor s.env a2)))
      have put : DPut H4 a.D (.str x) (.int (deed d (wor s.env a1) (wor s.env a2))) (upd H4 a.D (.dK (envK (putE s.env x (deed d (wor s.env a1) (wor s.env a2)))))) :=
        .inl ⟨_, Sum.inr x, hR4.hD, rfl, sm_lt (by rw [envK_len]; omega), by rw [putK_env]⟩
      walk_at "go"
      refine ⟨a.A, _, 0, _, rfl, rfl, SqL.of hR4.hA, rfl, ?_⟩
      walk_at "go"
      refine ⟨a.D, _, rfl, put, ?_⟩
      have t5 := t4.trans z2
      have hpr5 := z2 _ _ hpr4
      clear hR2 hR3 hR4
      generalize upd H4 a.D (.dK (envK (putE s.env x (deed d (wor s.env a1) (wor s.env a2))))) = H5 at z1 z2 t5 hpr5 ⊢
      walk_at "go"
      refine ite_b (fun c => ?_) (fun c => ?_)
      · walk_at "go"
        rename_i D nD
        refine lc_inv walk_range nD (by decide) (fun _ _ _ => True) (fun _ _ _ _ _ _ => True.intro) True.intro (fun _ _ => True.intro) ?_ ?_
        · rintro j x' H6 H7 acc Kf Kn kf kn hj s6 _ ⟨rfl, rfl⟩
          have j0 : (0 : Int) ≤ 0 + (j : Int) := by omega
          walk_at "go"
          refine ite_b (fun c => ?_) (fun c => ?_)
          · walk_at "go"
            exact kf _ _ (Same.refl _) True.intro
          · exact kn _ (Same.refl _) True.intro
        · rintro H6 acc s6 hD6 la _
          refine ⟨D, acc, rfl, Or.inl (SqL.of hD6), ?_⟩
          walk_at "go"
          rename_i pq nq
          exact fin _ a pq i _ rfl (t5.trans (ts_nw (same_ts s6) nq)) ((z1.same s6).nw nq) upd_same
      · walk_at "go"
        rename_i pq nq
        exact fin _ a pq i _ rfl (ts_nw t5 nq) (z1.nw nq) upd_same
    | get x l a1 =>
      obtain ⟨p, i, vr, n, rfl, hp, pr, rfl, hpr⟩ := he
      have w1 := wo _ okr.2.2
      walk_at "go"
      rename_i p9 n9
      have hR2 := hR.nw (o := .tup [.int 1, .non]) n9
      have t2 := ts_nw (o := .tup [.int 1, .non]) (TS.refl H) n9
      refine ⟨Hb, a, ls, s, a1, rfl, hR2, ?_⟩
      walk_at "go"
      have put : ∀ H, AmidAt Hb H a ls s → DPut H a.D (.str x) (.int (memGet s.mem (cel s l a1))) (upd H a.D (.dK (envK (putE s.env x (memGet s.mem (cel s l a1)))))) := fun H h =>
        .inl ⟨_, Sum.inr x, h.hD, rfl, sm_lt (by rw [envK_len]; omega), by rw [putK_env]⟩
      refine ⟨Hb, a, ls, s, l, a1, b, rfl, hR2, hL, hMM, okr.2.1, w1, fun eb H3 s3 => ?_, fun eb j H3 s3 hj => ?_⟩
      · have hR3 := hR2.same s3
        have t3 := t2.trans (same_ts s3)
        have hpr3 := t3 _ _ hpr
        obtain ⟨z1, z2⟩ := hR3.putD (putE s.env x (memGet s.mem (cel s l a1)))
        have put := put _ hR3
        have fin2 : ∀ (o : Option Int) (pq : Addr) (pc : Int), plc ls (cel s l a1) = o → (upd H3 a.D (.dK (envK (putE s.env x (memGet s.mem (cel s l a1)))))) pq = none → Q (.ref pq) (upd (upd H3 a.D (.dK (envK (putE s.env x (memGet s.mem (cel s l a1)))))) pq (.tup [.int i, .int pc, optV o])) := fun o pq pc e nq => by
          subst e
          exact fin _ a pq i pc rfl (ts_nw (t3.trans z2) nq) (z1.nw nq) upd_same
        rcases cel_at hL hMM okr.2.1 w1.1 with ⟨e1, e2⟩ | ⟨i', p', e1, e2, e3, e4⟩
        · rw [e2]
          have e5 : memGet s.mem (cel s l a1) = 0 := by rw [e1]; rfl
          rw [e5] at put z1 z2 fin2
          walk_at "go"
          refine ⟨a.A, _, 0, _, rfl, rfl, SqL.of hR3.hA, rfl, ?_⟩
          walk_at "go"
          refine ⟨a.D, _, rfl, put, ?_⟩
          walk_at "go"
          rename_i pq nq
          exact fin2 none pq 1 e2 nq
        · rw [e2]
          walk_at "go"
          refine ⟨a.A, _, 1, _, rfl, rfl, SqL.of hR3.hA, rfl, ?_⟩
          refine ⟨_, rfl, a.C, _, _, _, rfl, rfl, SqL.of hR3.hC, atI_nat (v := .int (memGet s.mem (cel s l a1))) (by rw [List.getElem?_map, e3]; rfl), ?_⟩
          walk_at "go"
          refine ⟨a.A, _, 0, _, rfl, rfl, SqL.of hR3.hA, rfl, ?_⟩
          walk_at "go"
          refine ⟨a.D, _, rfl, put, ?_⟩
          walk_at "go"
          rename_i pq nq
          exact fin2 (some (p' : Int)) pq 1 e2 nq
      · have hR3 := hR2.same s3
        have hpr3 := s3 _ _ (t2 _ _ hpr)
        obtain ⟨z1, z2⟩ := hR3.putD (putE s.env x ((flat ls s.mem)[j]'hj))
        have put : DPut H3 a.D (.str x) (.int ((flat ls s.mem)[j]'hj)) (upd H3 a.D (.dK (envK (putE s.env x ((flat ls s.mem)[j]'hj))))) :=
          .inl ⟨_, Sum.inr x, hR3.hD, rfl, sm_lt (by rw [envK_len]; omega), by rw [putK_env]⟩
        walk_at "go"
        refine ⟨a.A, _, 1, _, rfl, rfl, SqL.of hR3.hA, rfl, ?_⟩
        refine ⟨_, rfl, a.C, _, _, _, rfl, rfl, SqL.of hR3.hC, atI_nat (v := .int ((flat ls s.mem)[j]'hj)) (by rw [List.getElem?_map, List.getElem?_eq_getElem hj]; rfl), ?_⟩
        walk_at "go"
        refine ⟨a.A, _, 0, _, rfl, rfl, SqL.of hR3.hA, rfl, ?_⟩
        walk_at "go"
        refine ⟨a.D, _, rfl, put, ?_⟩
        walk_at "go"
        rename_i pq nq
        exact q2 eb _ _ (z1.nw nq).sm
    | put l a1 a2 =>
      obtain ⟨p, i, vr, n, rfl, hp, pr, rfl, hpr⟩ := he
      have w1 := wo _ okr.2.1
      have w2 := wo _ okr.2.2
      walk_at "go"
      rename_i p9 n9
      have hR2 := hR.nw (o := .tup [.int 1, .non]) n9
      have t2 := ts_nw (o := .tup [.int 1, .non]) (TS.refl H) n9
      refine ⟨Hb, a, ls, s, a1, rfl, hR2, ?_⟩
      walk_at "go"
      refine ⟨Hb, a, ls, s, l, a1, b, rfl, hR2, hL, hMM, okr.1, w1, fun eb H3 s3 => ?_, fun eb j H3 s3 hj => ?_⟩
      · have hR3 := hR2.same s3
        have t3 := t2.trans (same_ts s3)
        have hpr3 := t3 _ _ hpr
        rcases cel_at hL hMM okr.1 w1.1 with ⟨e1, e2⟩ | ⟨i', p', e1, e2, e3, e4⟩
        · rw [e2]
          walk_at "go"
          rename_i pq nq
          refine fin _ a pq i 1 rfl (ts_nw t3 nq) ?_ ?_
          · show AmidAt Hb _ a ls { s with mem := memSet s.mem (cel s l a1) (wor s.env a2) }
            rw [e1]
            exact hR3.nw nq
          · show _ = some (HO.tup [_, _, optV (plc ls (cel s l a1))])
            rw [e2]
            exact upd_same
        · obtain ⟨z1, z2⟩ := hR3.setC (m := memSet s.mem (cel s l a1) (wor s.env a2)) (xs := ((flat ls s.mem).map V.int).set p' (.int (wor s.env a2))) (by rw [e4, List.map_set])
          have lp := (List.getElem?_eq_some_iff.mp e3).1
          rw [e2]
          walk_at "go"
          refine ⟨Hb, a, ls, s, a2, rfl, hR3, ?_⟩
          walk_at "go"
          refine ⟨a.A, _, 1, _, rfl, rfl, SqL.of hR3.hA, rfl, ?_⟩
          refine ⟨_, rfl, a.C, _, _, p', rfl, rfl, hR3.hC, ?_, ?_⟩
          · unfold ixN
            rw [if_pos (Int.natCast_nonneg p')]
            simp [lp]
          · walk_at "go"
            rename_i pq nq
            refine fin _ a pq i 1 rfl (ts_nw (t3.trans z2) nq) (z1.nw nq) ?_
            show _ = some (HO.tup [_, _, optV (plc ls (cel s l a1))])
            rw [e2]
            exact upd_same
      · have hR3 := hR2.same s3
        have hpr3 := s3 _ _ (t2 _ _ hpr)
        walk_at "go"
        refine ⟨Hb, a, ls, s, a2, rfl, hR3, ?_⟩
        walk_at "go"
        refine ⟨a.A, _, 1, _, rfl, rfl, SqL.of hR3.hA, rfl, ?_⟩
        refine ⟨_, rfl, a.C, _, _, j, rfl, rfl, hR3.hC, ?_, ?_⟩
        · unfold ixN
          rw [if_pos (Int.natCast_nonneg j)]
          simp [hj]
        · walk_at "go"
          rename_i pq nq
          exact q2 eb _ _ (same_nw (same_mut hR3.sm hR3.fC) nq)
    | pick x a1 a2 a3 =>
      obtain ⟨p, i, vr, n, rfl, hp, pr, rfl, hpr⟩ := he
      have put : ∀ (H : Hp) (v : Int), AmidAt Hb H a ls s → DPut H a.D (.str x) (.int v) (upd H a.D (.dK (envK (putE s.env x v)))) := fun H v h =>
        .inl ⟨_, Sum.inr x, h.hD, rfl, sm_lt (by rw [envK_len]; omega), by rw [putK_env]⟩
      have w1 := wo _ okr.2.1
      walk_at "go"
      rename_i p9 n9
      have hR2 := hR.nw (o := .tup [.int 1, .non]) n9
      have t2 := ts_nw (o := .tup [.int 1, .non]) (TS.refl H) n9
      refine ⟨Hb, a, ls, s, a1, rfl, hR2, ?_⟩
      walk_at "go"
      refine ite_b (fun c => ?_) (fun c => ?_)
      · have c : ¬ wor s.env a1 = 0 := by
          have := of_decide_eq_true c
          omega
        obtain ⟨z1, z2⟩ := hR2.putD (putE s.env x (wor s.env a2))
        have ex : (exec s (.pick x a1 a2 a3)) = (none, { s with env := putE s.env x (wor s.env a2) }) := by
          show (none, { s with env := putE s.env x (if wor s.env a1 = 0 then wor s.env a3 else wor s.env a2) }) = _
          rw [if_neg c]
        rw [ex] at fin
        walk_at "go"
        refine ⟨Hb, a, ls, s, a2, rfl, hR2, ?_⟩
        walk_at "go"
        refine ⟨a.A, _, 0, _, rfl, rfl, SqL.of hR2.hA, rfl, ?_⟩
        walk_at "go"
        refine ⟨a.D, _, rfl, put _ _ hR2, ?_⟩
        walk_at "go"
        rename_i pq nq
        exact fin _ a pq i 1 rfl (ts_nw (t2.trans z2) nq) (z1.nw nq) upd_same
      · have c : wor s.env a1 = 0 := by
          have c : ¬ 0 < wor s.env a1 := of_decide_eq_false c
          have := w1.1
          omega
        obtain ⟨z1, z2⟩ := hR2.putD (putE s.env x (wor s.env a3))
        have ex : (exec s (.pick x a1 a2 a3)) = (none, { s with env := putE s.env x (wor s.env a3) }) := by
          show (none, { s with env := putE s.env x (if wor s.env a1 = 0 then wor s.env a3 else wor s.env a2) }) = _
          rw [if_pos c]
        rw [ex] at fin
        walk_at "go"
        refine ⟨Hb, a, ls, s, a3, rfl, hR2, ?_⟩
        walk_at "go"
        refine ⟨a.A, _, 0, _, rfl, rfl, SqL.of hR2.hA, rfl, ?_⟩
        walk_at "go"
        refine ⟨a.D, _, rfl, put _ _ hR2, ?_⟩
        walk_at "go"
        rename_i pq nq
        exact fin _ a pq i 1 rfl (ts_nw (t2.trans z2) nq) (z1.nw nq) upd_same
    | lt a1 =>
      obtain ⟨p, i, vr, n, rfl, hp, pr, rfl, hpr⟩ := he
      walk_at "go"
      rename_i p9 n9
      have hR2 := hR.nw (o := .tup [.int 1, .non]) n9
      have t2 := ts_nw (o := .tup [.int 1, .non]) (TS.refl H) n9
      cases b with
      | true =>
        walk_at "go"
        rename_i pq nq
        exact q2 rfl _ _ (hR2.nw nq).sm
      | false =>
        walk_at "go"
        refine ⟨a.A, _, 4, _, rfl, rfl, SqL.of hR2.hA, rfl, ?_⟩
        walk_at "go"
        refine ⟨Hb, a, ls, s, a1, rfl, hR2, ?_⟩
        walk_at "go"
        rename_i L nL
        have hR3 := hR2.nw (o := .lst [.int (wor s.env a1)]) nL
        have t3 := t2.trans (ts_nw (o := .lst [.int (wor s.env a1)]) (TS.refl _) nL)
        refine ⟨a.L, L, _, _, rfl, rfl, hR3.hL, upd_same, sm_sz (by rw [List.length_map, List.length_singleton]; omega), fun pn npn => ?_⟩
        obtain ⟨z1, z2⟩ := hR3.setL (o := s.out ++ [wor s.env a1]) (p := pn) (xs := s.out.map V.int ++ [.int (wor s.env a1)]) npn (by rw [List.map_append]; rfl)
        refine ⟨_, rfl, ?_⟩
        refine ⟨a.A, _, 4, 4, rfl, rfl, (hR3.nw npn).hA, rfl, ?_⟩
        walk_at "go"
        rename_i pq nq
        exact fin _ { a with L := pn } pq i 1 rfl (ts_nw (t3.trans z2) nq) (z1.nw nq) upd_same
end
end NW
/-! ## Walks: what the law runs ahead -/
namespace NW
open PySem PySem.Spec PyProof.Rows L2
set_option pp.maxSteps 150
-- an object's place in a heap
local macro_rules | `(tactic| walk_at "hp") => `(tactic| (show _ = some _; first
  | assumption
  | exact upd_same
  | (refine' upd_get ?n ?h; (case n => assumption); (case h => walk_at "hp"))
  | (refine' same_get ?n ?h; (case n => assumption); (case h => walk_at "hp"))))
-- a heap that has grown
local macro_rules | `(tactic| walk_at "sm") => `(tactic| first
  | assumption
  | exact Same.refl _
  | (refine' same_nw ?n ?h; (case h => assumption); (case n => walk_at "sm"))
  | (refine' Same.trans ?n ?h; (case h => assumption); (case n => walk_at "sm")))
local macro_rules | `(tactic| walk_at "ty") => `(tactic| first
  | exact TyN.int _
  | exact TyN.str _
  | exact TyN.non
  | (refine' TyN.tup ?h; (case h => walk_at "hp"))
  | (refine' TyN.lst ?h; (case h => walk_at "hp")))
-- a test whose answer is known
local macro_rules | `(tactic| walk_at "if") => `(tactic| first
  | (refine iteB (by decide +kernel) ?_)
  | (refine iteN (by decide +kernel) ?_)
  | (refine iteB (by rfl) ?_)
  | (refine iteN (by rfl) ?_)
  | (refine iteB (decide_eq_true (by first | omega | assumption)) ?_)
  | (refine iteN (decide_eq_false (by first | omega | assumption)) ?_)
  | (refine iteB (by simp only [Bool.not_eq_true', Bool.not_eq_false', Bool.and_eq_true, Bool.and_eq_false_iff, Bool.or_eq_true, Bool.or_eq_false_iff, decide_eq_true_eq, decide_eq_false_iff_not]; omega) ?_)
  | (refine iteN (by simp only [Bool.not_eq_true', Bool.not_eq_false', Bool.and_eq_true, Bool.and_eq_false_iff, Bool.or_eq_true, Bool.or_eq_false_iff, decide_eq_true_eq, decide_eq_false_iff_not]; omega) ?_))
-- one step of a reading
local macro_rules | `(tactic| walk_at "s") => `(tactic| first
  | refine ⟨_, rfl, ?_⟩
  | refine ⟨_, _, rfl, rfl, ?_⟩
  | refine And.intro (show wipe _ _ = wipe _ _ by kernel_rfl) ?_
  | refine And.intro rfl ?_
  | (refine' ⟨_, _, _, _, rfl, rfl, SqT.of ?h, ?e, ?_⟩; (case h => walk_at "hp"); (case e => exact rfl))
  | (refine' ⟨_, _, rfl, ?t, ?_⟩; (case t => walk_at "ty"))
  | (refine' ⟨_, _, rfl, SqT.of ?h, ?e, ?_⟩; (case h => walk_at "hp"); (case e => exact rfl))
  | refine ⟨_, _, rfl, ?_⟩
  | (refine' ⟨_, _, _, rfl, rfl, ?h1, ?h2, ?_⟩; (case h1 => walk_at "hp"); (case h2 => walk_at "hp"))
  | (refine' ⟨_, _, _, _, rfl, rfl, SqL.of ?h, ?e, ?_⟩; (case h => walk_at "hp"); (case e => exact rfl))
  | (refine' ⟨_, _, rfl, Or.inr (SqT.of ?h), ?_⟩; (case h => walk_at "hp"))
  | (refine' ⟨_, _, rfl, Or.inr (SqT.of ?h), rfl, rfl, ?_⟩; (case h => walk_at "hp"))
  | (refine' ⟨_, _, rfl, Or.inl (SqL.of ?h), ?_⟩; (case h => walk_at "hp"))
  | refine And.intro (flat_strs _) ?_
  | (refine And.intro (sm_sz (Nat.le_of_ble_eq_true rfl)) ?_; intro p np)
  | walk_at "if"
  | (refine' And.intro ?a ?_; (case a => first | assumption | exact sm_sz (by omega) | omega | exact Or.inr ⟨by omega, by omega⟩ | exact Or.inl ⟨by omega, by omega⟩ | exact ⟨by omega, by omega⟩))
  | refine Or.inl ⟨_, _, _, rfl, ?_⟩
  | refine Or.inr ⟨_, _, _, rfl, ?_⟩
  | (intro Hn sn))
local macro_rules | `(tactic| walk_at "go") => `(tactic| repeat (walk_at "s"))

abbrev s__law_ahead : Stmt := topS 100
abbrev N__law_ahead : List Str := ["_law_amid", "_law_here", "_law_is_yes", "_law_window", "_law_late", "_law_found", "_law_other"]
abbrev P__law_ahead : List Str := ["_law_amid", "_law_here", "_law_is_yes", "_law_window"]
theorem sc__law_ahead : FnScope N__law_ahead P__law_ahead (defScope s__law_ahead) := ⟨rfl, rfl, rfl, by decide +kernel, rfl, by decide +kernel, by decide +kernel⟩

/-- a test's row, in a heap -/
theorem EntAt.test {H : Hp} {r : Row} {v : V} (h : EntAt H r v) (t : isT r) : ∃ p i pr n rest, v = .ref p ∧ H p = some (.tup [.int i, .ref pr, .int n]) ∧ H pr = some (.tup (.str r.word :: (tOpd r).v :: rest)) := by
  rcases t with ⟨a, t, e, rfl⟩ | ⟨a, n, b, rfl⟩
  · obtain ⟨p, i, vr, n, rfl, hp, pr, pt, pe, ts, es, rfl, hpr, _⟩ := h
    exact ⟨p, i, pr, n, _, rfl, hp, hpr⟩
  · obtain ⟨p, i, vr, n0, rfl, hp, pr, pb, bs, rfl, hpr, _⟩ := h
    exact ⟨p, i, pr, _, _, rfl, hp, hpr⟩
theorem word_test {r : Row} (t : isT r) : r.word = "if" ∨ r.word = "while" := by
  rcases t with ⟨a, t, e, rfl⟩ | ⟨a, n, b, rfl⟩
  · exact Or.inl rfl
  · exact Or.inr rfl
theorem word_plain {r : Row} (tn : ¬ isT r) : r.word ≠ "if" ∧ r.word ≠ "while" := by
  cases r with
  | ite a t e => exact absurd (Or.inl ⟨_, _, _, rfl⟩) tn
  | whl a n b => exact absurd (Or.inr ⟨_, _, _, rfl⟩) tn
  | _ => exact ⟨fun z => (nomatch (of_decide_eq_false (rfl : decide _ = false) z)), fun z => (nomatch (of_decide_eq_false (rfl : decide _ = false) z))⟩
theorem word_fence (r : Row) : r.word ≠ "fence" := by
  cases r <;> exact fun z => nomatch (of_decide_eq_false (rfl : decide _ = false) z)
theorem inV_two (z a b : Str) : inV (V.str z) [V.str a, V.str b] = (decide (z = a) || decide (z = b)) := by
  have e : ∀ a, eqV (.str a) (.str z) = decide (z = a) := fun a => by
    by_cases q : z = a
    · subst q
      exact (show eqV (.str z) (.str z) = true from decide_eq_true rfl).trans (decide_eq_true rfl).symm
    · exact (show eqV (.str a) (.str z) = false from decide_eq_false fun e => q e.symm).trans (decide_eq_false q).symm
  show (eqV (.str a) (.str z) || (eqV (.str b) (.str z) || false)) = _
  rw [e, e, Bool.or_false]
theorem isT_dec (r : Row) : isT r ∨ ¬ isT r := Classical.em _
section
variable {P : Program} {w : World} {K : PySem.W.Frag} {mg : Str → Option Value} {base : Heap}
theorem ok_law_ahead (T : Tx mg) (D : DefAt K mg "_law_ahead" s__law_ahead) (c__law_due : C8.Cal P w K mg base 1 "_law_due" sp_law_due []) (c__law_turn : C8.Cal P w K mg base 7 "_law_turn" sp_law_turn []) (c__law_worth : C8.Cal P w K mg base 1 "_law_worth" sp_law_worth []) (c__law_done : C8.Cal P w K mg base 2 "_law_done" sp_law_done []) : C8.Cal P w K mg base 8 "_law_ahead" sp_law_ahead [] := by
  refine D.cal (k := 7) sc__law_ahead (fun _ _ _ _ _ _ us hl => match us, hl with | [_, _, _, _], _ => rfl) (fun vs H Q E h => ?_) (fun f cdv A outer s H vs Q E hr h => ⟨_, (pss_cons (ps_set (i := 4) sc__law_ahead.nd rfl (Or.inl rfl) (pe_lst (pa_cons (pe_callTy call_dictD (by rfl) T.dict_ (by decide +kernel) (pa_cons (pe_ix ix_list (pv 0) pe_int (fun _ _ => rfl)) pa_nil)) (pa_cons (pe_callTy call_list_of (by rfl) T.list_ (by decide +kernel) (pa_cons (pe_ix ix_list (pv 0) pe_int (fun _ _ => rfl)) pa_nil)) (pa_cons (pe_ix ix_list (pv 0) pe_int (fun _ _ => rfl)) (pa_cons (pe_callTy call_list_of (by rfl) T.list_ (by decide +kernel) (pa_cons (pe_ix ix_list (pv 0) pe_int (fun _ _ => rfl)) pa_nil)) (pa_cons (pe_lst pa_nil) pa_nil)))))))
    (pss_cons (ps_expr (C8.pe_c c__law_turn hr (by omega) (by rfl) (pa_cons (pv 4) (pa_cons (pv 1) (pa_cons (pe_not (pv 2)) pa_nil)))))
    (pss_cons (ps_set (i := 5) sc__law_ahead.nd rfl (Or.inl rfl) (pe_lst pa_nil))
    (pss_cons (ps_while PassesOwn.never (pt_cmpR op_lt (pe_callB call_len_seq (by rfl) T.len_ PySem.boot_len (pa_cons (pv 5) pa_nil)) (pv 3) (nomark _)) (pss_cons (ps_set (i := 6) sc__law_ahead.nd rfl (Or.inl rfl) (C8.pe_c c__law_due hr (by omega) (by rfl) (pa_cons (pv 4) pa_nil)))
    (pss_cons (ps_if (PW.pt (pw_or (pt_cmpR op_isN (pv 6) pe_non (nomark _)) (pw_or1 (pt_cmpR op_eq (pe_ix ix_tup (pe_ix ix_tup (pv 6) pe_int (fun _ _ => rfl)) pe_int (fun _ _ => rfl)) pe_str (nomark _))))) (pss_one (ps_ret (pv 5)))
    pss_nil)
    (pss_one (ps_if (pt_cmpR op_in_seq (pe_ix ix_tup (pe_ix ix_tup (pv 6) pe_int (fun _ _ => rfl)) pe_int (fun _ _ => rfl)) (pe_tup (pa_cons pe_str (pa_cons pe_str pa_nil))) (by rfl)) (pss_cons (ps_expr (C8.pe_c c__law_turn hr (by omega) (by rfl) (pa_cons (pv 4) (pa_cons (pv 6) (pa_cons (pe_cmpR op_gt (C8.pe_c c__law_worth hr (by omega) (by rfl) (pa_cons (pv 4) (pa_cons (pe_ix ix_tup (pe_ix ix_tup (pv 6) pe_int (fun _ _ => rfl)) pe_int (fun _ _ => rfl)) pa_nil))) pe_int (nomark _)) pa_nil)))))
    (pss_one (ps_expr (pe_bm PySem.F.plainAttrs_list PySem.F.slot_list_append PySem.F.type_list_append mt_append (pv 5) (pa_cons (pe_tup (pa_cons (pe_ix ix_tup (pv 6) pe_int (fun _ _ => rfl)) (pa_cons pe_int (pa_cons pe_non pa_nil)))) pa_nil)))))
    (pss_one (ps_expr (pe_bm PySem.F.plainAttrs_list PySem.F.slot_list_append PySem.F.type_list_append mt_append (pv 5) (pa_cons (C8.pe_c c__law_done hr (by omega) (by rfl) (pa_cons (pv 4) (pa_cons (pv 6) (pa_cons pe_bl pa_nil)))) pa_nil)))))))))
    (pss_one (ps_ret (pv 5))))))), ?_⟩)
  · obtain ⟨Hb, a, ls, s, r, v, b, rfl, _⟩ := h
    rfl
  · obtain ⟨Hb, a, ls, s, r, v, b, rfl, hR, hL, hD1, hk, h3, lenv, lstk, he, ht, q⟩ := h
    walk_at "go"
    refine ⟨a.A, _, 0, _, rfl, rfl, SqL.of hR.hA, rfl, ?_⟩
    walk_at "go"
    refine ⟨a.D, _, rfl, .inl hR.hD, fun D nD => ?_⟩
    walk_at "go"
    have hR1 := hR.nw (o := .dK (envK s.env)) nD
    refine ⟨a.A, _, 1, _, rfl, rfl, SqL.of hR1.hA, rfl, ?_⟩
    walk_at "go"
    refine ⟨a.C, _, rfl, Or.inl (SqL.of hR1.hC), fun C nC => ?_⟩
    have hR2 := hR1.nw (o := .lst ((flat ls s.mem).map .int)) nC
    walk_at "go"
    refine ⟨a.A, _, 2, _, rfl, rfl, SqL.of hR2.hA, rfl, ?_⟩
    walk_at "go"
    refine ⟨a.A, _, 3, _, rfl, rfl, SqL.of hR2.hA, rfl, ?_⟩
    walk_at "go"
    obtain ⟨ws, w1, w2⟩ := hR2.hW
    refine ⟨a.W, _, rfl, Or.inl (SqL.of w1), fun W nW => ?_⟩
    have hR3 := hR2.nw (o := .lst ws) nW
    walk_at "go"
    rename_i L nL A1 nA
    obtain ⟨gs, g1, g2⟩ := hR.hG
    have hCn : H C = none := none_of (same_nw (Same.refl _) nD) nC
    have hWn : H W = none := none_of (same_nw (same_nw (Same.refl _) nD) nC) nW
    have hLn : H L = none := none_of (same_nw (same_nw (same_nw (Same.refl _) nD) nC) nW) nL
    have hAn : H A1 = none := none_of (same_nw (same_nw (same_nw (same_nw (Same.refl _) nD) nC) nW) nL) nA
    have late : AmidAt H (upd (upd (upd (upd (upd H D (.dK (envK s.env))) C (.lst ((flat ls s.mem).map .int))) W (.lst ws)) L (.lst [])) A1 (.lst [.ref D, .ref C, .ref a.G, .ref W, .ref L])) ⟨A1, D, C, a.G, W, L⟩ ls { s with out := [] } := by
      have s5 : Same H (upd (upd (upd (upd (upd H D (.dK (envK s.env))) C (.lst ((flat ls s.mem).map .int))) W (.lst ws)) L (.lst [])) A1 (.lst [.ref D, .ref C, .ref a.G, .ref W, .ref L])) := same_nw (same_nw (same_nw (same_nw (same_nw (Same.refl _) nD) nC) nW) nL) nA
      have s25 : Same (upd (upd H D (.dK (envK s.env))) C (.lst ((flat ls s.mem).map .int))) (upd (upd (upd (upd (upd H D (.dK (envK s.env))) C (.lst ((flat ls s.mem).map .int))) W (.lst ws)) L (.lst [])) A1 (.lst [.ref D, .ref C, .ref a.G, .ref W, .ref L])) := same_nw (same_nw (same_nw (Same.refl _) nW) nL) nA
      have kC : (upd (upd H D (.dK (envK s.env))) C (.lst ((flat ls s.mem).map .int))) C = some (.lst ((flat ls s.mem).map .int)) := upd_same
      have kL := upd_get (o := .lst [.ref D, .ref C, .ref a.G, .ref W, .ref L]) nA (upd_same (a := L) (o := .lst []) (H := (upd (upd (upd H D (.dK (envK s.env))) C (.lst ((flat ls s.mem).map .int))) W (.lst ws))))
      refine ⟨s5, upd_same, upd_get nA (upd_get nL (upd_get nW (upd_get nC upd_same))), s25 _ _ kC, ⟨gs, s5 _ _ g1, g2.ts (same_ts s5)⟩, ⟨ws, upd_get nA (upd_get nL upd_same), Paired.mapP w2 fun _ _ z => z.ts (same_ts s25)⟩, kL, hAn, nD, hCn, hWn, hLn, ?_, ?_, ?_, ?_, ?_⟩
      · exact Ne.symm (ne_of_none g1 nD)
      · exact Ne.symm (ne_of_none (upd_get nL upd_same) nA)
      · exact ne_of_none kC nW
      · exact ne_of_none (upd_get nW kC) nL
      · exact Ne.symm (ne_of_none upd_same nL)
    have s5 := late.sm
    generalize upd (upd (upd (upd (upd H D (.dK (envK s.env))) C (.lst ((flat ls s.mem).map .int))) W (.lst ws)) L (.lst [])) A1 (.lst [.ref D, .ref C, .ref a.G, .ref W, .ref L]) = H5 at late s5 ⊢
    walk_at "go"
    refine ⟨H, _, ls, _, r, v, !b, rfl, late, he.ts (same_ts s5), ht, hk, by show s.stk.length ≤ 3000; omega, fun H6 a6 e6 t6 hR6 => ?_⟩
    walk_at "go"
    rename_i F nF
    have hFn : H F = none := none_of hR6.sm nF
    have hR7 : AmidAt (upd H F (.lst [])) (upd H6 F (.lst [])) a6 ls { s with stk := turnS r (!b) ++ s.stk, out := [] } := by
      have hR6' := hR6.nw (o := .lst []) nF
      have fr : ∀ {b : Addr} {u : HO}, H b = none → H6 b = some u → (upd H F (.lst [])) b = none := fun n m => by
        rw [upd_ne (ne_of_none m nF)]
        exact n
      obtain ⟨ws6, x1, x2⟩ := hR6.hW
      refine hR6'.base (fun b u e => ?_) (fr hR6.fA hR6.hA) (fr hR6.fD hR6.hD) (fr hR6.fC hR6.hC) (fr hR6.fW x1) (fr hR6.fL hR6.hL)
      by_cases c : b = F
      · subst c
        rw [upd_same] at e ⊢
        exact e
      · rw [upd_ne c] at e ⊢
        exact hR6.sm _ _ e
    have e6 : a6.A = A1 := e6
    subst e6
    have sF : Same H (upd H F (.lst [])) := same_nw (Same.refl _) hFn
    have F7 : (upd H6 F (.lst [])) F = some (.lst []) := upd_same
    generalize upd H6 F (.lst []) = H7 at hR7 F7 ⊢
    walk_at "go"
    refine ⟨fun m σ H' => (m = 1 ∧ H' = H7 ∧ σ = [some (.ref a.A), some v, some (.bl b), some (.int 1), some (.ref a6.A), some (.ref F), none]) ∨ (m = 0 ∧ Same H H' ∧ (∃ u, H' F = some (.lst [u])) ∧ ∃ o, σ = [some (.ref a.A), some v, some (.bl b), some (.int 1), some (.ref a6.A), some (.ref F), o]), ⟨1, .inl ⟨rfl, rfl, rfl⟩⟩, ?_⟩
    rintro m σ H8 (⟨rfl, rfl, rfl⟩ | ⟨rfl, s8, ⟨u, F8⟩, o, rfl⟩)
    · walk_at "go"
      refine ⟨fun σ' H' => Same H H' ∧ (∃ u, H' F = some (.lst [u])) ∧ ∃ o, σ' = [some (.ref a.A), some v, some (.bl b), some (.int 1), some (.ref a6.A), some (.ref F), o], fun σ' H' z => ⟨0, Nat.zero_lt_one, .inr ⟨rfl, z⟩⟩, ?_⟩
      walk_at "go"
      refine ⟨upd H F (.lst []), a6, ls, _, rfl, hR7, fun dn H9 t9 hR9 => ?_, fun r9 st9 dn H9 v9 t9 hR9 he9 => ?_⟩
      · walk_at "go"
        exact q _ _ (sF.trans hR9.sm)
      · have wf := word_fence r9
        have hM6 : okM ls { s with stk := turnS r (!b) ++ s.stk, out := [] } := ⟨hD1.1.env, hD1.1.mem, hD1.1.len, fun x m => (List.mem_append.mp m).elim (fun m => ⟨3, turn_ok3 hk hD1.2.2 x m⟩) (hD1.1.stk x)⟩
        have d9 := hM6.due dn
        obtain ⟨x1, x2, x3, x4⟩ := due_some dn
        have k9 : okRow (ls.map LD.nm) 3 r9 := (List.mem_append.mp x1).elim (turn_ok3 hk hD1.2.2 r9) (h3 r9)
        have l9 : st9.length ≤ 3000 := by
          have x3 : st9.length < (turnS r (!b) ++ s.stk).length := x3
          rw [List.length_append] at x3
          have := turn_len (b := !b) hk
          omega
        have le9 : s.env.length ≤ 1000 := lenv
        rcases isT_dec r9 with tt | nt
        · obtain ⟨p9, i9, pr9, n9, rest9, rfl, hp9, hpr9⟩ := he9.test tt
          have wt := word_test tt
          generalize r9.word = z at hpr9 wf wt
          walk_at "go"
          refine ⟨pr9, _, 0, _, rfl, rfl, SqT.of hpr9, atI0, ?_⟩
          walk_at "go"
          refine iteN (decide_eq_false fun e => wf (V.str.inj e)) ?_
          walk_at "go"
          refine ⟨pr9, _, 0, _, rfl, rfl, SqT.of hpr9, atI0, ?_⟩
          walk_at "go"
          rename_i pz nz
          refine iteB (by rw [inV_two]; rcases wt with rfl | rfl <;> decide) ?_
          have h9 := hR9.nw (o := .tup [.str "if", .str "while"]) nz
          have hz1 := upd_get (o := .tup [.str "if", .str "while"]) nz hp9
          have hz2 := upd_get (o := .tup [.str "if", .str "while"]) nz hpr9
          have he10 := he9.ts (same_ts (same_nw (o := .tup [.str "if", .str "while"]) (Same.refl _) nz))
          generalize upd H9 pz (.tup [.str "if", .str "while"]) = H10 at h9 hz1 hz2 he10 ⊢
          walk_at "go"
          refine ⟨pr9, _, 1, _, rfl, rfl, SqT.of hz2, atI_nat (p := 1) rfl, ?_⟩
          walk_at "go"
          refine ⟨_, a6, ls, _, tOpd r9, rfl, h9, ?_⟩
          walk_at "go"
          refine ⟨_, a6, ls, _, r9, _, _, rfl, h9, he10, tt, k9, l9, fun H11 a11 e11 t11 h11 => ?_⟩
          have F11 : H11 F = some (.lst []) := h11.sm _ _ upd_same
          have hp11 := t11 _ _ hz1
          walk_at "go"
          refine ⟨.inl ⟨rfl, _, SqL.of F11⟩, ?_⟩
          walk_at "go"
          rename_i q11 m11
          exact ⟨_, _, _, rfl, rfl, upd_get m11 F11, sm_lt (Nat.le_of_ble_eq_true rfl), same_mut (same_nw (sF.trans h11.sm) m11) hFn, ⟨_, upd_same⟩, _, rfl⟩
        · obtain ⟨p9, i9, pr9, n9, rest9, rfl, hp9, hpr9, _⟩ := he9.word
          obtain ⟨w1, w2⟩ := word_plain nt
          generalize r9.word = z at hpr9 wf w1 w2
          walk_at "go"
          refine ⟨pr9, _, 0, _, rfl, rfl, SqT.of hpr9, atI0, ?_⟩
          walk_at "go"
          refine iteN (decide_eq_false fun e => wf (V.str.inj e)) ?_
          walk_at "go"
          refine ⟨pr9, _, 0, _, rfl, rfl, SqT.of hpr9, atI0, ?_⟩
          walk_at "go"
          rename_i pz nz
          refine iteN (by rw [inV_two, decide_eq_false w1, decide_eq_false w2]; rfl) ?_
          have h9 := hR9.nw (o := .tup [.str "if", .str "while"]) nz
          have he10 := he9.ts (same_ts (same_nw (o := .tup [.str "if", .str "while"]) (Same.refl _) nz))
          generalize upd H9 pz (.tup [.str "if", .str "while"]) = H10 at h9 he10 ⊢
          walk_at "go"
          have F10 : H10 F = some (.lst []) := h9.sm _ _ upd_same
          refine ⟨.inl ⟨rfl, _, SqL.of F10⟩, ?_⟩
          walk_at "go"
          refine ⟨_, a6, ls, _, r9, _, true, rfl, h9, hL, d9, le9, Nat.zero_le _, he10, nt, fun z => (nomatch z), fun _ H11 v11 s11 => ?_⟩
          have F11 : H11 F = some (.lst []) := s11 _ _ upd_same
          walk_at "go"
          exact ⟨_, _, _, rfl, rfl, F11, sm_lt (Nat.le_of_ble_eq_true rfl), same_mut (sF.trans s11) hFn, ⟨_, upd_same⟩, _, rfl⟩
    · walk_at "go"
      exact q _ _ s8
end
end NW
/-! ## Walks: the law's run -/
namespace NW
open PySem PySem.Spec PyProof.Rows L2
set_option pp.maxSteps 150
-- an object's place in a heap
local macro_rules | `(tactic| walk_at "hp") => `(tactic| (show _ = some _; first
  | assumption
  | exact upd_same
  | (refine' upd_get ?n ?h; (case n => assumption); (case h => walk_at "hp"))
  | (refine' same_get ?n ?h; (case n => assumption); (case h => walk_at "hp"))))
-- a heap that has grown
local macro_rules | `(tactic| walk_at "sm") => `(tactic| first
  | assumption
  | exact Same.refl _
  | (refine' same_nw ?n ?h; (case h => assumption); (case n => walk_at "sm"))
  | (refine' Same.trans ?n ?h; (case h => assumption); (case n => walk_at "sm")))
local macro_rules | `(tactic| walk_at "ty") => `(tactic| first
  | exact TyN.int _
  | exact TyN.str _
  | exact TyN.non
  | (refine' TyN.tup ?h; (case h => walk_at "hp"))
  | (refine' TyN.lst ?h; (case h => walk_at "hp")))
-- a test whose answer is known
local macro_rules | `(tactic| walk_at "if") => `(tactic| first
  | (refine iteB (by decide +kernel) ?_)
  | (refine iteN (by decide +kernel) ?_)
  | (refine iteB (by rfl) ?_)
  | (refine iteN (by rfl) ?_)
  | (refine iteB (decide_eq_true (by first | omega | assumption)) ?_)
  | (refine iteN (decide_eq_false (by first | omega | assumption)) ?_)
  | (refine iteB (by simp only [Bool.not_eq_true', Bool.not_eq_false', Bool.and_eq_true, Bool.and_eq_false_iff, Bool.or_eq_true, Bool.or_eq_false_iff, decide_eq_true_eq, decide_eq_false_iff_not]; omega) ?_)
  | (refine iteN (by simp only [Bool.not_eq_true', Bool.not_eq_false', Bool.and_eq_true, Bool.and_eq_false_iff, Bool.or_eq_true, Bool.or_eq_false_iff, decide_eq_true_eq, decide_eq_false_iff_not]; omega) ?_))
-- one step of a reading
local macro_rules | `(tactic| walk_at "s") => `(tactic| first
  | refine ⟨_, rfl, ?_⟩
  | refine ⟨_, _, rfl, rfl, ?_⟩
  | refine And.intro (show wipe _ _ = wipe _ _ by kernel_rfl) ?_
  | refine And.intro rfl ?_
  | (refine' ⟨_, _, _, _, rfl, rfl, SqT.of ?h, ?e, ?_⟩; (case h => walk_at "hp"); (case e => exact rfl))
  | (refine' ⟨_, _, rfl, ?t, ?_⟩; (case t => walk_at "ty"))
  | (refine' ⟨_, _, rfl, SqT.of ?h, ?e, ?_⟩; (case h => walk_at "hp"); (case e => exact rfl))
  | refine ⟨_, _, rfl, ?_⟩
  | (refine' ⟨_, _, _, rfl, rfl, ?h1, ?h2, ?_⟩; (case h1 => walk_at "hp"); (case h2 => walk_at "hp"))
  | (refine' ⟨_, _, _, _, rfl, rfl, SqL.of ?h, ?e, ?_⟩; (case h => walk_at "hp"); (case e => exact rfl))
  | (refine' ⟨_, _, rfl, Or.inr (SqT.of ?h), ?_⟩; (case h => walk_at "hp"))
  | (refine' ⟨_, _, rfl, Or.inr (SqT.of ?h), rfl, rfl, ?_⟩; (case h => walk_at "hp"))
  | (refine' ⟨_, _, rfl, Or.inl (SqL.of ?h), ?_⟩; (case h => walk_at "hp"))
  | refine And.intro (flat_strs _) ?_
  | (refine And.intro (sm_sz (Nat.le_of_ble_eq_true rfl)) ?_; intro p np)
  | walk_at "if"
  | (refine' And.intro ?a ?_; (case a => first | assumption | exact sm_sz (by omega) | omega | exact Or.inr ⟨by omega, by omega⟩ | exact Or.inl ⟨by omega, by omega⟩ | exact ⟨by omega, by omega⟩))
  | refine Or.inl ⟨_, _, _, rfl, ?_⟩
  | refine Or.inr ⟨_, _, _, rfl, ?_⟩
  | (intro Hn sn))
local macro_rules | `(tactic| walk_at "go") => `(tactic| repeat (walk_at "s"))

abbrev s__law_run : Stmt := topS 101
abbrev N__law_run : List Str := ["_law_program_here", "_law_handing", "_law_window", "_law_amid", "_law_steps", "_law_aheads", "_law_here", "_law_told", "_law_is_yes", "_law_name"]
abbrev P__law_run : List Str := ["_law_program_here", "_law_handing", "_law_window"]
theorem sc__law_run : FnScope N__law_run P__law_run (defScope s__law_run) := ⟨rfl, rfl, rfl, by decide +kernel, rfl, by decide +kernel, by decide +kernel⟩

def sp_law_run : Sp := fun vs H Q _ => ∃ (p : Prog) (v : V) (g : List Part) (vg : V), vs = [v, vg, .int 1] ∧ ProgAt H p v ∧ okProg p ∧ okL p.lists ∧ HandAt H g vg ∧ Good p g ∧
  (runP p g = none → ∀ H', Same H H' → Q .non H') ∧
  ∀ cs os, runP p g = some (cs, os) → ∀ H' q t c pL pS pA ss, Same H H' → H' q = some (.tup [t, c, .ref pL, .ref pS, .ref pA]) → H' pL = some (.lst (os.map .int)) → H' pS = some (.lst ss) → Paired (StepAt H') (cs.map (plc p.lists)) ss → ss.length ≤ 400 → Q (.ref q) H'
/-- a list of the frame is written -/
theorem AmidAt.frame {Hb H : Hp} {a : AmA} {ls : List LD} {s : Mc} {S : Addr} {us xs : List V} (h : AmidAt Hb H a ls s) (hS : Hb S = some (.lst us)) : AmidAt (upd Hb S (.lst xs)) (upd H S (.lst xs)) a ls s ∧ TS H (upd H S (.lst xs)) := by
  obtain ⟨ws, h1, h2⟩ := h.hW
  obtain ⟨gs, g1, g2⟩ := h.hG
  have hH := h.sm _ _ hS
  have t : TS H (upd H S (.lst xs)) := ts_mut (TS.refl _) hH (fun _ z => nomatch z)
  have k : ∀ {b : Addr} {u : HO}, H b = some u → (∀ zs, u ≠ .lst zs) → upd H S (.lst xs) b = some u := fun hb ne => upd_mut (ne_of hb hH (ne _)) hb
  have nS : ∀ {b : Addr}, Hb b = none → b ≠ S := fun n => Ne.symm (ne_of_none hS n)
  refine ⟨⟨fun b u q => ?_, upd_mut (nS h.fA) h.hA, upd_mut (nS h.fD) h.hD, upd_mut (nS h.fC) h.hC, ⟨gs, k g1 (fun _ z => nomatch z), g2.ts t⟩, ⟨ws, upd_mut (nS h.fW) h1, Paired.mapP h2 fun _ _ q => q.ts t⟩, upd_mut (nS h.fL) h.hL,
    upd_none h.fA (nS h.fA), upd_none h.fD (nS h.fD), upd_none h.fC (nS h.fC), upd_none h.fW (nS h.fW), upd_none h.fL (nS h.fL), h.dG, h.aW, h.cW, h.cL, h.lW⟩, t⟩
  by_cases e : b = S
  · subst e
    rw [upd_same] at q ⊢
    exact q
  · rw [upd_ne e] at q ⊢
    exact h.sm _ _ q
theorem tOpd_ok {ls : List Str} {k : Nat} {r : Row} (h : okRow ls k r) (t : isT r) : okO (tOpd r) := by
  rcases t with ⟨a, t, e, rfl⟩ | ⟨a, n, b, rfl⟩
  · exact h.2.1
  · exact h.2.1
theorem exec_plain {s : Mc} {r : Row} (n : ¬ isT r) : (exec s r).2.stk = s.stk := by
  cases r with
  | ite a t e => exact absurd (Or.inl ⟨_, _, _, rfl⟩) n
  | whl a k b => exact absurd (Or.inr ⟨_, _, _, rfl⟩) n
  | _ => rfl
theorem run_step {p : Prog} {g : List Part} {m : Nat} {s : Mc} {cs1 : List Cel} {r : Row} {t : List Row} (h : runP p g = (runF (m + 1) s).map fun x => (cs1 ++ x.1, x.2)) (dn : due s.stk = some (r, t)) :
    runP p g = (runF m (exec { s with stk := t } r).2).map fun x => ((cs1 ++ [(exec { s with stk := t } r).1]) ++ x.1, x.2) := by
  rw [h]
  show (match due s.stk with | none => some ([], s.out) | some (r, rest) => (runF m (exec { s with stk := rest } r).2).map fun x : List Cel × List Int => ((exec { s with stk := rest } r).1 :: x.1, x.2)).map _ = _
  rw [dn]
  show ((runF m (exec { s with stk := t } r).2).map _).map _ = _
  rw [Option.map_map]
  congr 1
  funext x
  show (cs1 ++ (exec { s with stk := t } r).1 :: x.1, x.2) = _
  rw [List.append_assoc]
  rfl
theorem run_end {p : Prog} {g : List Part} {m : Nat} {s : Mc} {cs1 : List Cel} (h : runP p g = (runF (m + 1) s).map fun x => (cs1 ++ x.1, x.2)) (dn : due s.stk = none) : runP p g = some (cs1, s.out) := by
  rw [h]
  show (match due s.stk with | none => some ([], s.out) | some (r, rest) => _).map _ = _
  rw [dn]
  show some (cs1 ++ [], s.out) = _
  rw [List.append_nil]
section
variable {P : Program} {w : World} {K : PySem.W.Frag} {mg : Str → Option Value} {base : Heap}
theorem ok_law_run (T : Tx mg) (D : DefAt K mg "_law_run" s__law_run) (c__law_begun : C8.Cal P w K mg base 7 "_law_begun" sp_law_begun []) (c__law_due : C8.Cal P w K mg base 1 "_law_due" sp_law_due []) (c__law_ahead : C8.Cal P w K mg base 8 "_law_ahead" sp_law_ahead []) (c__law_turn : C8.Cal P w K mg base 7 "_law_turn" sp_law_turn []) (c__law_worth : C8.Cal P w K mg base 1 "_law_worth" sp_law_worth []) (c__law_done : C8.Cal P w K mg base 2 "_law_done" sp_law_done []) : C8.Cal P w K mg base 9 "_law_run" sp_law_run [] := by
  refine D.cal (k := 8) sc__law_run (fun _ _ _ _ _ _ us hl => match us, hl with | [_, _, _], _ => rfl) (fun vs H Q E h => ?_) (fun f cdv A outer s H vs Q E hr h => ⟨_, (pss_cons (ps_asg (pe_tup (pa_cons (C8.pe_c c__law_begun hr (by omega) (by rfl) (pa_cons (pv 0) (pa_cons (pv 1) pa_nil))) (pa_cons (pe_lst pa_nil) (pa_cons (pe_lst pa_nil) pa_nil)))) (pg_tup rfl (pgs_cons (pg_name (i := 3) sc__law_run.nd rfl (Or.inr rfl)) (pgs_cons (pg_name (i := 4) sc__law_run.nd rfl (Or.inl rfl)) (pgs_cons (pg_name (i := 5) sc__law_run.nd rfl (Or.inl rfl)) pgs_nil)))))
    (pss_cons (ps_while PassesOwn.never (pt_cmpR op_lt (pe_callB call_len_seq (by rfl) T.len_ PySem.boot_len (pa_cons (pv 4) pa_nil)) pe_int (nomark _)) (pss_cons (ps_set (i := 6) sc__law_run.nd rfl (Or.inl rfl) (C8.pe_c c__law_due hr (by omega) (by rfl) (pa_cons (pv 3) pa_nil)))
    (pss_cons (ps_if (pt_cmpR op_isN (pv 6) pe_non (nomark _)) (pss_cons (ps_set (i := 7) sc__law_run.nd rfl (Or.inl rfl) (pe_callTy call_tuple_of (by rfl) T.tuple_ (by decide +kernel) (pa_cons (pe_lc (own := [("_law_name", 9)]) (g := (gName 9)) (tt := tYes) rfl sc__law_run.nd (pi_tup (pe_ix ix_tup (pv 0) pe_int (fun _ _ => rfl))) (blkOk_by (own := [("_law_name", 9)]) (N := N__law_run) (sc := defScope s__law_run) (by decide +kernel)) (fun _ _ _ _ _ => (pg_name (i := 9) sc__law_run.nd rfl (Or.inl rfl))) (fun _ _ _ _ _ => pts_nil) (fun _ _ _ _ _ => (C8.pe_c c__law_worth hr (by omega) (by rfl) (pa_cons (pv 3) (pa_cons (pv 9) pa_nil))))) pa_nil)))
    (pss_one (ps_ret (pe_tup (pa_cons (pv 7) (pa_cons (pe_callTy call_tuple_of (by rfl) T.tuple_ (by decide +kernel) (pa_cons (pe_ix ix_list (pv 3) pe_int (fun _ _ => rfl)) pa_nil)) (pa_cons (pe_ix ix_list (pv 3) pe_int (fun _ _ => rfl)) (pa_cons (pv 4) (pa_cons (pv 5) pa_nil)))))))))
    pss_nil)
    (pss_one (ps_if (pt_cmpR op_in_seq (pe_ix ix_tup (pe_ix ix_tup (pv 6) pe_int (fun _ _ => rfl)) pe_int (fun _ _ => rfl)) (pe_tup (pa_cons pe_str (pa_cons pe_str pa_nil))) (by rfl)) (pss_cons (ps_set (i := 8) sc__law_run.nd rfl (Or.inl rfl) (pe_cmpR op_gt (C8.pe_c c__law_worth hr (by omega) (by rfl) (pa_cons (pv 3) (pa_cons (pe_ix ix_tup (pe_ix ix_tup (pv 6) pe_int (fun _ _ => rfl)) pe_int (fun _ _ => rfl)) pa_nil))) pe_int (nomark _)))
    (pss_cons (ps_expr (pe_bm PySem.F.plainAttrs_list PySem.F.slot_list_append PySem.F.type_list_append mt_append (pv 5) (pa_cons (C8.pe_c c__law_ahead hr (by omega) (by rfl) (pa_cons (pv 3) (pa_cons (pv 6) (pa_cons (pv 8) (pa_cons (pv 2) pa_nil))))) pa_nil)))
    (pss_cons (ps_expr (C8.pe_c c__law_turn hr (by omega) (by rfl) (pa_cons (pv 3) (pa_cons (pv 6) (pa_cons (pv 8) pa_nil)))))
    (pss_one (ps_expr (pe_bm PySem.F.plainAttrs_list PySem.F.slot_list_append PySem.F.type_list_append mt_append (pv 4) (pa_cons (pe_tup (pa_cons (pe_ix ix_tup (pv 6) pe_int (fun _ _ => rfl)) (pa_cons pe_int (pa_cons pe_non pa_nil)))) pa_nil)))))))
    (pss_one (ps_expr (pe_bm PySem.F.plainAttrs_list PySem.F.slot_list_append PySem.F.type_list_append mt_append (pv 4) (pa_cons (C8.pe_c c__law_done hr (by omega) (by rfl) (pa_cons (pv 3) (pa_cons (pv 6) (pa_cons pe_bl pa_nil)))) pa_nil)))))))))
    (pss_one (ps_ret pe_non)))), ?_⟩)
  · obtain ⟨p, v, g, vg, rfl, _⟩ := h
    rfl
  · obtain ⟨p, v, g, vg, rfl, hp, ho, hL, hg, hG, q1, q2⟩ := h
    obtain ⟨ap, ah, al, ar, at_, hs, ls2, rs, rfl, h0, _, _, _, _, _, _, h7⟩ := id hp
    walk_at "go"
    refine ⟨p, _, g, vg, rfl, hp, ho, hL, hg, hG, fun H1 a hR => ?_⟩
    walk_at "go"
    rename_i S nS A2 nA2 pT nT
    obtain ⟨hM0, hF0⟩ := mc0_ok ho hL hG
    have h30 : ok3 p.lists (mc0 p g) := fun r m => okRows.mem ho.rw m
    have sH1 := hR.sm
    have fS : H S = none := none_of sH1 nS
    have fA2 : H A2 = none := none_of (same_nw sH1 nS) nA2
    have dSA : A2 ≠ S := Ne.symm (ne_of_none (upd_same (H := H1) (a := S) (o := .lst [])) nA2)
    have B0 : ∃ B, Same H B ∧ B S = some (.lst []) ∧ B A2 = some (.lst []) ∧ AmidAt B (upd (upd (upd H1 S (.lst [])) A2 (.lst [])) pT (.tup [.ref a.A, .ref S, .ref A2])) a p.lists (mc0 p g) := by
      refine ⟨upd (upd H S (.lst [])) A2 (.lst []), same_mut (same_mut (Same.refl _) fS) fA2, upd_mut (Ne.symm dSA) upd_same, upd_same, ?_⟩
      have fr : ∀ {b : Addr} {u : HO}, H b = none → H1 b = some u → (upd (upd H S (.lst [])) A2 (.lst [])) b = none := fun n m => by
        rw [upd_ne (ne_of_none (upd_get (o := .lst []) nS m) nA2), upd_ne (ne_of_none m nS)]
        exact n
      obtain ⟨ws, x1, _⟩ := hR.hW
      refine (((hR.nw nS).nw nA2).nw nT).base ?_ (fr hR.fA hR.hA) (fr hR.fD hR.hD) (fr hR.fC hR.hC) (fr hR.fW x1) (fr hR.fL hR.hL)
      refine same_nw (fun b u e => ?_) nT
      by_cases c : b = A2
      · subst c
        rw [upd_same] at e ⊢
        exact e
      · rw [upd_ne c] at e ⊢
        by_cases c : b = S
        · subst c
          rw [upd_same] at e ⊢
          exact e
        · rw [upd_ne c] at e ⊢
          exact sH1 _ _ e
    generalize upd (upd (upd H1 S (.lst [])) A2 (.lst [])) pT (.tup [.ref a.A, .ref S, .ref A2]) = H2 at B0 ⊢
    obtain ⟨B, sB, bS, bA, hR2⟩ := B0
    generalize ea : a.A = aA
    have er0 : runP p g = (runF 400 (mc0 p g)).map fun x => (([] : List Cel) ++ x.1, x.2) := by
      show runF 400 (mc0 p g) = _
      cases runF 400 (mc0 p g) <;> rfl
    refine ⟨fun m σ H' => ∃ B a s cs1 ss as, Same H B ∧ B S = some (.lst ss) ∧ B A2 = some (.lst as) ∧ AmidAt B H' a p.lists s ∧ a.A = aA ∧ okM p.lists s ∧ ok3 p.lists s ∧ Fz m s ∧ (runP p g = (runF m s).map fun x => (cs1 ++ x.1, x.2)) ∧ Paired (StepAt H') (cs1.map (plc p.lists)) ss ∧ ss.length + m = 400 ∧ as.length + m ≤ 400 ∧
      ∃ o6 o7 o8 o9, σ = [some (.ref ap), some vg, some (.int 1), some (.ref aA), some (.ref S), some (.ref A2), o6, o7, o8, o9], ⟨400, B, a, mc0 p g, [], [], [], sB, bS, bA, hR2, ea, hM0, h30, hF0, er0, .nil, rfl, Nat.le_refl _, _, _, _, _, rfl⟩, ?_⟩
    clear sB bS bA hR2 ea er0 hM0 h30 hF0 hR
    rintro m σ H3 ⟨B, a, s, cs1, ss, as, sB, bS, bA, hR, rfl, hM, h3, hF, er, hss, ls, la, o6, o7, o8, o9, rfl⟩
    walk_at "go"
    have sH3 : Same H H3 := sB.trans hR.sm
    have hS3 := hR.sm _ _ bS
    have hA3 := hR.sm _ _ bA
    cases m with
    | zero =>
      refine ⟨S, ss, rfl, Or.inl (SqL.of hS3), ?_⟩
      walk_at "go"
      exact q1 (by rw [er]; rfl) _ sH3
    | succ m =>
      refine ⟨S, ss, rfl, Or.inl (SqL.of hS3), ?_⟩
      walk_at "go"
      refine ⟨fun σ' H' => ∃ B a' s cs1 ss as, Same H B ∧ B S = some (.lst ss) ∧ B A2 = some (.lst as) ∧ AmidAt B H' a' p.lists s ∧ a'.A = a.A ∧ okM p.lists s ∧ ok3 p.lists s ∧ Fz m s ∧ (runP p g = (runF m s).map fun x => (cs1 ++ x.1, x.2)) ∧ Paired (StepAt H') (cs1.map (plc p.lists)) ss ∧ ss.length + m = 400 ∧ as.length + m ≤ 400 ∧
        ∃ o6 o7 o8 o9, σ' = [some (.ref ap), some vg, some (.int 1), some (.ref a.A), some (.ref S), some (.ref A2), o6, o7, o8, o9], fun σ' H' z => ⟨m, Nat.lt_succ_self _, z⟩, ?_⟩
      walk_at "go"
      refine ⟨B, a, p.lists, s, rfl, hR, fun dn H4 t4 hR4 => ?_, fun r t dn H4 v4 t4 hR4 he4 => ?_⟩
      · have er2 := run_end er dn
        have sH4 : Same H H4 := sB.trans hR4.sm
        have h04 := sH4 _ _ h0
        have h74 := sH4 _ _ h7
        walk_at "go"
        refine ⟨⟨_, SqT.of h74⟩, fun D nD => ?_⟩
        refine lc_each (walk_tup (a := at_) (xs := p.told.map .str)) nD (by rw [List.length_map]; have := ho.nt; omega) (fun i acc _ => True) (fun _ _ _ _ _ h => h) True.intro (fun _ s2 => SqT.of (s2 _ _ h74)) (fun i x H5 H6 acc Kf k hi s5 _ y => ?_) (fun H5 acc s5 e5 _ _ => ?_)
        · obtain ⟨rfl, e'⟩ := y
          rw [List.getElem?_map] at e'
          cases e4 : p.told[i]? with
          | none =>
            rw [e4] at e'
            cases e'
          | some z =>
            rw [e4] at e'
            cases e'
            walk_at "go"
            exact ⟨_, a, p.lists, _, .s z, rfl, hR4.same s5, k _ _ (Same.refl _) True.intro⟩
        · refine ⟨D, acc, rfl, .inl ⟨SqL.of e5, fun p3 n3 => ?_⟩⟩
          have h5 := (hR4.same s5).nw (o := .tup acc) n3
          have t5 := t4.trans ((same_ts s5).trans (ts_nw (o := .tup acc) (TS.refl _) n3))
          generalize upd H5 p3 (.tup acc) = H6 at h5 t5 ⊢
          walk_at "go"
          refine ⟨a.A, _, 1, _, rfl, rfl, SqL.of h5.hA, rfl, ?_⟩
          walk_at "go"
          refine ⟨a.C, _, rfl, .inl ⟨SqL.of h5.hC, fun p4 n4 => ?_⟩⟩
          have h6 := h5.nw (o := .tup ((flat p.lists s.mem).map .int)) n4
          have t6 := t5.trans (ts_nw (o := .tup ((flat p.lists s.mem).map .int)) (TS.refl _) n4)
          have h6 : AmidAt B (upd H6 p4 (.tup ((flat p.lists s.mem).map .int))) a p.lists _ := h6
          generalize upd H6 p4 (.tup ((flat p.lists s.mem).map .int)) = H7 at h6 t6 ⊢
          walk_at "go"
          refine ⟨a.A, _, 4, _, rfl, rfl, SqL.of h6.hA, rfl, ?_⟩
          walk_at "go"
          rename_i q8 m8
          have t8 := t6.trans (ts_nw (o := .tup [.ref p3, .ref p4, .ref a.L, .ref S, .ref A2]) (TS.refl _) m8)
          exact q2 cs1 _ er2 _ q8 _ _ a.L S A2 ss (same_nw (sB.trans h6.sm) m8) upd_same (upd_get m8 h6.hL) (upd_get m8 (h6.sm _ _ bS)) (Paired.mapP hss fun _ _ z => z.ts t8) (by omega)
      · have d4 := hM.due dn
        obtain ⟨x1, x2, x3, x4⟩ := due_some dn
        have k4 := h3 r x1
        have h34 : ok3 p.lists { s with stk := t } := fun x m => h3 x (x2 x m)
        have er2 := run_step er dn
        have fz := hF.step dn hM
        have exO := exec_ok d4
        have hS4 := hR4.sm _ _ bS
        have hA4 := hR4.sm _ _ bA
        have wo : isT r → okV (wor s.env (tOpd r)) := fun tt => wor_ok hM.env (tOpd_ok k4 tt)
        have hstk := hF.stk
        have henv := hF.env
        have hout := hF.out
        rcases isT_dec r with tt | nt
        · obtain ⟨p9, i9, pr9, n9, rest9, rfl, hp9, hpr9⟩ := he4.test tt
          have wt := word_test tt
          generalize r.word = z at hpr9 wt
          walk_at "go"
          refine ⟨pr9, _, 0, _, rfl, rfl, SqT.of hpr9, atI0, ?_⟩
          walk_at "go"
          rename_i pz nz
          refine iteB (by rw [inV_two]; rcases wt with rfl | rfl <;> decide) ?_
          have h9 := hR4.nw (o := .tup [.str "if", .str "while"]) nz
          have hz1 := upd_get (o := .tup [.str "if", .str "while"]) nz hp9
          have hz2 := upd_get (o := .tup [.str "if", .str "while"]) nz hpr9
          have t10 := t4.trans (ts_nw (o := .tup [.str "if", .str "while"]) (TS.refl _) nz)
          have he10 := he4.ts (same_ts (same_nw (o := .tup [.str "if", .str "while"]) (Same.refl _) nz))
          generalize upd H4 pz (.tup [.str "if", .str "while"]) = H10 at h9 hz1 hz2 he10 t10 ⊢
          walk_at "go"
          refine ⟨pr9, _, 1, _, rfl, rfl, SqT.of hz2, atI_nat (p := 1) rfl, ?_⟩
          walk_at "go"
          refine ⟨_, a, p.lists, _, tOpd r, rfl, h9, ?_⟩
          walk_at "go"
          have A10 := h9.sm _ _ bA
          refine ⟨.inl ⟨rfl, _, SqL.of A10⟩, ?_⟩
          walk_at "go"
          refine ⟨_, a, p.lists, _, r, _, _, rfl, h9, hL, d4, k4, h34, by show s.env.length ≤ 1000; omega, by show t.length ≤ 2990; omega, he10, tt, fun H11 q11 s11 => ?_⟩
          have h11 := h9.same s11
          have A11 := h11.sm _ _ bA
          walk_at "go"
          refine ⟨_, _, _, rfl, rfl, A11, sm_lt (by omega), ?_⟩
          obtain ⟨h12, t12⟩ := h11.frame (S := A2) (xs := as ++ [.ref q11]) bA
          have b12S : (upd B A2 (.lst (as ++ [.ref q11]))) S = some (.lst ss) := upd_mut (Ne.symm dSA) bS
          have b12A : (upd B A2 (.lst (as ++ [.ref q11]))) A2 = _ := upd_same
          have sB12 : Same H (upd B A2 (.lst (as ++ [.ref q11]))) := same_mut sB fA2
          have t112 := (same_ts s11).trans t12
          have he12 := he10.ts t112
          have hp12 := t112 _ _ hz1
          generalize upd H11 A2 (.lst (as ++ [.ref q11])) = H12 at h12 t12 t112 he12 hp12 ⊢
          generalize upd B A2 (.lst (as ++ [.ref q11])) = B12 at h12 b12S b12A sB12
          walk_at "go"
          refine ⟨_, a, p.lists, _, r, _, _, rfl, h12, he12, tt, k4, by show t.length ≤ 3000; omega, fun H13 a13 e13 t13 h13 => ?_⟩
          have S13 := h13.sm _ _ b12S
          have hp13 := t13 _ _ hp12
          walk_at "go"
          refine ⟨.inl ⟨rfl, _, SqL.of S13⟩, ?_⟩
          walk_at "go"
          rename_i q14 m14
          refine ⟨_, _, _, rfl, rfl, upd_get m14 S13, sm_lt (by omega), ?_⟩
          have h14 := h13.nw (o := .tup [.int i9, .int 1, .non]) m14
          have hq14 : (upd H13 q14 (.tup [.int i9, .int 1, .non])) q14 = _ := upd_same
          have t14 := ts_nw (o := .tup [.int i9, .int 1, .non]) (TS.refl _) m14
          obtain ⟨h15, t15⟩ := h14.frame (S := S) (xs := ss ++ [.ref q14]) b12S
          have ex := exec_test (s := { s with stk := t }) tt (wo tt)
          rw [ex] at er2 exO fz
          refine ⟨_, a13, _, cs1 ++ [none], ss ++ [.ref q14], as ++ [.ref q11], same_mut sB12 fS, upd_same, upd_mut dSA b12A, h15, e13, exO, ?_, fz, er2, ?_, by rw [List.length_append, List.length_singleton]; omega, by rw [List.length_append, List.length_singleton]; omega, _, _, _, _, rfl⟩
          · exact fun x m => (List.mem_append.mp m).elim (turn_ok3 k4 d4.2.2 x) (h34 x)
          · rw [List.map_append]
            exact paired_app (Paired.mapP hss fun _ _ z => z.ts ((((t10.trans t112).trans t13).trans t14).trans t15)) (.cons ⟨q14, i9, 1, rfl, t15 _ _ hq14⟩ .nil)
        · obtain ⟨p9, i9, pr9, n9, rest9, rfl, hp9, hpr9, _⟩ := he4.word
          obtain ⟨w1, w2⟩ := word_plain nt
          generalize r.word = z at hpr9 w1 w2
          walk_at "go"
          refine ⟨pr9, _, 0, _, rfl, rfl, SqT.of hpr9, atI0, ?_⟩
          walk_at "go"
          rename_i pz nz
          refine iteN (by rw [inV_two, decide_eq_false w1, decide_eq_false w2]; rfl) ?_
          have h9 := hR4.nw (o := .tup [.str "if", .str "while"]) nz
          have t10 := t4.trans (ts_nw (o := .tup [.str "if", .str "while"]) (TS.refl _) nz)
          have he10 := he4.ts (same_ts (same_nw (o := .tup [.str "if", .str "while"]) (Same.refl _) nz))
          generalize upd H4 pz (.tup [.str "if", .str "while"]) = H10 at h9 he10 t10 ⊢
          walk_at "go"
          have S10 := h9.sm _ _ bS
          refine ⟨.inl ⟨rfl, _, SqL.of S10⟩, ?_⟩
          walk_at "go"
          refine ⟨_, a, p.lists, _, r, _, false, rfl, h9, hL, d4, by show s.env.length ≤ 1000; omega, by show s.out.length ≤ 1000; omega, he10, nt, fun _ H11 a11 q11 i11 j11 e11 t11 h11 hq11 => ?_, fun z => (nomatch z)⟩
          have S11 := h11.sm _ _ bS
          walk_at "go"
          refine ⟨_, _, _, rfl, rfl, S11, sm_lt (by omega), ?_⟩
          obtain ⟨h12, t12⟩ := h11.frame (S := S) (xs := ss ++ [.ref q11]) bS
          refine ⟨_, a11, _, cs1 ++ [(exec { s with stk := t } r).1], ss ++ [.ref q11], as, same_mut sB fS, upd_same, upd_mut dSA bA, h12, e11, exO, ?_, fz, er2, ?_, by rw [List.length_append, List.length_singleton]; omega, by omega, _, _, _, _, rfl⟩
          · exact fun x m => h34 x (by rw [exec_plain nt] at m; exact m)
          · rw [List.map_append]
            exact paired_app (Paired.mapP hss fun _ _ z => z.ts ((t10.trans t11).trans t12)) (.cons ⟨q11, i11, j11, rfl, t12 _ _ hq11⟩ .nil)
end
end NW
/-! ## Walks: is the program short -/
namespace NW
open PySem PySem.Spec PyProof.Rows L2
set_option pp.maxSteps 150
-- an object's place in a heap
local macro_rules | `(tactic| walk_at "hp") => `(tactic| (show _ = some _; first
  | assumption
  | exact upd_same
  | (refine' upd_get ?n ?h; (case n => assumption); (case h => walk_at "hp"))
  | (refine' same_get ?n ?h; (case n => assumption); (case h => walk_at "hp"))))
-- a heap that has grown
local macro_rules | `(tactic| walk_at "sm") => `(tactic| first
  | assumption
  | exact Same.refl _
  | (refine' same_nw ?n ?h; (case h => assumption); (case n => walk_at "sm"))
  | (refine' Same.trans ?n ?h; (case h => assumption); (case n => walk_at "sm")))
local macro_rules | `(tactic| walk_at "ty") => `(tactic| first
  | exact TyN.int _
  | exact TyN.str _
  | exact TyN.non
  | (refine' TyN.tup ?h; (case h => walk_at "hp"))
  | (refine' TyN.lst ?h; (case h => walk_at "hp")))
-- a test whose answer is known
local macro_rules | `(tactic| walk_at "if") => `(tactic| first
  | (refine iteB (by decide +kernel) ?_)
  | (refine iteN (by decide +kernel) ?_)
  | (refine iteB (by rfl) ?_)
  | (refine iteN (by rfl) ?_)
  | (refine iteB (decide_eq_true (by first | omega | assumption)) ?_)
  | (refine iteN (decide_eq_false (by first | omega | assumption)) ?_)
  | (refine iteB (by simp only [Bool.not_eq_true', Bool.not_eq_false', Bool.and_eq_true, Bool.and_eq_false_iff, Bool.or_eq_true, Bool.or_eq_false_iff, decide_eq_true_eq, decide_eq_false_iff_not]; omega) ?_)
  | (refine iteN (by simp only [Bool.not_eq_true', Bool.not_eq_false', Bool.and_eq_true, Bool.and_eq_false_iff, Bool.or_eq_true, Bool.or_eq_false_iff, decide_eq_true_eq, decide_eq_false_iff_not]; omega) ?_))
-- one step of a reading
local macro_rules | `(tactic| walk_at "s") => `(tactic| first
  | refine ⟨_, rfl, ?_⟩
  | refine ⟨_, _, rfl, rfl, ?_⟩
  | refine And.intro (show wipe _ _ = wipe _ _ by kernel_rfl) ?_
  | refine And.intro rfl ?_
  | (refine' ⟨_, _, _, _, rfl, rfl, SqT.of ?h, ?e, ?_⟩; (case h => walk_at "hp"); (case e => exact rfl))
  | (refine' ⟨_, _, rfl, ?t, ?_⟩; (case t => walk_at "ty"))
  | (refine' ⟨_, _, rfl, SqT.of ?h, ?e, ?_⟩; (case h => walk_at "hp"); (case e => exact rfl))
  | refine ⟨_, _, rfl, ?_⟩
  | (refine' ⟨_, _, _, rfl, rfl, ?h1, ?h2, ?_⟩; (case h1 => walk_at "hp"); (case h2 => walk_at "hp"))
  | (refine' ⟨_, _, _, _, rfl, rfl, SqL.of ?h, ?e, ?_⟩; (case h => walk_at "hp"); (case e => exact rfl))
  | (refine' ⟨_, _, rfl, Or.inr (SqT.of ?h), ?_⟩; (case h => walk_at "hp"))
  | (refine' ⟨_, _, rfl, Or.inr (SqT.of ?h), rfl, rfl, ?_⟩; (case h => walk_at "hp"))
  | (refine' ⟨_, _, rfl, Or.inl (SqL.of ?h), ?_⟩; (case h => walk_at "hp"))
  | refine And.intro (flat_strs _) ?_
  | (refine And.intro (sm_sz (Nat.le_of_ble_eq_true rfl)) ?_; intro p np)
  | walk_at "if"
  | (refine' And.intro ?a ?_; (case a => first | assumption | exact sm_sz (by omega) | omega | exact Or.inr ⟨by omega, by omega⟩ | exact Or.inl ⟨by omega, by omega⟩ | exact ⟨by omega, by omega⟩))
  | refine Or.inl ⟨_, _, _, rfl, ?_⟩
  | refine Or.inr ⟨_, _, _, rfl, ?_⟩
  | (intro Hn sn))
local macro_rules | `(tactic| walk_at "go") => `(tactic| repeat (walk_at "s"))

abbrev s__law_is_short : Stmt := topS 103
abbrev N__law_is_short : List Str := ["_law_program_here", "_law_total", "_law_handing", "_law_told"]
abbrev P__law_is_short : List Str := ["_law_program_here"]
theorem sc__law_is_short : FnScope N__law_is_short P__law_is_short (defScope s__law_is_short) := ⟨rfl, rfl, rfl, by decide +kernel, rfl, by decide +kernel, by decide +kernel⟩

def sp_law_is_short : Sp := fun vs H Q _ => ∃ (p : Prog) (v : V), vs = [v] ∧ ProgAt H p v ∧ okProg p ∧ okS p ∧ okL p.lists ∧ ∀ b H', Same H H' → (b = true → ends p) → Q (.bl b) H'
section
variable {P : Program} {w : World} {K : PySem.W.Frag} {mg : Str → Option Value} {base : Heap}
theorem ok_law_is_short (T : Tx mg) (D : DefAt K mg "_law_is_short" s__law_is_short) (c__law_handings : C8.Cal P w K mg base 2 "_law_handings" sp_law_handings []) (c__law_run : C8.Cal P w K mg base 9 "_law_run" sp_law_run []) : C8.Cal P w K mg base 10 "_law_is_short" sp_law_is_short [] := by
  refine D.cal (k := 9) sc__law_is_short (fun _ _ _ _ _ _ us hl => match us, hl with | [_], _ => rfl) (fun vs H Q E h => ?_) (fun f cdv A outer s H vs Q E hr h => ⟨_, (pss_cons (ps_set (i := 1) sc__law_is_short.nd rfl (Or.inl rfl) pe_int)
    (pss_cons (ps_for PassesOwn.never rfl (pi_list (C8.pe_c c__law_handings hr (by omega) (by rfl) (pa_cons (pv 0) pa_nil))) (pg_name (i := 2) sc__law_is_short.nd rfl (Or.inl rfl))
    (pss_cons (ps_set (i := 3) sc__law_is_short.nd rfl (Or.inl rfl) (C8.pe_c c__law_run hr (by omega) (by rfl) (pa_cons (pv 0) (pa_cons (pv 2) (pa_cons pe_int pa_nil)))))
    (pss_cons (ps_if (pt_cmpR op_isN (pv 3) pe_non (nomark _)) (pss_one (ps_ret pe_bl))
    pss_nil)
    (pss_one (ps_set (i := 1) sc__law_is_short.nd rfl (Or.inl rfl) (pe_op op_add (pv 1) (pe_callB call_len_seq (by rfl) T.len_ PySem.boot_len (pa_cons (pe_ix ix_tup (pv 3) pe_int (fun _ _ => rfl)) pa_nil))))))))
    (pss_one (ps_ret (pe_cmpR op_le (pv 1) pe_int (nomark _)))))), ?_⟩)
  · obtain ⟨p, v, rfl, _⟩ := h
    rfl
  · obtain ⟨p, v, rfl, hp, ho, hS, hL, q⟩ := h
    walk_at "go"
    refine ⟨p, v, rfl, hp, hS, hL, fun H1 L ws s1 hL1 hws lenG => ?_⟩
    walk_at "go"
    refine ⟨⟨_, SqL.of hL1⟩, ?_⟩
    have lw := hws.len
    refine for_it walk_list (fun i σ H' => Same H1 H' ∧ (∀ j g, j < i → (hands p)[j]? = some g → ∃ r, runP p g = some r) ∧ ∃ n o2 o3, σ = [some v, some (.int n), o2, o3]) ⟨Same.refl _, fun j g h => absurd h (Nat.not_lt_zero _), 0, _, _, rfl⟩ (fun i σ H' _ z => SqL.of (z.1 _ _ hL1)) ?_ ?_
    · rintro i y σ J1 J2 hi ⟨sJ, en, n, o2, o3, rfl⟩ ⟨rfl, ey⟩
      obtain ⟨g, eg, hg⟩ := hws.at ey
      have hG := hands_good (List.mem_of_getElem? eg)
      walk_at "go"
      have s1J := s1.trans sJ
      refine ⟨p, v, g, y, rfl, hp.ts (same_ts s1J), ho, hL, hg.ts (same_ts sJ), hG, fun rn J3 s3 => ?_, fun cs os rn J3 q3 t c pL pS pA ss s3 h3 hpL hpS hss lss => ?_⟩
      · walk_at "go"
        exact q false _ (s1J.trans s3) (fun z => nomatch z)
      · walk_at "go"
        refine ⟨sJ.trans s3, fun j g' hj eg' => ?_, _, _, _, rfl⟩
        by_cases e : j = i
        · subst e
          cases eg.symm.trans eg'
          exact ⟨_, rn⟩
        · exact en j g' (by omega) eg'
    · rintro σ J1 ⟨sJ, en, n, o2, o3, rfl⟩
      walk_at "go"
      refine q _ _ (s1.trans sJ) fun _ g m => ?_
      obtain ⟨j, ej⟩ := List.getElem?_of_mem m
      exact en j g (by rw [← lw]; exact (List.getElem?_eq_some_iff.mp ej).1) ej
end
end NW
/-! ## Walks: is the program still, as the law asks -/
namespace NW
open PySem PySem.Spec PyProof.Rows L2
set_option pp.maxSteps 150
-- an object's place in a heap
local macro_rules | `(tactic| walk_at "hp") => `(tactic| (show _ = some _; first
  | assumption
  | exact upd_same
  | (refine' upd_get ?n ?h; (case n => assumption); (case h => walk_at "hp"))
  | (refine' same_get ?n ?h; (case n => assumption); (case h => walk_at "hp"))))
-- a heap that has grown
local macro_rules | `(tactic| walk_at "sm") => `(tactic| first
  | assumption
  | exact Same.refl _
  | (refine' same_nw ?n ?h; (case h => assumption); (case n => walk_at "sm"))
  | (refine' Same.trans ?n ?h; (case h => assumption); (case n => walk_at "sm")))
local macro_rules | `(tactic| walk_at "ty") => `(tactic| first
  | exact TyN.int _
  | exact TyN.str _
  | exact TyN.non
  | (refine' TyN.tup ?h; (case h => walk_at "hp"))
  | (refine' TyN.lst ?h; (case h => walk_at "hp")))
-- a test whose answer is known
local macro_rules | `(tactic| walk_at "if") => `(tactic| first
  | (refine iteB (by decide +kernel) ?_)
  | (refine iteN (by decide +kernel) ?_)
  | (refine iteB (by rfl) ?_)
  | (refine iteN (by rfl) ?_)
  | (refine iteB (decide_eq_true (by first | omega | assumption)) ?_)
  | (refine iteN (decide_eq_false (by first | omega | assumption)) ?_)
  | (refine iteB (by simp only [Bool.not_eq_true', Bool.not_eq_false', Bool.and_eq_true, Bool.and_eq_false_iff, Bool.or_eq_true, Bool.or_eq_false_iff, decide_eq_true_eq, decide_eq_false_iff_not]; omega) ?_)
  | (refine iteN (by simp only [Bool.not_eq_true', Bool.not_eq_false', Bool.and_eq_true, Bool.and_eq_false_iff, Bool.or_eq_true, Bool.or_eq_false_iff, decide_eq_true_eq, decide_eq_false_iff_not]; omega) ?_))
-- one step of a reading
local macro_rules | `(tactic| walk_at "s") => `(tactic| first
  | refine ⟨_, rfl, ?_⟩
  | refine ⟨_, _, rfl, rfl, ?_⟩
  | refine And.intro (show wipe _ _ = wipe _ _ by kernel_rfl) ?_
  | refine And.intro rfl ?_
  | (refine' ⟨_, _, _, _, rfl, rfl, SqT.of ?h, ?e, ?_⟩; (case h => walk_at "hp"); (case e => exact rfl))
  | (refine' ⟨_, _, rfl, ?t, ?_⟩; (case t => walk_at "ty"))
  | (refine' ⟨_, _, rfl, SqT.of ?h, ?e, ?_⟩; (case h => walk_at "hp"); (case e => exact rfl))
  | refine ⟨_, _, rfl, ?_⟩
  | (refine' ⟨_, _, _, rfl, rfl, ?h1, ?h2, ?_⟩; (case h1 => walk_at "hp"); (case h2 => walk_at "hp"))
  | (refine' ⟨_, _, _, _, rfl, rfl, SqL.of ?h, ?e, ?_⟩; (case h => walk_at "hp"); (case e => exact rfl))
  | (refine' ⟨_, _, rfl, Or.inr (SqT.of ?h), ?_⟩; (case h => walk_at "hp"))
  | (refine' ⟨_, _, rfl, Or.inr (SqT.of ?h), rfl, rfl, ?_⟩; (case h => walk_at "hp"))
  | (refine' ⟨_, _, rfl, Or.inl (SqL.of ?h), ?_⟩; (case h => walk_at "hp"))
  | refine And.intro (flat_strs _) ?_
  | (refine And.intro (sm_sz (Nat.le_of_ble_eq_true rfl)) ?_; intro p np)
  | walk_at "if"
  | (refine' And.intro ?a ?_; (case a => first | assumption | exact sm_sz (by omega) | omega | exact Or.inr ⟨by omega, by omega⟩ | exact Or.inl ⟨by omega, by omega⟩ | exact ⟨by omega, by omega⟩))
  | refine Or.inl ⟨_, _, _, rfl, ?_⟩
  | refine Or.inr ⟨_, _, _, rfl, ?_⟩
  | (intro Hn sn))
local macro_rules | `(tactic| walk_at "go") => `(tactic| repeat (walk_at "s"))

abbrev s__law_is_still : Stmt := topS 104
abbrev N__law_is_still : List Str := ["_law_program_here", "_law_lines", "_law_found", "_law_handing", "_law_told", "_law_last", "_law_key", "_law_place", "_law_price", "_law_cell_here"]
abbrev P__law_is_still : List Str := ["_law_program_here", "_law_lines"]
theorem sc__law_is_still : FnScope N__law_is_still P__law_is_still (defScope s__law_is_still) := ⟨rfl, rfl, rfl, by decide +kernel, rfl, by decide +kernel, by decide +kernel⟩

def sp_law_is_still : Sp := fun vs H Q _ => ∃ (p : Prog) (v : V) (m : Nat), vs = [v, .int m] ∧ ProgAt H p v ∧ okProg p ∧ okS p ∧ okL p.lists ∧ ends p ∧ ∀ b H', Same H H' → (b = true ↔ stillL p m) → Q (.bl b) H'
theorem out_ok {ls : List LD} : ∀ {k : Nat} {s : Mc} {cs : List Cel} {os : List Int}, runF k s = some (cs, os) → okM ls s → (∀ i ∈ s.out, okV i) → (∀ i ∈ os, okV i) ∧ os.length ≤ s.out.length + k
  | 0, _, _, _, h, _, _ => by cases h
  | k + 1, s, cs, os, h, hM, ho => by
    have h : (match due s.stk with | none => some ([], s.out) | some (r, rest) => (runF k (exec { s with stk := rest } r).2).map fun x : List Cel × List Int => ((exec { s with stk := rest } r).1 :: x.1, x.2)) = some (cs, os) := h
    cases dn : due s.stk with
    | none =>
      rw [dn] at h
      cases h
      exact ⟨ho, Nat.le_add_right _ _⟩
    | some z =>
      obtain ⟨r, t⟩ := z
      rw [dn] at h
      obtain ⟨⟨cs2, os2⟩, h2, e⟩ := Option.map_eq_some_iff.mp h
      cases e
      have d1 := hM.due dn
      have key : (∀ i ∈ (exec { s with stk := t } r).2.out, okV i) ∧ (exec { s with stk := t } r).2.out.length ≤ s.out.length + 1 := by
        cases r with
        | lt a =>
          obtain ⟨kk, ok⟩ := d1.2.1
          refine ⟨fun i m => ?_, ?_⟩
          · rcases List.mem_append.mp m with m | m
            · exact ho i m
            · rw [List.mem_singleton.mp m]
              exact wor_ok hM.env ok
          · show (s.out ++ [_]).length ≤ _
            rw [List.length_append, List.length_singleton]
            exact Nat.le_refl _
        | _ => exact ⟨ho, Nat.le_succ _⟩
      obtain ⟨e1, e2⟩ := out_ok h2 (exec_ok d1) key.1
      exact ⟨e1, Nat.le_trans e2 (by have := key.2; omega)⟩
theorem parts_okL {ls : List LD} {g : List Part} (h : GoodL ls g) : (∀ d ∈ ls, d.wo ≤ 2 ∧ d.cells ≤ 9) → ∀ x ∈ g, okPart x ∧ ∀ ws, x = .cs ws → ws.length ≤ 9 := by
  induction h with
  | nil => exact fun _ _ m => nomatch m
  | own h t ih => exact fun hd => ih fun d m => hd d (List.mem_cons_of_mem _ m)
  | @cs d r g ws h l b t ih =>
    intro hd x m
    obtain ⟨w2, c9⟩ := hd d List.mem_cons_self
    rcases List.mem_cons.mp m with rfl | m
    · refine ⟨fun i mi => ?_, fun zs e => ?_⟩
      · obtain ⟨b1, b2⟩ := b i mi
        exact ⟨b1, by omega⟩
      · cases e
        omega
    · exact ih (fun d m => hd d (List.mem_cons_of_mem _ m)) x m
theorem parts_okP {hs : List PD} {ls : List LD} {g : List Part} (h : GoodP hs ls g) : (∀ d ∈ hs, d.sz ≤ 3) → (∀ d ∈ ls, d.wo ≤ 2 ∧ d.cells ≤ 9) → ∀ x ∈ g, okPart x ∧ ∀ ws, x = .cs ws → ws.length ≤ 9 := by
  induction h with
  | nil t => exact fun _ hl => parts_okL t hl
  | @w d r ls g i b t ih =>
    intro hd hl x m
    have := hd d List.mem_cons_self
    rcases List.mem_cons.mp m with rfl | m
    · exact ⟨⟨b.1, by omega⟩, fun ws e => nomatch e⟩
    · exact ih (fun d m => hd d (List.mem_cons_of_mem _ m)) hl x m
def keyP (p : Prog) (g : List Part) : Str := keyS (psM (sorts p) g "open") (outP p g)
theorem psM_sub {ss : List Str} {g : List Part} {k : Str} : ∀ x ∈ psM ss g k, x ∈ g := fun x m => by
  obtain ⟨⟨a, b⟩, m1, rfl⟩ := List.mem_map.mp m
  exact (List.of_mem_zip (List.mem_filter.mp m1).1).1
theorem psM_len {ss : List Str} {g : List Part} {k : Str} : (psM ss g k).length ≤ g.length := by
  unfold psM
  rw [List.length_map]
  refine Nat.le_trans (List.length_filter_le _ _) ?_
  rw [List.length_zip]
  exact Nat.min_le_left _ _
theorem outP_ok {p : Prog} {g : List Part} {cs : List Cel} {os : List Int} (ho : okProg p) (hL : okL p.lists) (hG : Good p g) (e : runP p g = some (cs, os)) : (∀ i ∈ os, okV i) ∧ os.length ≤ 400 := by
  obtain ⟨a, b⟩ := out_ok (ls := p.lists) e (mc0_ok ho hL hG).1 (fun _ m => nomatch m)
  exact ⟨a, by simpa [mc0] using b⟩
theorem hand_ok {p : Prog} {g : List Part} (hS : okS p) (hL : okL p.lists) (hg : g ∈ hands p) : (∀ x ∈ psM (sorts p) g "open", okPart x ∧ ∀ ws, x = .cs ws → ws.length ≤ 9) ∧ (psM (sorts p) g "open").length ≤ 100 := by
  refine ⟨fun x m => parts_okP (hands_good hg) (fun d m => (hS.sz d m).2) (fun d m => ?_) x (psM_sub x m), ?_⟩
  · have := hL.sm d m
    have := (hL.ok d m).2.2.2
    omega
  · refine Nat.le_trans psM_len ?_
    rw [hands_sorts hg]
    unfold sorts
    rw [List.length_map]
    exact Nat.le_trans (pts_len hS hL) (by decide)
theorem keyP_inj {p : Prog} {g1 g2 : List Part} (ho : okProg p) (hS : okS p) (hL : okL p.lists) (he : ends p) (h1 : g1 ∈ hands p) (h2 : g2 ∈ hands p) (e : keyP p g1 = keyP p g2) : psM (sorts p) g1 "open" = psM (sorts p) g2 "open" ∧ outP p g1 = outP p g2 := by
  obtain ⟨⟨c1, o1⟩, r1⟩ := he g1 h1
  obtain ⟨⟨c2, o2⟩, r2⟩ := he g2 h2
  have k1 : ∀ i ∈ outP p g1, okV i := by
    unfold outP
    rw [r1]
    exact (outP_ok ho hL (hands_good h1) r1).1
  have k2 : ∀ i ∈ outP p g2, okV i := by
    unfold outP
    rw [r2]
    exact (outP_ok ho hL (hands_good h2) r2).1
  exact key_inj (fun x m => ((hand_ok hS hL h1).1 x m).1) (fun x m => ((hand_ok hS hL h2).1 x m).1) k1 k2 e
theorem lnU_len : ∀ (cs : List (Option Int)) (acc : List Int), (cs.foldl lnU acc).length ≤ acc.length + cs.length
  | [], _ => Nat.le_refl _
  | c :: cs, acc => by
    have h := lnU_len cs (lnU acc c)
    have : (lnU acc c).length ≤ acc.length + 1 := by
      cases c with
      | none => exact Nat.le_succ _
      | some i =>
        show (if i / 4 ∈ acc then acc else acc ++ [i / 4]).length ≤ _
        split
        · exact Nat.le_succ _
        · rw [List.length_append, List.length_singleton]
          exact Nat.le_refl _
    show (cs.foldl lnU (lnU acc c)).length ≤ acc.length + (cs.length + 1)
    omega
theorem cut_to {xs : List V} {m : Nat} : cutV xs none (some (m : Int)) = xs.take m := by
  unfold cutV
  have e1 : HT.sIx xs.length xs.length (some (m : Int)) = min m xs.length := HT.sIx_nat _ _ m
  have e0 : HT.sIx xs.length 0 none = 0 := rfl
  rw [e1, e0]
  show xs.take (min m xs.length - 0) = _
  rw [Nat.sub_zero]
  by_cases h : m ≤ xs.length
  · rw [Nat.min_eq_left h]
  · rw [Nat.min_eq_right (by omega), List.take_length, List.take_of_length_le (by omega)]
section
variable {P : Program} {w : World} {K : PySem.W.Frag} {mg : Str → Option Value} {base : Heap}
theorem ok_law_is_still (T : Tx mg) (D : DefAt K mg "_law_is_still" s__law_is_still) (c__law_handings : C8.Cal P w K mg base 2 "_law_handings" sp_law_handings []) (c__law_run : C8.Cal P w K mg base 9 "_law_run" sp_law_run []) (c__law_part : C8.Cal P w K mg base 1 "_law_part" sp_law_part []) : GCal P w K mg base 10 "_law_is_still" sp_law_is_still := by
  refine D.gcal (k := 9) sc__law_is_still (fun _ _ _ _ _ _ us hl => match us, hl with | [_, _], _ => rfl) (fun vs H Q E h => ?_) (fun f cdv A outer s H vs Q E hg hr h => ⟨_, (pss_cons (ps_set (i := 2) sc__law_is_still.nd rfl (Or.inl rfl) pe_dnewK)
    (pss_cons (ps_for PassesOwn.never rfl (pi_list (C8.pe_c c__law_handings hr (by omega) (by rfl) (pa_cons (pv 0) pa_nil))) (pg_name (i := 3) sc__law_is_still.nd rfl (Or.inl rfl))
    (pss_cons (ps_set (i := 4) sc__law_is_still.nd rfl (Or.inl rfl) (C8.pe_c c__law_run hr (by omega) (by rfl) (pa_cons (pv 0) (pa_cons (pv 3) (pa_cons pe_int pa_nil)))))
    (pss_cons (ps_set (i := 5) sc__law_is_still.nd rfl (Or.inl rfl) (pe_lst pa_nil))
    (pss_cons (ps_for PassesOwn.never rfl (pi_list (pe_revL (pe_ix ix_tup (pv 4) pe_int (fun _ _ => rfl)))) (pg_tup rfl (pgs_cons (pg_name (i := 7) sc__law_is_still.nd rfl (Or.inl rfl)) (pgs_cons (pg_name (i := 8) sc__law_is_still.nd rfl (Or.inl rfl)) (pgs_cons (pg_name (i := 9) sc__law_is_still.nd rfl (Or.inl rfl)) pgs_nil))))
    (pss_one (ps_if (PW.pt (pw_and (pt_cmpR op_notN (pv 9) pe_non (nomark _)) (pw_and1 (pt_cmpR op_notIn_seq (pe_op op_fdiv (pv 9) pe_int) (pv 5) (by rfl))))) (pss_one (ps_expr (pe_bm PySem.F.plainAttrs_list PySem.F.slot_list_append PySem.F.type_list_append mt_append (pv 5) (pa_cons (pe_op op_fdiv (pv 9) pe_int) pa_nil))))
    pss_nil)))
    (pss_cons (ps_set (i := 6) sc__law_is_still.nd rfl (Or.inl rfl) (pe_callB (call_reprD hg hr.units) (by rfl) T.repr_ (by decide +kernel) (pa_cons (pe_tup (pa_cons (C8.pe_c c__law_part hr (by omega) (by rfl) (pa_cons (pv 0) (pa_cons (pv 3) (pa_cons pe_str pa_nil)))) (pa_cons (pe_ix ix_tup (pv 4) pe_int (fun _ _ => rfl)) pa_nil))) pa_nil)))
    (pss_cons (ps_if (pt_cmpR (op_neD hr.units) (pe_dget2 (hu_of hr) (pv 2) (pv 6) (pe_slice sl_list (pv 5) po_none (po_some (pv 1))) ⟨by rfl, by rfl, by rfl, by rfl⟩) (pe_slice sl_list (pv 5) po_none (po_some (pv 1))) (nomark _)) (pss_one (ps_ret pe_bl))
    pss_nil)
    (pss_one (ps_dput (hu_of hr) (pv 2) (pv 6) (pe_slice sl_list (pv 5) po_none (po_some (pv 1))) rfl))))))))
    (pss_one (ps_ret pe_bl)))), ?_⟩)
  · obtain ⟨p, v, m, rfl, _⟩ := h
    rfl
  · obtain ⟨p, v, m, rfl, hp, ho, hS, hL, he, q⟩ := h
    walk_at "go"
    rename_i D nD
    have s0 : Same H (upd H D (.dK [])) := same_nw (Same.refl _) nD
    have D0 : (upd H D (.dK [])) D = some (.dK []) := upd_same
    generalize upd H D (.dK []) = H0 at s0 D0 ⊢
    refine ⟨p, v, rfl, hp.ts (same_ts s0), hS, hL, fun H1 L ws s1 hL1 hws lenG => ?_⟩
    have s01 := s0.trans s1
    have D1 := s1 _ _ D0
    walk_at "go"
    refine ⟨⟨_, SqL.of hL1⟩, ?_⟩
    have lw := hws.len
    refine for_it walk_list (fun i σ H' => Same H H' ∧ TS H1 H' ∧ H' L = some (.lst ws) ∧ (∃ ks : List (Key × V), H' D = some (.dK ks) ∧ ks.length ≤ i ∧
        (∀ j g, j < i → (hands p)[j]? = some g → ∃ q, valV ks (Sum.inr (keyP p g)) = some (.ref q) ∧ H' q = some (.lst ((lnP p m g).map .int))) ∧
        (∀ k, valV ks (Sum.inr k) ≠ none → ∃ j g, j < i ∧ (hands p)[j]? = some g ∧ k = keyP p g)) ∧
        ∃ o3 o4 o5 o6 o7 o8 o9, σ = [some v, some (.int m), some (.ref D), o3, o4, o5, o6, o7, o8, o9]) ⟨s01, TS.refl _, hL1, ⟨[], D1, Nat.le_refl _, fun j g h => absurd h (Nat.not_lt_zero _), fun k h => absurd rfl h⟩, _, _, _, _, _, _, _, rfl⟩ (fun i σ H' _ z => SqL.of z.2.2.1) ?_ ?_
    · rintro i y σ J1 J2 hi ⟨sJ, tJ, LJ, ⟨ks, DJ, lk, kA, kB⟩, o3, o4, o5, o6, o7, o8, o9, rfl⟩ ⟨rfl, ey⟩
      obtain ⟨g, eg, hgv⟩ := hws.at ey
      have mgh := List.mem_of_getElem? eg
      have hG := hands_good mgh
      obtain ⟨⟨cs, os⟩, er⟩ := he g mgh
      have hgJ := hgv.ts tJ
      walk_at "go"
      refine ⟨p, v, g, y, rfl, hp.ts (same_ts sJ), ho, hL, hgJ, hG, fun rn => ?_, fun cs' os' rn J3 q3 t c pL pS pA ss s3 h3 hpL hpS hss lss => ?_⟩
      · rw [er] at rn
        cases rn
      · rw [er] at rn
        cases rn
        walk_at "go"
        rename_i L0 n0
        have s30 : Same J3 (upd J3 L0 (.lst [])) := same_nw (Same.refl _) n0
        refine ⟨pS, ss, rfl, SqL.of (s30 _ _ hpS), fun R nR => ?_⟩
        have L00 : (upd (upd J3 L0 (.lst [])) R (.lst ss.reverse)) L0 = some (.lst []) := upd_get nR upd_same
        have R00 : (upd (upd J3 L0 (.lst [])) R (.lst ss.reverse)) R = some (.lst ss.reverse) := upd_same
        have s3R : Same J3 (upd (upd J3 L0 (.lst [])) R (.lst ss.reverse)) := same_nw s30 nR
        have nLR : R ≠ L0 := Ne.symm (ne_of_none upd_same nR)
        generalize upd (upd J3 L0 (.lst [])) R (.lst ss.reverse) = J4 at L00 R00 s3R ⊢
        refine ⟨R, rfl, ⟨_, SqL.of R00⟩, ?_⟩
        have hrev : Paired (StepAt J3) (cs.map (plc p.lists)).reverse ss.reverse := Paired.rev hss
        refine for_it walk_list (fun j σ H' => Same J3 H' ∧ H' R = some (.lst ss.reverse) ∧ H' L0 = some (.lst ((((cs.map (plc p.lists)).reverse.take j).foldl lnU []).map .int)) ∧ ∃ o6 o7 o8 o9, σ = [some v, some (.int m), some (.ref D), some y, some (.ref q3), some (.ref L0), o6, o7, o8, o9]) ⟨s3R, R00, L00, _, _, _, _, rfl⟩ (fun j σ H' _ z => SqL.of z.2.1) ?_ ?_
        · rintro j x σ K1 K2 hj ⟨sK, RK, LK, o6, o7, o8, o9, rfl⟩ ⟨rfl, ex⟩
          obtain ⟨c, ec, p1, i1, i2, rfl, hp1⟩ := Paired.at hrev ex
          have hp1 := sK _ _ hp1
          have ft := foldl_take (g := lnU) (b := []) ec
          have ll : (((cs.map (plc p.lists)).reverse.take j).foldl lnU []).length ≤ 400 := by
            have := lnU_len ((cs.map (plc p.lists)).reverse.take j) []
            rw [List.length_take, List.length_nil] at this
            have : (cs.map (plc p.lists)).reverse.length = ss.length := by rw [List.length_reverse, Paired.length hss]
            omega
          cases c with
          | none =>
            have hp1 : K2 p1 = some (.tup [.int i1, .int i2, .non]) := hp1
            walk_at "go"
            exact ⟨by rw [ft]; exact LK, _, _, _, _, rfl⟩
          | some z =>
            have hp1 : K2 p1 = some (.tup [.int i1, .int i2, .int z]) := hp1
            have ft : ((cs.map (plc p.lists)).reverse.take (j + 1)).foldl lnU [] = if z / 4 ∈ ((cs.map (plc p.lists)).reverse.take j).foldl lnU [] then ((cs.map (plc p.lists)).reverse.take j).foldl lnU [] else ((cs.map (plc p.lists)).reverse.take j).foldl lnU [] ++ [z / 4] := ft
            generalize ((cs.map (plc p.lists)).reverse.take j).foldl lnU [] = acc at LK ft ll
            walk_at "go"
            refine ⟨flat_ints _, ?_⟩
            by_cases hm : z / 4 ∈ acc
            · rw [if_pos hm] at ft
              refine ⟨_, rfl, iteN (show (!inV (.int (z / 4)) (acc.map .int)) = false by rw [inV_ints, decide_eq_true hm]; rfl) ?_⟩
              walk_at "go"
              exact ⟨by rw [ft]; exact LK, _, _, _, _, rfl⟩
            · rw [if_neg hm] at ft
              refine ⟨_, rfl, iteB (show (!inV (.int (z / 4)) (acc.map .int)) = true by rw [inV_ints, decide_eq_false hm]; rfl) ?_⟩
              walk_at "go"
              refine ⟨.inl ⟨rfl, _, SqL.of LK⟩, ?_⟩
              walk_at "go"
              refine ⟨_, _, _, rfl, rfl, LK, sm_lt (by rw [List.length_map]; omega), ?_⟩
              exact ⟨same_mut sK n0, upd_mut nLR RK, by rw [upd_same, ft, List.map_append]; rfl, _, _, _, _, rfl⟩
        · rintro σ K1 ⟨sK, RK, LK, o6, o7, o8, o9, rfl⟩
          rw [List.length_reverse, ← Paired.length hss, ← List.length_reverse, List.take_length] at LK
          have hgK := hgJ.ts (same_ts (s3.trans sK))
          walk_at "go"
          refine ⟨p, v, g, y, _, rfl, hp.ts (same_ts (sJ.trans (s3.trans sK))), hS, hL, hgK, hands_sorts mgh, fun K2 qP us4 s4 hqP hus => ?_⟩
          have h3K := (sK.trans s4) _ _ h3
          walk_at "go"
          rename_i pK nK
          obtain ⟨oo1, oo2⟩ := outP_ok ho hL hG er
          obtain ⟨oh1, oh2⟩ := hand_ok hS hL mgh
          obtain ⟨sh1, sh2, sh3, sh4⟩ := key_shows (fun x m => (oh1 x m).1) (fun x m => (oh1 x m).2) oh2 oo1 (Nat.le_trans oo2 (by decide))
          have eO : outP p g = os := by
            unfold outP
            rw [er]
            rfl
          have eK : (keyD (psM (sorts p) g "open") os).shown = keyP p g := by
            unfold keyP
            rw [eO]
            rfl
          have sKK : Same K2 (upd K2 pK (.tup [.ref qP, .ref pL])) := same_nw (Same.refl _) nK
          have hL2 := sKK _ _ ((sK.trans s4) _ _ hpL)
          refine ⟨pK, _, rfl, dp_key upd_same (sKK _ _ hqP) (Paired.mapP hus fun _ _ z => z.ts (same_ts sKK)) hL2, sh1, sh2, Nat.le_trans sh3 (by decide), sh4, ?_⟩
          rw [eK]
          have s34 : Same J3 (upd K2 pK (.tup [.ref qP, .ref pL])) := (sK.trans s4).trans sKK
          have LKK := sKK _ _ (s4 _ _ LK)
          generalize upd K2 pK (.tup [.ref qP, .ref pL]) = K3 at s34 LKK hL2 ⊢
          have DK3 : K3 D = some (.dK ks) := s34 _ _ (s3 _ _ DJ)
          have LN : cutV ((((cs.map (plc p.lists)).reverse.foldl lnU []).map V.int)) none (some (m : Int)) = (lnP p m g).map .int := by
            rw [cut_to, ← List.map_take, stored_take]
            unfold lnP
            rw [er]
            rfl
          walk_at "go"
          refine ⟨.inl ⟨_, .inl DK3⟩, ?_⟩
          walk_at "go"
          refine ⟨L0, _, rfl, SqL.of LKK, fun p1 n1 => ?_⟩
          have P1 : (upd K3 p1 (.lst (cutV ((((cs.map (plc p.lists)).reverse.foldl lnU []).map V.int)) none (some (m : Int))))) p1 = some (.lst ((lnP p m g).map .int)) := by rw [upd_same, LN]
          have s3p : Same K3 (upd K3 p1 (.lst (cutV ((((cs.map (plc p.lists)).reverse.foldl lnU []).map V.int)) none (some (m : Int))))) := same_nw (Same.refl _) n1
          generalize upd K3 p1 (.lst (cutV ((((cs.map (plc p.lists)).reverse.foldl lnU []).map V.int)) none (some (m : Int)))) = K4 at P1 s3p ⊢
          have DK4 := s3p _ _ DK3
          have sJ4 : Same J2 K4 := (s3.trans s34).trans s3p
          have LK4 := s3p _ _ LKK
          have got : ∃ r ys, (valV ks (Sum.inr (keyP p g))).getD (.ref p1) = .ref r ∧ K4 r = some (.lst ((ys : List Int).map .int)) ∧ (valV ks (Sum.inr (keyP p g)) = none → ys = lnP p m g) ∧ (∀ g' q', keyP p g' = keyP p g → valV ks (Sum.inr (keyP p g)) = some (.ref q') → J2 q' = some (.lst ((lnP p m g').map .int)) → ys = lnP p m g') ∧ (ys = lnP p m g ∨ ∃ g' ∈ hands p, keyP p g' = keyP p g ∧ ys = lnP p m g') := by
            cases ev : valV ks (Sum.inr (keyP p g)) with
            | none => exact ⟨p1, _, rfl, P1, fun _ => rfl, fun _ _ _ z => (nomatch z), Or.inl rfl⟩
            | some u =>
              obtain ⟨j, g', hj, eg', ek⟩ := kB (keyP p g) (by rw [ev]; exact fun z => nomatch z)
              obtain ⟨q', e1, e2⟩ := kA j g' hj eg'
              rw [← ek, ev] at e1
              cases e1
              refine ⟨q', _, rfl, sJ4 _ _ e2, fun z => (nomatch z), fun g2 q2 _ z h2 => ?_, Or.inr ⟨g', List.mem_of_getElem? eg', ek.symm, rfl⟩⟩
              cases z
              rw [e2] at h2
              exact (List.map_inj_right (fun a b z => V.int.inj z)).mp (HO.lst.inj (Option.some.inj h2))
          obtain ⟨r, ys, er1, er2, er3, er4, er5⟩ := got
          refine ⟨valV ks (Sum.inr (keyP p g)), DGet.k (k := Sum.inr (keyP p g)) DK4, ?_⟩
          rw [er1]
          walk_at "go"
          refine ⟨L0, _, rfl, SqL.of LK4, fun p2 n2 => ?_⟩
          have P2 : (upd K4 p2 (.lst (cutV ((((cs.map (plc p.lists)).reverse.foldl lnU []).map V.int)) none (some (m : Int))))) p2 = some (.lst ((lnP p m g).map .int)) := by rw [upd_same, LN]
          have s4p : Same K4 (upd K4 p2 (.lst (cutV ((((cs.map (plc p.lists)).reverse.foldl lnU []).map V.int)) none (some (m : Int))))) := same_nw (Same.refl _) n2
          generalize upd K4 p2 (.lst (cutV ((((cs.map (plc p.lists)).reverse.foldl lnU []).map V.int)) none (some (m : Int)))) = K5 at P2 s4p ⊢
          have sJ5 := sJ4.trans s4p
          refine neD_ints (s4p _ _ er2) P2 ⟨_, rfl, ?_⟩
          by_cases same : ys = lnP p m g
          · refine iteN (by rw [decide_eq_true same]; rfl) ?_
            walk_at "go"
            have LK5 := s4p _ _ LK4
            refine ⟨L0, _, rfl, SqL.of LK5, fun p3 n3 => ?_⟩
            have P3 : (upd K5 p3 (.lst (cutV ((((cs.map (plc p.lists)).reverse.foldl lnU []).map V.int)) none (some (m : Int))))) p3 = some (.lst ((lnP p m g).map .int)) := by rw [upd_same, LN]
            have s5p : Same K5 (upd K5 p3 (.lst (cutV ((((cs.map (plc p.lists)).reverse.foldl lnU []).map V.int)) none (some (m : Int))))) := same_nw (Same.refl _) n3
            generalize upd K5 p3 (.lst (cutV ((((cs.map (plc p.lists)).reverse.foldl lnU []).map V.int)) none (some (m : Int)))) = K6 at P3 s5p ⊢
            have sJ6 := sJ5.trans s5p
            have DK6 := sJ6 _ _ DJ
            have l4 : ks.length < sizeLine := sm_lt (by omega)
            walk_at "go"
            have mutL : ∀ {b : Addr} {zs : List V}, J2 b = some (.lst zs) → (upd K6 D (.dK (putK ks (Sum.inr (keyP p g)) (.ref p3)))) b = some (.lst zs) := fun e => upd_mut (ne_of (sJ6 _ _ e) DK6 (fun z => nomatch z)) (sJ6 _ _ e)
            refine ⟨D, _, rfl, .inl ⟨ks, Sum.inr (keyP p g), DK6, rfl, l4, rfl⟩, ?_⟩
            refine ⟨same_mut (sJ.trans sJ6) nD, (tJ.trans (same_ts sJ6)).trans (ts_mut (TS.refl _) DK6 (fun _ z => nomatch z)), mutL LJ, ⟨_, upd_same, ?_, fun j g' hj eg' => ?_, fun k' hk' => ?_⟩, _, _, _, _, _, _, _, rfl⟩
            · unfold putK
              split
              · rw [List.length_map]
                omega
              · rw [List.length_append, List.length_singleton]
                omega
            · rw [valV_put]
              by_cases ek : keyP p g' = keyP p g
              · rw [if_pos (congrArg Sum.inr ek)]
                refine ⟨p3, rfl, ?_⟩
                have eL : lnP p m g' = lnP p m g := by
                  by_cases ji : j = i
                  · subst ji
                    cases eg.symm.trans eg'
                    rfl
                  · obtain ⟨q', e1, e2⟩ := kA j g' (by omega) eg'
                    rw [ek] at e1
                    exact (er4 g' q' ek e1 e2).symm.trans same
                rw [eL]
                exact upd_mut (ne_of P3 DK6 (fun z => nomatch z)) P3
              · rw [if_neg (fun z => ek (Sum.inr.inj z))]
                have ji : j ≠ i := fun z => by
                  subst z
                  cases eg.symm.trans eg'
                  exact ek rfl
                obtain ⟨q', e1, e2⟩ := kA j g' (by omega) eg'
                exact ⟨q', e1, mutL e2⟩
            · rw [valV_put] at hk'
              by_cases ek : k' = keyP p g
              · exact ⟨i, g, Nat.lt_succ_self _, eg, ek⟩
              · rw [if_neg (fun z => ek (Sum.inr.inj z))] at hk'
                obtain ⟨j, g', h1, h2, h3⟩ := kB k' hk'
                exact ⟨j, g', Nat.lt_succ_of_lt h1, h2, h3⟩
          · refine iteB (by rw [decide_eq_false same]; rfl) ?_
            walk_at "go"
            refine q false _ (sJ.trans sJ5) ⟨fun z => (nomatch z), fun hst => ?_⟩
            rcases er5 with e | ⟨g', mg', ek, e⟩
            · exact absurd e same
            · obtain ⟨z1, z2⟩ := keyP_inj ho hS hL he mg' mgh ek
              exact absurd (e.trans (hst g' mg' g mgh z1 z2)) same
    · rintro σ J1 ⟨sJ, tJ, LJ, ⟨ks, DJ, lk, kA, kB⟩, o3, o4, o5, o6, o7, o8, o9, rfl⟩
      walk_at "go"
      refine q true _ sJ ⟨fun _ => ?_, fun _ => rfl⟩
      intro g1 m1 g2 m2 e1 e2
      obtain ⟨j1, x1⟩ := List.getElem?_of_mem m1
      obtain ⟨j2, x2⟩ := List.getElem?_of_mem m2
      obtain ⟨q1, v1, h1⟩ := kA j1 g1 (by rw [← lw]; exact (List.getElem?_eq_some_iff.mp x1).1) x1
      obtain ⟨q2, v2, h2⟩ := kA j2 g2 (by rw [← lw]; exact (List.getElem?_eq_some_iff.mp x2).1) x2
      have ek : keyP p g1 = keyP p g2 := by
        unfold keyP
        rw [e1, e2]
      rw [ek, v2] at v1
      cases v1
      rw [h2] at h1
      have h1 := HO.lst.inj (Option.some.inj h1)
      exact (List.map_inj_right (fun a b z => V.int.inj z)).mp h1.symm
end
end NW
/-! ## Plain: a program as data -/
namespace NW
open PySem PySem.Spec PyProof.Rows L2
def opdD : Opd → PyData
  | .n i => .int i
  | .s x => .str x
mutual
def rowD : Row → PyData
  | .set x d a b => .tuple [.str "set", .str x, .str d, opdD a, opdD b]
  | .get x l a => .tuple [.str "get", .str x, .str l, opdD a]
  | .put l a b => .tuple [.str "put", .str l, opdD a, opdD b]
  | .pick x a b c => .tuple [.str "pick", .str x, opdD a, opdD b, opdD c]
  | .lt a => .tuple [.str "let", opdD a]
  | .ite a t e => .tuple [.str "if", opdD a, .tuple (rowsD t), .tuple (rowsD e)]
  | .whl a n b => .tuple [.str "while", opdD a, .int n, .tuple (rowsD b)]
def rowsD : Rows → List PyData
  | .nil => []
  | .cons r rs => rowD r :: rowsD rs
end
def pdD (d : PD) : PyData := .tuple [.str d.nm, .str d.so, .int d.sz]
def ldD (d : LD) : PyData := .tuple [.str d.nm, .str d.so, .int d.cells, .int d.wo, .int d.em]
def progD (p : Prog) : PyData := .tuple [.tuple (p.handed.map pdD), .tuple (p.lists.map ldD), .tuple (rowsD p.rows), .tuple (p.told.map .str)]
section
variable {K : PySem.W.Frag} {H : Hp}
theorem dp_opd (a : Opd) : Dp K H a.v (opdD a) := by
  cases a with
  | n i => exact .int i
  | s x => exact .str x
mutual
theorem dp_row : ∀ {r : Row} {v : V}, RowAt H r v → Dp K H v (rowD r)
  | .set x d a b, _, ⟨p, rfl, h⟩ => .tup (SqT.of h) (.cons (.str _) (.cons (.str _) (.cons (.str _) (.cons (dp_opd a) (.cons (dp_opd b) .nil)))))
  | .get x l a, _, ⟨p, rfl, h⟩ => .tup (SqT.of h) (.cons (.str _) (.cons (.str _) (.cons (.str _) (.cons (dp_opd a) .nil))))
  | .put l a b, _, ⟨p, rfl, h⟩ => .tup (SqT.of h) (.cons (.str _) (.cons (.str _) (.cons (dp_opd a) (.cons (dp_opd b) .nil))))
  | .pick x a b c, _, ⟨p, rfl, h⟩ => .tup (SqT.of h) (.cons (.str _) (.cons (.str _) (.cons (dp_opd a) (.cons (dp_opd b) (.cons (dp_opd c) .nil)))))
  | .lt a, _, ⟨p, rfl, h⟩ => .tup (SqT.of h) (.cons (.str _) (.cons (dp_opd a) .nil))
  | .ite a t e, _, ⟨p, pt, pe, ts, es, rfl, h, ht, he, h1, h2⟩ => .tup (SqT.of h) (.cons (.str _) (.cons (dp_opd a) (.cons (.tup (SqT.of ht) (dp_rows h1)) (.cons (.tup (SqT.of he) (dp_rows h2)) .nil))))
  | .whl a n b, _, ⟨p, pb, bs, rfl, h, hb, h1⟩ => .tup (SqT.of h) (.cons (.str _) (.cons (dp_opd a) (.cons (.int n) (.cons (.tup (SqT.of hb) (dp_rows h1)) .nil))))
theorem dp_rows : ∀ {rs : Rows} {vs : List V}, RowsL H rs vs → DpAll K H vs (rowsD rs)
  | .nil, _, rfl => .nil
  | .cons r rs, _, ⟨v, ws, rfl, h1, h2⟩ => .cons (dp_row h1) (dp_rows h2)
end
theorem dp_tups {α : Type} {f : α → List V} {g : α → PyData} (hfg : ∀ (x : α) (p : Addr), H p = some (.tup (f x)) → Dp K H (.ref p) (g x)) : ∀ {xs : List α} {vs : List V}, TupsL H (xs.map f) vs → DpAll K H vs (xs.map g)
  | [], _, .nil => .nil
  | x :: xs, _, .cons ⟨p, e, h⟩ t => by
    subst e
    exact .cons (hfg x p h) (dp_tups hfg t)
theorem dp_strs : ∀ xs : List Str, DpAll K H (xs.map .str) (xs.map .str)
  | [] => .nil
  | _ :: xs => .cons (.str _) (dp_strs xs)
theorem dp_prog {p : Prog} {v : V} (h : ProgAt H p v) : Dp K H v (progD p) := by
  obtain ⟨a, ah, al, ar, at_, hs, ls, rs, rfl, h0, h1, h2, h3, h4, h5, h6, h7⟩ := h
  exact .tup (SqT.of h0) (.cons (.tup (SqT.of h1) (dp_tups (fun d p h => .tup (SqT.of h) (.cons (.str _) (.cons (.str _) (.cons (.int _) .nil)))) h2))
    (.cons (.tup (SqT.of h3) (dp_tups (fun d p h => .tup (SqT.of h) (.cons (.str _) (.cons (.str _) (.cons (.int _) (.cons (.int _) (.cons (.int _) .nil)))))) h4))
    (.cons (.tup (SqT.of h5) (dp_rows h6)) (.cons (.tup (SqT.of h7) (dp_strs _)) .nil))))
end
abbrev SOK (x : Str) : Prop := PyData.canLay0 (.str x) = true
theorem sok_n {x : Str} (h : okN x) : SOK x := by
  rcases h with rfl | rfl | rfl | rfl <;> decide +kernel
theorem sok_l {ls : List Str} {x : Str} (h : okLs ls) (m : x ∈ ls) : SOK x := by
  rcases h x m with rfl | rfl <;> decide +kernel
theorem sok_d {x : Str} (h : okD x) : SOK x := by
  rcases h with rfl | rfl | rfl | rfl | rfl | rfl | rfl | rfl | rfl <;> decide +kernel
theorem sok_so {x : Str} (h : okSo x) : SOK x := by
  rcases h with rfl | rfl | rfl <;> decide +kernel
theorem sok_w : SOK "set" ∧ SOK "get" ∧ SOK "put" ∧ SOK "pick" ∧ SOK "let" ∧ SOK "if" ∧ SOK "while" := by
  refine ⟨?_, ?_, ?_, ?_, ?_, ?_, ?_⟩ <;> decide +kernel
theorem opd_ok {a : Opd} (h : okO a) : PyData.canLay0 (opdD a) = true ∧ (opdD a).depth = 0 := by
  cases a with
  | n i => exact ⟨rfl, rfl⟩
  | s x => exact ⟨sok_n h, rfl⟩
theorem can5 {a b c d e : PyData} (ha : a.canLay0 = true) (hb : b.canLay0 = true) (hc : c.canLay0 = true) (hd : d.canLay0 = true) (he : e.canLay0 = true) : PyData.canLay0 (.tuple [a, b, c, d, e]) = true := by
  show (a.canLay0 && (b.canLay0 && (c.canLay0 && (d.canLay0 && (e.canLay0 && true))))) = true
  rw [ha, hb, hc, hd, he]
  rfl
theorem can4 {a b c d : PyData} (ha : a.canLay0 = true) (hb : b.canLay0 = true) (hc : c.canLay0 = true) (hd : d.canLay0 = true) : PyData.canLay0 (.tuple [a, b, c, d]) = true := by
  show (a.canLay0 && (b.canLay0 && (c.canLay0 && (d.canLay0 && true)))) = true
  rw [ha, hb, hc, hd]
  rfl
theorem dep5 {a b c d e : PyData} {n : Nat} (ha : a.depth ≤ n) (hb : b.depth ≤ n) (hc : c.depth ≤ n) (hd : d.depth ≤ n) (he : e.depth ≤ n) : PyData.depth (.tuple [a, b, c, d, e]) ≤ n + 1 := by
  show max a.depth (max b.depth (max c.depth (max d.depth (max e.depth 0)))) + 1 ≤ n + 1
  omega
theorem dep4 {a b c d : PyData} {n : Nat} (ha : a.depth ≤ n) (hb : b.depth ≤ n) (hc : c.depth ≤ n) (hd : d.depth ≤ n) : PyData.depth (.tuple [a, b, c, d]) ≤ n + 1 := by
  show max a.depth (max b.depth (max c.depth (max d.depth 0))) + 1 ≤ n + 1
  omega
mutual
theorem row_ok {ls : List Str} (hl : okLs ls) : ∀ {r : Row} {k : Nat}, okRow ls k r → PyData.canLay0 (rowD r) = true ∧ (rowD r).depth ≤ 2 * k + 1
  | .set x d a b, k, h => ⟨can5 sok_w.1 (sok_n h.1) (sok_d h.2.1) (opd_ok h.2.2.1).1 (opd_ok h.2.2.2).1, dep5 (n := 2 * k) (Nat.zero_le _) (Nat.zero_le _) (Nat.zero_le _) (by rw [(opd_ok h.2.2.1).2]; exact Nat.zero_le _) (by rw [(opd_ok h.2.2.2).2]; exact Nat.zero_le _)⟩
  | .get x l a, k, h => ⟨can4 sok_w.2.1 (sok_n h.1) (sok_l hl h.2.1) (opd_ok h.2.2).1, dep4 (n := 2 * k) (Nat.zero_le _) (Nat.zero_le _) (Nat.zero_le _) (by rw [(opd_ok h.2.2).2]; exact Nat.zero_le _)⟩
  | .put l a b, k, h => ⟨can4 sok_w.2.2.1 (sok_l hl h.1) (opd_ok h.2.1).1 (opd_ok h.2.2).1, dep4 (n := 2 * k) (Nat.zero_le _) (Nat.zero_le _) (by rw [(opd_ok h.2.1).2]; exact Nat.zero_le _) (by rw [(opd_ok h.2.2).2]; exact Nat.zero_le _)⟩
  | .pick x a b c, k, h => ⟨can5 sok_w.2.2.2.1 (sok_n h.1) (opd_ok h.2.1).1 (opd_ok h.2.2.1).1 (opd_ok h.2.2.2).1, dep5 (n := 2 * k) (Nat.zero_le _) (Nat.zero_le _) (by rw [(opd_ok h.2.1).2]; exact Nat.zero_le _) (by rw [(opd_ok h.2.2.1).2]; exact Nat.zero_le _) (by rw [(opd_ok h.2.2.2).2]; exact Nat.zero_le _)⟩
  | .lt a, k, h => by
    have h : okO a := h
    obtain ⟨h1, h2⟩ := opd_ok h
    refine ⟨?_, ?_⟩
    · show (PyData.canLay0 (.str "let") && ((opdD a).canLay0 && true)) = true
      rw [h1, show PyData.canLay0 (.str "let") = true from sok_w.2.2.2.2.1]
      rfl
    · show max 0 (max (opdD a).depth 0) + 1 ≤ 2 * k + 1
      omega
  | .ite a t e, k, h => by
    obtain ⟨k0, ho, _, _, h1, h2⟩ := h
    obtain ⟨a1, a2⟩ := rows_ok hl h1
    obtain ⟨b1, b2⟩ := rows_ok hl h2
    refine ⟨can4 sok_w.2.2.2.2.2.1 (opd_ok ho).1 a1 b1, dep4 (n := 2 * k) (Nat.zero_le _) (by rw [(opd_ok ho).2]; exact Nat.zero_le _) ?_ ?_⟩
    · show PyData.depthAll (rowsD t) + 1 ≤ 2 * k
      omega
    · show PyData.depthAll (rowsD e) + 1 ≤ 2 * k
      omega
  | .whl a n b, k, h => by
    obtain ⟨k0, ho, _, _, _, h1⟩ := h
    obtain ⟨a1, a2⟩ := rows_ok hl h1
    refine ⟨can4 sok_w.2.2.2.2.2.2 (opd_ok ho).1 rfl a1, dep4 (n := 2 * k) (Nat.zero_le _) (by rw [(opd_ok ho).2]; exact Nat.zero_le _) (Nat.zero_le _) ?_⟩
    show PyData.depthAll (rowsD b) + 1 ≤ 2 * k
    omega
theorem rows_ok {ls : List Str} (hl : okLs ls) : ∀ {rs : Rows} {k : Nat}, okRows ls k rs → PyData.canLayAll0 (rowsD rs) = true ∧ PyData.depthAll (rowsD rs) ≤ 2 * k + 1
  | .nil, _, _ => ⟨rfl, Nat.zero_le _⟩
  | .cons r rs, k, h => by
    obtain ⟨a1, a2⟩ := row_ok hl h.1
    obtain ⟨b1, b2⟩ := rows_ok hl h.2
    refine ⟨?_, ?_⟩
    · show (PyData.canLay0 (rowD r) && PyData.canLayAll0 (rowsD rs)) = true
      rw [a1, b1]
      rfl
    · show max (rowD r).depth (PyData.depthAll (rowsD rs)) ≤ 2 * k + 1
      omega
end
theorem all_ok {α : Type} {f : α → PyData} {n : Nat} : ∀ {xs : List α}, (∀ x ∈ xs, (f x).canLay0 = true ∧ (f x).depth ≤ n) → PyData.canLayAll0 (xs.map f) = true ∧ PyData.depthAll (xs.map f) ≤ n
  | [], _ => ⟨rfl, Nat.zero_le _⟩
  | x :: xs, h => by
    obtain ⟨a1, a2⟩ := h x List.mem_cons_self
    obtain ⟨b1, b2⟩ := all_ok fun y m => h y (List.mem_cons_of_mem _ m)
    refine ⟨?_, ?_⟩
    · show ((f x).canLay0 && PyData.canLayAll0 (xs.map f)) = true
      rw [a1, b1]
      rfl
    · show max (f x).depth (PyData.depthAll (xs.map f)) ≤ n
      omega
theorem shaped_prog {p : Prog} (h : DrawnE p) : SeqAt.shaped (progD p) = true := by
  have hP := h.okP
  obtain ⟨_, _, hn, _⟩ := drawnH_ok h.hd
  have hnm : ∀ d ∈ p.handed, SOK d.nm := fun d m => by
    have m : d.nm ∈ p.handed.map PD.nm := List.mem_map_of_mem m
    rcases hn with e | e <;> rw [e] at m
    · rw [List.mem_singleton.mp m]
      decide +kernel
    · rcases List.mem_cons.mp m with e | m
      · rw [e]
        decide +kernel
      · rw [List.mem_singleton.mp m]
        decide +kernel
  obtain ⟨a1, a2⟩ := all_ok (f := pdD) (n := 1) (xs := p.handed) fun d m => by
    have so : SOK d.so := (hP.ph d m).2.1.elim (fun e => sok_so (Or.inl e)) fun e => sok_so (Or.inr (Or.inl e))
    refine ⟨?_, Nat.le_refl _⟩
    show (PyData.canLay0 (.str d.nm) && (PyData.canLay0 (.str d.so) && true)) = true
    rw [show PyData.canLay0 (.str d.nm) = true from hnm d m, show PyData.canLay0 (.str d.so) = true from so]
    rfl
  obtain ⟨b1, b2⟩ := all_ok (f := ldD) (n := 1) (xs := p.lists) fun d m => ⟨can5 (sok_l hP.ls (List.mem_map_of_mem m)) (sok_so (hP.pl d m).2.1) rfl rfl rfl, Nat.le_refl _⟩
  obtain ⟨c1, c2⟩ := rows_ok hP.ls h.rw
  obtain ⟨d1, d2⟩ := all_ok (f := PyData.str) (n := 0) (xs := p.told) fun x m => ⟨sok_n (hP.tn x m), Nat.le_refl _⟩
  unfold SeqAt.shaped
  rw [Bool.and_eq_true]
  refine ⟨can4 a1 b1 c1 d1, decide_eq_true (Nat.le_trans (dep4 (n := 10) ?_ ?_ ?_ ?_) (by decide))⟩
  · show PyData.depthAll _ + 1 ≤ 10
    omega
  · show PyData.depthAll _ + 1 ≤ 10
    omega
  · show PyData.depthAll _ + 1 ≤ 10
    omega
  · show PyData.depthAll _ + 1 ≤ 10
    omega
theorem ne_prog {K : PySem.W.Frag} {H : Hp} {p : Prog} {v w : V} {Q : VK} (h : DrawnE p) (hv : ProgAt H p v) (hw : ProgAt H p w) (q : Q (.bl false) H) : rNeD K v w H Q := by
  refine ⟨_, _, dp_prog hv, dp_prog hw, shaped_prog h, shaped_prog h, ?_⟩
  rw [SeqAt.eqv_refl _ (SeqAt.canLay_of_shaped (shaped_prog h))]
  exact q
end NW
/-! ## Walks: all layouts, by the law -/
namespace NW
open PySem PySem.Spec PyProof.Rows L2
set_option pp.maxSteps 150
-- an object's place in a heap
local macro_rules | `(tactic| walk_at "hp") => `(tactic| (show _ = some _; first
  | assumption
  | exact upd_same
  | (refine' upd_get ?n ?h; (case n => assumption); (case h => walk_at "hp"))
  | (refine' same_get ?n ?h; (case n => assumption); (case h => walk_at "hp"))))
-- a heap that has grown
local macro_rules | `(tactic| walk_at "sm") => `(tactic| first
  | assumption
  | exact Same.refl _
  | (refine' same_nw ?n ?h; (case h => assumption); (case n => walk_at "sm"))
  | (refine' Same.trans ?n ?h; (case h => assumption); (case n => walk_at "sm")))
local macro_rules | `(tactic| walk_at "ty") => `(tactic| first
  | exact TyN.int _
  | exact TyN.str _
  | exact TyN.non
  | (refine' TyN.tup ?h; (case h => walk_at "hp"))
  | (refine' TyN.lst ?h; (case h => walk_at "hp")))
-- a test whose answer is known
local macro_rules | `(tactic| walk_at "if") => `(tactic| first
  | (refine iteB (by decide +kernel) ?_)
  | (refine iteN (by decide +kernel) ?_)
  | (refine iteB (by rfl) ?_)
  | (refine iteN (by rfl) ?_)
  | (refine iteB (decide_eq_true (by first | omega | assumption)) ?_)
  | (refine iteN (decide_eq_false (by first | omega | assumption)) ?_)
  | (refine iteB (by simp only [Bool.not_eq_true', Bool.not_eq_false', Bool.and_eq_true, Bool.and_eq_false_iff, Bool.or_eq_true, Bool.or_eq_false_iff, decide_eq_true_eq, decide_eq_false_iff_not]; omega) ?_)
  | (refine iteN (by simp only [Bool.not_eq_true', Bool.not_eq_false', Bool.and_eq_true, Bool.and_eq_false_iff, Bool.or_eq_true, Bool.or_eq_false_iff, decide_eq_true_eq, decide_eq_false_iff_not]; omega) ?_))
-- one step of a reading
local macro_rules | `(tactic| walk_at "s") => `(tactic| first
  | refine ⟨_, rfl, ?_⟩
  | refine ⟨_, _, rfl, rfl, ?_⟩
  | refine And.intro (show wipe _ _ = wipe _ _ by kernel_rfl) ?_
  | refine And.intro rfl ?_
  | (refine' ⟨_, _, _, _, rfl, rfl, SqT.of ?h, ?e, ?_⟩; (case h => walk_at "hp"); (case e => exact rfl))
  | (refine' ⟨_, _, rfl, ?t, ?_⟩; (case t => walk_at "ty"))
  | (refine' ⟨_, _, rfl, SqT.of ?h, ?e, ?_⟩; (case h => walk_at "hp"); (case e => exact rfl))
  | refine ⟨_, _, rfl, ?_⟩
  | (refine' ⟨_, _, _, rfl, rfl, ?h1, ?h2, ?_⟩; (case h1 => walk_at "hp"); (case h2 => walk_at "hp"))
  | (refine' ⟨_, _, _, _, rfl, rfl, SqL.of ?h, ?e, ?_⟩; (case h => walk_at "hp"); (case e => exact rfl))
  | (refine' ⟨_, _, rfl, Or.inr (SqT.of ?h), ?_⟩; (case h => walk_at "hp"))
  | (refine' ⟨_, _, rfl, Or.inr (SqT.of ?h), rfl, rfl, ?_⟩; (case h => walk_at "hp"))
  | (refine' ⟨_, _, rfl, Or.inl (SqL.of ?h), ?_⟩; (case h => walk_at "hp"))
  | refine And.intro (flat_strs _) ?_
  | (refine And.intro (sm_sz (Nat.le_of_ble_eq_true rfl)) ?_; intro p np)
  | walk_at "if"
  | (refine' And.intro ?a ?_; (case a => first | assumption | exact sm_sz (by omega) | omega | exact Or.inr ⟨by omega, by omega⟩ | exact Or.inl ⟨by omega, by omega⟩ | exact ⟨by omega, by omega⟩))
  | refine Or.inl ⟨_, _, _, rfl, ?_⟩
  | refine Or.inr ⟨_, _, _, rfl, ?_⟩
  | (intro Hn sn))
local macro_rules | `(tactic| walk_at "go") => `(tactic| repeat (walk_at "s"))

abbrev s__law_lays : Stmt := topS 105
abbrev N__law_lays : List Str := ["_law_amount", "_law_gaps", "_law_turn_here", "_law_whole", "_law_found", "_law_orders", "_law_late", "_law_one", "_law_order", "_law_gap", "_law_some"]
abbrev P__law_lays : List Str := ["_law_amount"]
theorem sc__law_lays : FnScope N__law_lays P__law_lays (defScope s__law_lays) := ⟨rfl, rfl, rfl, by decide +kernel, rfl, by decide +kernel, by decide +kernel⟩

def LayAt (H : Hp) (x : List Int × List Int) (v : V) : Prop := ∃ p po pg, v = .ref p ∧ H p = some (.tup [.ref po, .ref pg]) ∧ H po = some (.lst (x.1.map .int)) ∧ H pg = some (.lst (x.2.map .int))
def LayD (D : Addr) (H : Hp) (x : List Int × List Int) (v : V) : Prop := ∃ p po pg, v = .ref p ∧ H p = some (.tup [.ref po, .ref pg]) ∧ H po = some (.lst (x.1.map .int)) ∧ H pg = some (.lst (x.2.map .int)) ∧ po ≠ D ∧ pg ≠ D
def sp_law_lays : Sp := fun vs H Q _ => ∃ n : Nat, vs = [.int n] ∧ n ≤ 2 ∧ ∀ H' q ws, Same H H' → H' q = some (.lst ws) → Paired (LayAt H') (laysM n) ws → Q (.ref q) H'
def gapsA (n : Nat) : List (List Int) := prodL (List.replicate n (rng 4))
def ORD : List (List Int) := [[], [0], [0, 1], [1, 0]]
def selG (n : Nat) (wh : Nat) (o : List Int) (j : Nat) : List (List Int × List Int) := (((gapsA n).take j).filter fun xs => decide (xs.sum = ((wh : Nat) : Int))).map fun g => (o, g)
theorem LayAt.same {H H' : Hp} (s : Same H H') {x : List Int × List Int} {v : V} (h : LayAt H x v) : LayAt H' x v := by
  obtain ⟨p, po, pg, e, h1, h2, h3⟩ := h
  exact ⟨p, po, pg, e, s _ _ h1, s _ _ h2, s _ _ h3⟩
theorem IntsL.same {H H' : Hp} (s : Same H H') {xss : List (List Int)} {vs : List V} (h : IntsL H xss vs) : IntsL H' xss vs := Paired.mapP h fun _ _ ⟨q, e, z⟩ => ⟨q, e, s _ _ z⟩
theorem ord_perms {n : Nat} (h : n ≤ 2) : (ORD.filter fun xs => decide (xs.length = n)) = permsM n n := by
  have : n = 0 ∨ n = 1 ∨ n = 2 := by omega
  rcases this with rfl | rfl | rfl <;> decide +kernel
theorem gapsA_len {n : Nat} (h : n ≤ 2) : (gapsA n).length ≤ 16 := by
  unfold gapsA
  rw [tups_len]
  exact Nat.pow_le_pow_right (by decide) h
theorem take_flat {α β : Type} (f : α → List β) {xs : List α} {i : Nat} {x : α} (e : xs[i]? = some x) : (xs.take (i + 1)).flatMap f = (xs.take i).flatMap f ++ f x := by
  rw [take_snoc e, List.flatMap_append]
  congr 1
  exact List.append_nil _
theorem rng_at {m : Int} {k : Nat} {z : Int} (h : (rng m)[k]? = some z) : z = (k : Int) := by
  unfold rng at h
  rw [List.getElem?_map] at h
  obtain ⟨j, e, rfl⟩ := Option.map_eq_some_iff.mp h
  obtain ⟨hj, e⟩ := List.getElem?_eq_some_iff.mp e
  rw [List.getElem_range] at e
  rw [e]
  rfl
theorem pair_mapL {α β γ : Type} {F : β → γ → Prop} {f : α → β} : ∀ {xs : List α} {vs : List γ}, Paired (fun a v => F (f a) v) xs vs → Paired F (xs.map f) vs
  | _, _, .nil => .nil
  | _, _, .cons h t => .cons h (pair_mapL t)
section
variable {P : Program} {w : World} {K : PySem.W.Frag} {mg : Str → Option Value} {base : Heap}
theorem ok_law_lays (T : Tx mg) (D : DefAt K mg "_law_lays" s__law_lays) : C8.Cal P w K mg base 1 "_law_lays" sp_law_lays [] := by
  refine D.cal (k := 0) sc__law_lays (fun _ _ _ _ _ _ us hl => match us, hl with | [_], _ => rfl) (fun vs H Q E h => ?_) (fun f cdv A outer s H vs Q E hr h => ⟨_, (pss_cons (ps_par (i := 4) (j := 5) rfl sc__law_lays.nd rfl rfl (by decide) rfl rfl (pa_cons (pe_lst pa_nil) (pa_cons (pe_lst (pa_cons (pe_lst pa_nil) (pa_cons (pe_lst (pa_cons pe_int pa_nil)) (pa_cons (pe_lst (pa_cons pe_int (pa_cons pe_int pa_nil))) (pa_cons (pe_lst (pa_cons pe_int (pa_cons pe_int pa_nil))) pa_nil))))) pa_nil)) (by rfl))
    (pss_cons (ps_set (i := 1) sc__law_lays.nd rfl (Or.inl rfl) (pe_lst (pa_cons (pe_lst pa_nil) pa_nil)))
    (pss_cons (ps_for PassesOwn.never rfl (pi_range1 (by rfl) T.range_ (pa_cons (pv 0) pa_nil)) (pg_name (i := 2) sc__law_lays.nd rfl (Or.inl rfl))
    (pss_cons (ps_set (i := 6) sc__law_lays.nd rfl (Or.inl rfl) (pe_lst pa_nil))
    (pss_cons (ps_for PassesOwn.never rfl (pi_list (pv 1)) (pg_name (i := 7) sc__law_lays.nd rfl (Or.inr rfl))
    (pss_one (ps_set (i := 6) sc__law_lays.nd rfl (Or.inl rfl) (pe_op op_cat (pv 6) (pe_lc (own := [("_law_gap", 9)]) (g := (gName 9)) (tt := tYes) rfl sc__law_lays.nd (pi_range1 (by rfl) T.range_ (pa_cons pe_int pa_nil)) (blkOk_by (own := [("_law_gap", 9)]) (N := N__law_lays) (sc := defScope s__law_lays) (by decide +kernel)) (fun _ _ _ _ _ => (pg_name (i := 9) sc__law_lays.nd rfl (Or.inl rfl))) (fun _ _ _ _ _ => pts_nil) (fun _ _ _ _ _ => (pe_op op_cat (pv 7) (pe_lst (pa_cons (pv 9) pa_nil)))))))))
    (pss_one (ps_set (i := 1) sc__law_lays.nd rfl (Or.inl rfl) (pv 6))))))
    (pss_cons (ps_for PassesOwn.never rfl (pi_range1 (by rfl) T.range_ (pa_cons (pe_op op_add (pe_op op_mul pe_int (pv 0)) pe_int) pa_nil)) (pg_name (i := 3) sc__law_lays.nd rfl (Or.inr rfl))
    (pss_one (ps_for PassesOwn.never rfl (pi_list (pe_lc (own := [("_law_one", 7)]) (g := (gName 7)) rfl sc__law_lays.nd (pi_list (pv 5)) (blkOk_by (own := [("_law_one", 7)]) (N := N__law_lays) (sc := defScope s__law_lays) (by decide +kernel)) (fun _ _ _ _ _ => (pg_name (i := 7) sc__law_lays.nd rfl (Or.inl rfl))) (fun _ _ _ _ _ => (pts_one (pt_cmpR op_eq (pe_callB (call_len_seqK (K := K) rfl) (by rfl) T.len_ PySem.boot_len (pa_cons (pv 7) pa_nil)) (pv 0) (nomark _)))) (fun _ _ _ _ _ => (pv 7)))) (pg_name (i := 8) sc__law_lays.nd rfl (Or.inr rfl))
    (pss_one (ps_set (i := 4) sc__law_lays.nd rfl (Or.inl rfl) (pe_op op_cat (pv 4) (pe_lc (own := [("_law_some", 10)]) (g := (gName 10)) rfl sc__law_lays.nd (pi_list (pv 1)) (blkOk_by (own := [("_law_some", 10)]) (N := N__law_lays) (sc := defScope s__law_lays) (by decide +kernel)) (fun _ _ _ _ _ => (pg_name (i := 10) sc__law_lays.nd rfl (Or.inl rfl))) (fun _ _ _ _ _ => (pts_one (pt_cmpR op_eq (pe_callB (cr_sumK (K := K) rfl rfl) (by rfl) T.sum_ (by decide +kernel) (pa_cons (pv 10) pa_nil)) (pv 3) (nomark _)))) (fun _ _ _ _ _ => (pe_tup (pa_cons (pv 8) (pa_cons (pv 10) pa_nil)))))))))))
    (pss_one (ps_ret (pv 4))))))), ?_⟩)
  · obtain ⟨n, rfl, _⟩ := h
    rfl
  · obtain ⟨n, rfl, hn, q⟩ := h
    walk_at "go"
    rename_i pF nF p0 n0 p1 n1 p2 n2 p3 n3 pO nO pe ne pG nG
    have sA : Same H (upd (upd (upd (upd (upd (upd (upd (upd H pF (.lst [])) p0 (.lst [])) p1 (.lst [.int 0])) p2 (.lst [.int 0, .int 1])) p3 (.lst [.int 1, .int 0])) pO (.lst [.ref p0, .ref p1, .ref p2, .ref p3])) pe (.lst [])) pG (.lst [.ref pe])) := by walk_at "sm"
    have hF := upd_get (o := .lst [.ref pe]) nG (upd_get (o := .lst []) ne (upd_get (o := .lst [.ref p0, .ref p1, .ref p2, .ref p3]) nO (upd_get (o := .lst [.int 1, .int 0]) n3 (upd_get (o := .lst [.int 0, .int 1]) n2 (upd_get (o := .lst [.int 0]) n1 (upd_get (o := .lst []) n0 (upd_same (H := H) (a := pF) (o := .lst []))))))))
    have h0 := upd_get (o := .lst [.ref pe]) nG (upd_get (o := .lst []) ne (upd_get (o := .lst [.ref p0, .ref p1, .ref p2, .ref p3]) nO (upd_get (o := .lst [.int 1, .int 0]) n3 (upd_get (o := .lst [.int 0, .int 1]) n2 (upd_get (o := .lst [.int 0]) n1 (upd_same (H := upd H pF (.lst [])) (a := p0) (o := .lst [])))))))
    have h1 := upd_get (o := .lst [.ref pe]) nG (upd_get (o := .lst []) ne (upd_get (o := .lst [.ref p0, .ref p1, .ref p2, .ref p3]) nO (upd_get (o := .lst [.int 1, .int 0]) n3 (upd_get (o := .lst [.int 0, .int 1]) n2 (upd_same (H := upd (upd H pF (.lst [])) p0 (.lst [])) (a := p1) (o := .lst [.int 0]))))))
    have h2 := upd_get (o := .lst [.ref pe]) nG (upd_get (o := .lst []) ne (upd_get (o := .lst [.ref p0, .ref p1, .ref p2, .ref p3]) nO (upd_get (o := .lst [.int 1, .int 0]) n3 (upd_same (H := upd (upd (upd H pF (.lst [])) p0 (.lst [])) p1 (.lst [.int 0])) (a := p2) (o := .lst [.int 0, .int 1])))))
    have h3 := upd_get (o := .lst [.ref pe]) nG (upd_get (o := .lst []) ne (upd_get (o := .lst [.ref p0, .ref p1, .ref p2, .ref p3]) nO (upd_same (H := upd (upd (upd (upd H pF (.lst [])) p0 (.lst [])) p1 (.lst [.int 0])) p2 (.lst [.int 0, .int 1])) (a := p3) (o := .lst [.int 1, .int 0]))))
    have hO := upd_get (o := .lst [.ref pe]) nG (upd_get (o := .lst []) ne (upd_same (H := upd (upd (upd (upd (upd H pF (.lst [])) p0 (.lst [])) p1 (.lst [.int 0])) p2 (.lst [.int 0, .int 1])) p3 (.lst [.int 1, .int 0])) (a := pO) (o := .lst [.ref p0, .ref p1, .ref p2, .ref p3])))
    have he := upd_get (o := .lst [.ref pe]) nG (upd_same (H := upd (upd (upd (upd (upd (upd H pF (.lst [])) p0 (.lst [])) p1 (.lst [.int 0])) p2 (.lst [.int 0, .int 1])) p3 (.lst [.int 1, .int 0])) pO (.lst [.ref p0, .ref p1, .ref p2, .ref p3])) (a := pe) (o := .lst []))
    have hG := upd_same (H := upd (upd (upd (upd (upd (upd (upd H pF (.lst [])) p0 (.lst [])) p1 (.lst [.int 0])) p2 (.lst [.int 0, .int 1])) p3 (.lst [.int 1, .int 0])) pO (.lst [.ref p0, .ref p1, .ref p2, .ref p3])) pe (.lst [])) (a := pG) (o := .lst [.ref pe])
    generalize upd (upd (upd (upd (upd (upd (upd (upd H pF (.lst [])) p0 (.lst [])) p1 (.lst [.int 0])) p2 (.lst [.int 0, .int 1])) p3 (.lst [.int 1, .int 0])) pO (.lst [.ref p0, .ref p1, .ref p2, .ref p3])) pe (.lst [])) pG (.lst [.ref pe]) = HA at sA hF h0 h1 h2 h3 hO he hG ⊢
    clear nF n0 n1 n2 n3 nO ne nG
    have iO : IntsL HA ORD [.ref p0, .ref p1, .ref p2, .ref p3] := .cons ⟨p0, rfl, h0⟩ (.cons ⟨p1, rfl, h1⟩ (.cons ⟨p2, rfl, h2⟩ (.cons ⟨p3, rfl, h3⟩ .nil)))
    generalize ([.ref p0, .ref p1, .ref p2, .ref p3] : List V) = os at iO hO
    clear h0 h1 h2 h3
    refine for_it walk_range (fun i σ H' => Same HA H' ∧ ∃ G gs o2 o6 o7 o8 o9 o10, H' G = some (.lst gs) ∧ IntsL H' (gapsA i) gs ∧ σ = [some (.int n), some (.ref G), o2, none, some (.ref pF), some (.ref pO), o6, o7, o8, o9, o10]) ?_ (fun _ _ _ _ _ => True.intro) ?_ ?_
    · exact ⟨Same.refl _, pG, _, _, _, _, _, _, _, hG, .cons ⟨pe, rfl, he⟩ .nil, rfl⟩
    · rintro i x σ H2 H3 hi ⟨s2, G, gs, o2, o6, o7, o8, o9, o10, hG, ig, rfl⟩ ⟨rfl, rfl⟩
      have lg : (gapsA i).length = gs.length := Paired.length ig
      have i2 : i < n := hi
      have lg16 := gapsA_len (n := i) (by omega)
      walk_at "go"
      rename_i L0 nL0
      refine ⟨⟨_, SqL.of (upd_get nL0 hG)⟩, ?_⟩
      refine for_it (walk_list (a := G) (xs := gs)) (fun j σ H' => Same H3 H' ∧ ∃ L acc o7 o9, H' L = some (.lst acc) ∧ IntsL H' (longer ((gapsA i).take j) (rng 4)) acc ∧ σ = [some (.int n), some (.ref G), some (.int (0 + i)), none, some (.ref pF), some (.ref pO), some (.ref L), o7, o8, o9, o10]) ?_ (fun j σ H' _ z => SqL.of (z.1 _ _ hG)) ?_ ?_
      · exact ⟨same_nw (Same.refl _) nL0, L0, [], _, _, upd_same, .nil, rfl⟩
      · rintro j x σ H4 H5 hj ⟨s4, L, acc, o7', o9', hL, ia, rfl⟩ ⟨rfl, e'⟩
        obtain ⟨xs, ex, px, rfl, hxs⟩ := Paired.at ig e'
        have hx5 := s4 _ _ hxs
        have lxs : xs.length ≤ 2 := by
          rw [prodL_mem_len (List.mem_of_getElem? ex), List.length_replicate]
          omega
        have la : acc.length ≤ 16 * 4 := by
          rw [← Paired.length ia, longer_len, List.length_take]
          exact Nat.mul_le_mul (by omega) (Nat.le_refl _)
        walk_at "go"
        rename_i D nD
        refine lc_relD (xs := rng 4) (walk_range (n := 4)) (fun H a v => ∃ q, v = .ref q ∧ H q = some (.lst ((xs ++ [a]).map .int)) ∧ q ≠ D) (fun _ _ _ _ _ kd ⟨q, e, z, nq⟩ => ⟨q, e, kd _ _ nq z, nq⟩) nD (by decide) (fun _ _ => True.intro) (fun k x H6 H7 z Kf kf ez s6 hD6 y6 => ?_) (fun H6 acc2 s6 hD6 pr => ?_)
        · obtain ⟨rfl, rfl⟩ := y6
          have zk := rng_at ez
          subst zk
          have zk : ((0 : Int) + (k : Int)) = (k : Int) := by omega
          have hx7 := s6 _ _ hx5
          obtain ⟨u, hD6⟩ := hD6
          walk_at "go"
          rename_i p8 n8
          refine ⟨px, p8, _, _, rfl, rfl, upd_get n8 hx7, upd_same, sm_sz (by rw [List.length_map]; show xs.length + 1 ≤ 100000; omega), fun p9 n9 => ?_⟩
          refine kf _ _ (same_nw (same_nw (Same.refl _) n8) n9) ⟨p9, rfl, ?_, Ne.symm (ne_of_none (upd_get n8 hD6) n9)⟩
          show _ = some (HO.lst ((xs ++ [(k : Int)]).map V.int))
          rw [upd_same, List.map_append]
          show some (HO.lst (xs.map V.int ++ [V.int (0 + (k : Int))])) = _
          rw [zk]
          rfl
        · have hL6 := s6 _ _ hL
          have la2 : acc2.length = 4 := (Paired.length pr).symm
          refine ⟨L, D, acc, acc2, rfl, rfl, hL6, hD6, sm_sz (by omega), fun pn npn => ?_⟩
          have s7 : Same H5 (upd H6 pn (.lst (acc ++ acc2))) := same_nw s6 npn
          refine ⟨s4.trans s7, pn, acc ++ acc2, _, _, upd_same, ?_, rfl⟩
          rw [longer_snoc ex]
          refine paired_app (IntsL.same s7 ia) (pair_mapL (Paired.mapP pr fun a v h => ?_))
          obtain ⟨q, e, z, _⟩ := h
          exact ⟨q, e, upd_get npn z⟩
      · rintro σ H4 ⟨s4, L, acc, o7', o9', hL, ia, rfl⟩
        rw [← lg, List.take_length] at ia
        exact ⟨_, rfl, s2.trans s4, L, acc, _, _, _, _, _, _, hL, (by unfold gapsA; rw [tups_succ]; exact ia), rfl⟩
    · rintro σ H2 ⟨s2, G, gs, o2, o6, o7, o8, o9, o10, hG, ig, rfl⟩
      have ig : IntsL H2 (gapsA n) gs := ig
      have lg : (gapsA n).length = gs.length := Paired.length ig
      have lg16 := gapsA_len hn
      have t3 : 3 * (n : Int) + 1 = ((3 * n + 1 : Nat) : Int) := by omega
      walk_at "go"
      refine for_it walk_range (fun i σ H' => Same H2 H' ∧ ∃ F acc o3 o7 o8 o9 o10, H' F = some (.lst acc) ∧ acc.length ≤ 32 * i ∧ Paired (LayAt H') ((List.range i).flatMap fun wh => (permsM n n).flatMap fun o => selG n wh o (gapsA n).length) acc ∧ σ = [some (.int n), some (.ref G), o2, o3, some (.ref F), some (.ref pO), o6, o7, o8, o9, o10]) ?_ (fun _ _ _ _ _ => True.intro) ?_ ?_
      · exact ⟨Same.refl _, pF, [], _, _, _, _, _, s2 _ _ hF, Nat.le_refl _, .nil, rfl⟩
      · rintro i x σ H3 H4 hi ⟨s3, F, acc, o3, o7, o8, o9, o10, hF4, la, pl, rfl⟩ ⟨rfl, rfl⟩
        have i7 : i < 7 := by
          have : i < (3 * (n : Int) + 1).toNat := hi
          omega
        have s24 := s2.trans s3
        have iO4 := iO.same s24
        have lO : ORD.length = os.length := Paired.length iO
        have lO4 : os.length = 4 := lO.symm
        walk_at "go"
        refine ⟨⟨_, SqL.of (s24 _ _ hO)⟩, fun D nD => ?_⟩
        refine lc_invD (walk_list (a := pO) (xs := os)) nD (by omega) (fun j acc H => IntsD D H ((ORD.take j).filter fun xs => decide (xs.length = n)) acc) (fun _ _ _ _ _ kd h => Paired.mapP h fun _ _ ⟨q, e, z, nq⟩ => ⟨q, e, kd _ _ nq z, nq⟩) .nil (fun H s => SqL.of (s _ _ (s24 _ _ hO))) ?_ ?_
        · rintro j x H5 H6 acc2 Kf Kn kf kn hj s5 r hD5 ⟨rfl, e'⟩
          obtain ⟨xs, ex, px, rfl, hxs⟩ := Paired.at iO4 e'
          have hx := s5 _ _ hxs
          have npx : px ≠ D := ne_of_none hxs nD
          walk_at "go"
          refine ite_b (fun b => ?_) (fun b => ?_)
          · have e : xs.length = n := by
              have := V.int.inj (of_decide_eq_true b)
              rw [List.length_map] at this
              omega
            walk_at "go"
            refine kf _ _ (Same.refl _) ?_
            rw [take_snoc ex, List.filter_append, show [xs].filter (fun xs => decide (xs.length = n)) = [xs] by simp [e]]
            exact paired_app r (.cons ⟨px, rfl, hx, npx⟩ .nil)
          · have e : ¬ xs.length = n := fun z => of_decide_eq_false b (by rw [List.length_map, z])
            refine kn _ (Same.refl _) ?_
            rw [take_snoc ex, List.filter_append, show [xs].filter (fun xs => decide (xs.length = n)) = [] by simp [e], List.append_nil]
            exact r
        rintro H5 oacc s5 hD5 lo r
        rw [← lO, List.take_length, ord_perms hn] at r
        have lp : (permsM n n).length = oacc.length := Paired.length r
        have lp2 := (perms_all hn hn).1
        refine ⟨D, rfl, ⟨_, SqL.of hD5⟩, ?_⟩
        refine for_it (walk_list (a := D) (xs := oacc)) (fun j σ H' => Same H5 H' ∧ ∃ F acc o7 o8 o9 o10, H' F = some (.lst acc) ∧ acc.length ≤ 32 * i + 16 * j ∧ Paired (LayAt H') (((List.range i).flatMap fun wh => (permsM n n).flatMap fun o => selG n wh o (gapsA n).length) ++ ((permsM n n).take j).flatMap fun o => selG n i o (gapsA n).length) acc ∧ σ = [some (.int n), some (.ref G), o2, some (.int (0 + i)), some (.ref F), some (.ref pO), o6, o7, o8, o9, o10]) ?_ (fun j σ H' _ z => SqL.of (z.1 _ _ hD5)) ?_ ?_
        · refine ⟨Same.refl _, F, acc, _, _, _, _, s5 _ _ hF4, by omega, ?_, rfl⟩
          rw [List.take_zero, List.flatMap_nil, List.append_nil]
          exact Paired.mapP pl fun _ _ z => z.same s5
        · rintro j x σ H6 H7 hj ⟨s6, F, acc, o7, o8, o9, o10, hF7, la, pl, rfl⟩ ⟨rfl, e'⟩
          obtain ⟨xs, ex, px, rfl, hxs, _⟩ := Paired.at r e'
          have hx := s6 _ _ hxs
          have s37 := (s3.trans s5).trans s6
          have ig7 := ig.same s37
          have hG7 := s37 _ _ hG
          walk_at "go"
          refine ⟨⟨_, SqL.of hG7⟩, fun D2 nD2 => ?_⟩
          refine lc_invD (walk_list (a := G) (xs := gs)) nD2 (by omega) (fun k acc H => Paired (LayD D2 H) (selG n i xs k) acc) (fun _ _ _ _ t kd h => Paired.mapP h fun _ _ ⟨q, po, pg, e, z, z1, z2, n1, n2⟩ => ⟨q, po, pg, e, t _ _ z, kd _ _ n1 z1, kd _ _ n2 z2, n1, n2⟩) .nil (fun H s => SqL.of (s _ _ hG7)) ?_ ?_
          · rintro k x H8 H9 acc2 Kf Kn kf kn hk s8 r8 hD8 ⟨rfl, e8⟩
            obtain ⟨ys, ey, py, rfl, hys⟩ := Paired.at ig7 e8
            have hy9 := s8 _ _ hys
            have hx9 := s8 _ _ hx
            have npy : py ≠ D2 := ne_of_none hys nD2
            have npx : px ≠ D2 := ne_of_none hx nD2
            have sl : selG n i xs (k + 1) = selG n i xs k ++ if ys.sum = (i : Int) then [(xs, ys)] else [] := by
              unfold selG
              rw [take_snoc ey, List.filter_append, List.map_append]
              congr 1
              split
              · rename_i c
                rw [show [ys].filter (fun xs => decide (xs.sum = ((i : Nat) : Int))) = [ys] by simp [c]]
                rfl
              · rename_i c
                rw [show [ys].filter (fun xs => decide (xs.sum = ((i : Nat) : Int))) = [] by simp [c]]
                rfl
            walk_at "go"
            refine ⟨py, ys, rfl, SqL.of hy9, ?_⟩
            walk_at "go"
            refine ite_b (fun b => ?_) (fun b => ?_)
            · have c : ys.sum = (i : Int) := by
                have b : V.int ys.sum = V.int (0 + (i : Int)) := of_decide_eq_true b
                have := V.int.inj b
                omega
              walk_at "go"
              rename_i p9 n9
              refine kf _ _ (same_nw (Same.refl _) n9) ?_
              rw [sl, if_pos c]
              exact paired_app (Paired.mapP r8 fun _ _ ⟨q, po, pg, e, z, z1, z2, n1, n2⟩ => ⟨q, po, pg, e, upd_get n9 z, upd_get n9 z1, upd_get n9 z2, n1, n2⟩) (.cons ⟨p9, px, py, rfl, upd_same, upd_get n9 hx9, upd_get n9 hy9, npx, npy⟩ .nil)
            · have c : ¬ ys.sum = (i : Int) := fun z => of_decide_eq_false b (by
                show V.int ys.sum = V.int (0 + (i : Int))
                rw [z, Int.zero_add])
              refine kn _ (Same.refl _) ?_
              rw [sl, if_neg c, List.append_nil]
              exact r8
          · rintro H8 acc2 s8 hD8 l8 r8
            have hF8 := s8 _ _ hF7
            rw [← lg] at r8 l8
            refine ⟨F, D2, acc, acc2, rfl, rfl, hF8, hD8, sm_sz (by omega), fun pn npn => ?_⟩
            have s9 : Same H7 (upd H8 pn (.lst (acc ++ acc2))) := same_nw s8 npn
            refine ⟨s6.trans s9, pn, acc ++ acc2, _, _, _, _, upd_same, by rw [List.length_append]; omega, ?_, rfl⟩
            rw [take_flat _ ex, ← List.append_assoc]
            exact paired_app (Paired.mapP pl fun _ _ z => z.same s9) (Paired.mapP r8 fun _ _ ⟨q, po, pg, e, z, z1, z2, _, _⟩ => ⟨q, po, pg, e, upd_get npn z, upd_get npn z1, upd_get npn z2⟩)
        · rintro σ H6 ⟨s6, F, acc, o7, o8, o9, o10, hF7, la, pl, rfl⟩
          rw [← lp, List.take_length] at pl
          rw [← lp] at la
          refine ⟨(s3.trans s5).trans s6, F, acc, _, _, _, _, _, hF7, by omega, ?_, rfl⟩
          rw [List.range_succ, List.flatMap_append, List.flatMap_cons, List.flatMap_nil, List.append_nil]
          exact pl
      · rintro σ H3 ⟨s3, F, acc, o3, o7, o8, o9, o10, hF4, la, pl, rfl⟩
        refine ⟨_, rfl, q _ F acc ((sA.trans s2).trans s3) hF4 ?_⟩
        have e : (3 * (n : Int) + 1).toNat = 3 * n + 1 := by omega
        have pl : Paired (LayAt H3) ((List.range ((3 * (n : Int) + 1).toNat)).flatMap fun wh => (permsM n n).flatMap fun o => selG n wh o (gapsA n).length) acc := pl
        rw [e] at pl
        unfold selG at pl
        rw [List.take_length] at pl
        exact pl
end
end NW
/-! ## Walks: the law -/
namespace NW
open PySem PySem.Spec PyProof.Rows L2
set_option pp.maxSteps 150
-- an object's place in a heap
local macro_rules | `(tactic| walk_at "hp") => `(tactic| (show _ = some _; first
  | assumption
  | exact upd_same
  | (refine' upd_get ?n ?h; (case n => assumption); (case h => walk_at "hp"))
  | (refine' same_get ?n ?h; (case n => assumption); (case h => walk_at "hp"))))
-- a heap that has grown
local macro_rules | `(tactic| walk_at "sm") => `(tactic| first
  | assumption
  | exact Same.refl _
  | (refine' same_nw ?n ?h; (case h => assumption); (case n => walk_at "sm"))
  | (refine' Same.trans ?n ?h; (case h => assumption); (case n => walk_at "sm")))
local macro_rules | `(tactic| walk_at "ty") => `(tactic| first
  | exact TyN.int _
  | exact TyN.str _
  | exact TyN.non
  | (refine' TyN.tup ?h; (case h => walk_at "hp"))
  | (refine' TyN.lst ?h; (case h => walk_at "hp")))
-- a test whose answer is known
local macro_rules | `(tactic| walk_at "if") => `(tactic| first
  | (refine iteB (by decide +kernel) ?_)
  | (refine iteN (by decide +kernel) ?_)
  | (refine iteB (by rfl) ?_)
  | (refine iteN (by rfl) ?_)
  | (refine iteB (decide_eq_true (by first | omega | assumption)) ?_)
  | (refine iteN (decide_eq_false (by first | omega | assumption)) ?_)
  | (refine iteB (by simp only [Bool.not_eq_true', Bool.not_eq_false', Bool.and_eq_true, Bool.and_eq_false_iff, Bool.or_eq_true, Bool.or_eq_false_iff, decide_eq_true_eq, decide_eq_false_iff_not]; omega) ?_)
  | (refine iteN (by simp only [Bool.not_eq_true', Bool.not_eq_false', Bool.and_eq_true, Bool.and_eq_false_iff, Bool.or_eq_true, Bool.or_eq_false_iff, decide_eq_true_eq, decide_eq_false_iff_not]; omega) ?_))
-- one step of a reading
local macro_rules | `(tactic| walk_at "s") => `(tactic| first
  | refine ⟨_, rfl, ?_⟩
  | refine ⟨_, _, rfl, rfl, ?_⟩
  | refine And.intro (show wipe _ _ = wipe _ _ by kernel_rfl) ?_
  | refine And.intro rfl ?_
  | (refine' ⟨_, _, _, _, rfl, rfl, SqT.of ?h, ?e, ?_⟩; (case h => walk_at "hp"); (case e => exact rfl))
  | (refine' ⟨_, _, rfl, ?t, ?_⟩; (case t => walk_at "ty"))
  | (refine' ⟨_, _, rfl, SqT.of ?h, ?e, ?_⟩; (case h => walk_at "hp"); (case e => exact rfl))
  | refine ⟨_, _, rfl, ?_⟩
  | (refine' ⟨_, _, _, rfl, rfl, ?h1, ?h2, ?_⟩; (case h1 => walk_at "hp"); (case h2 => walk_at "hp"))
  | (refine' ⟨_, _, _, _, rfl, rfl, SqL.of ?h, ?e, ?_⟩; (case h => walk_at "hp"); (case e => exact rfl))
  | (refine' ⟨_, _, rfl, Or.inr (SqT.of ?h), ?_⟩; (case h => walk_at "hp"))
  | (refine' ⟨_, _, rfl, Or.inr (SqT.of ?h), rfl, rfl, ?_⟩; (case h => walk_at "hp"))
  | (refine' ⟨_, _, rfl, Or.inl (SqL.of ?h), ?_⟩; (case h => walk_at "hp"))
  | refine And.intro (flat_strs _) ?_
  | (refine And.intro (sm_sz (Nat.le_of_ble_eq_true rfl)) ?_; intro p np)
  | walk_at "if"
  | (refine' And.intro ?a ?_; (case a => first | assumption | exact sm_sz (by omega) | omega | exact Or.inr ⟨by omega, by omega⟩ | exact Or.inl ⟨by omega, by omega⟩ | exact ⟨by omega, by omega⟩))
  | refine Or.inl ⟨_, _, _, rfl, ?_⟩
  | refine Or.inr ⟨_, _, _, rfl, ?_⟩
  | (intro Hn sn))
local macro_rules | `(tactic| walk_at "go") => `(tactic| repeat (walk_at "s"))

abbrev s_law : Stmt := topS 106
abbrev N_law : List Str := ["_law_script", "_law_by", "_law_state", "_law_part_here", "_law_count", "_law_order", "_law_gaps", "_law_due_here", "_law_found", "_law_program_here", "_law_lines", "_law_one", "_law_some", "_law_at"]
abbrev P_law : List Str := ["_law_script"]
theorem sc_law : FnScope N_law P_law (defScope s_law) := ⟨rfl, rfl, rfl, by decide +kernel, rfl, by decide +kernel, by decide +kernel⟩

def sp_law (K : PySem.W.Frag) : Sp := fun vs H Q _ => ∃ (sc : Addr) (xs : List Int), vs = [.ref sc] ∧ SqL K H sc (xs.map .int) ∧ ∀ H', Q (.bl true) H'
theorem sqL_nw {K : PySem.W.Frag} {H : Hp} {p sc : Addr} {o : HO} {zs : List V} (n : H p = none) (q : SqL K H sc zs) : SqL K (upd H p o) sc zs := by
  rcases q with (q | ⟨ob, q⟩) | q
  · exact Or.inl (Or.inl (upd_get n q))
  · exact Or.inl (Or.inr ⟨ob, upd_get n q⟩)
  · exact Or.inr q
theorem rg12 {t : Int} (h1 : 1 ≤ t) (h2 : t ≤ 48) : RgC 0 t 12 (Builtin.Range.rangeSize 0 t 12).toNat := by
  have sm : ∀ k : Fin 49, Builtin.Range.small 0 ((k : Nat) : Int) 12 = true ∧ Builtin.Range.rangeSize 0 ((k : Nat) : Int) 12 = ((Builtin.Range.rangeSize 0 ((k : Nat) : Int) 12).toNat : Int) := by decide +kernel
  have e : t = ((⟨t.toNat, by omega⟩ : Fin 49) : Nat) := by
    show t = (t.toNat : Int)
    omega
  rw [e]
  exact ⟨by decide, by decide, (sm _).1, (sm _).2⟩
theorem perms_rng {n : Nat} (h : n ≤ 2) : rng (n : Int) ∈ permsM n n ∧ (rng (n : Int)).reverse ∈ permsM n n := by
  have : n = 0 ∨ n = 1 ∨ n = 2 := by omega
  rcases this with rfl | rfl | rfl <;> decide
theorem perms_cases {n : Nat} {o : List Int} (h : n ≤ 2) (m : o ∈ permsM n n) : (o = [] ∨ o = [0] ∨ o = [0, 1] ∨ o = [1, 0]) ∧ o.length = n ∧ ∀ i ∈ o, 0 ≤ i ∧ i < (n : Int) := by
  refine ⟨?_, perms_good h o m⟩
  have : n = 0 ∨ n = 1 ∨ n = 2 := by omega
  rcases this with rfl | rfl | rfl
  · have m : o ∈ ([[]] : List (List Int)) := m
    exact Or.inl (List.mem_singleton.mp m)
  · have m : o ∈ ([[0]] : List (List Int)) := m
    exact Or.inr (Or.inl (List.mem_singleton.mp m))
  · have m : o ∈ ([[0, 1], [1, 0]] : List (List Int)) := m
    rcases List.mem_cons.mp m with m | m
    · exact Or.inr (Or.inr (Or.inl m))
    · exact Or.inr (Or.inr (Or.inr (List.mem_singleton.mp m)))
open Classical in
theorem laid_none {p : Prog} {m : Nat} (h : ∀ x ∈ laysM p.lists.length, ¬ stillP (layP p x.1 x.2) m) : laidM p m = none := by
  unfold laidM
  rw [List.find?_eq_none]
  intro x mx
  rw [decide_eq_true_eq]
  exact h x mx
open Classical in
theorem laid_some {p : Prog} {m k : Nat} {x : List Int × List Int} (e : (laysM p.lists.length)[k]? = some x) (h : ∀ y ∈ (laysM p.lists.length).take k, ¬ stillP (layP p y.1 y.2) m) (hx : stillP (layP p x.1 x.2) m) : laidM p m = some x :=
  find_at e (fun y my => decide_eq_false (h y my)) (decide_eq_true hx)
section
variable {P : Program} {w : World} {K : PySem.W.Frag} {mg : Str → Option Value} {base : Heap} {cL : Addr}
theorem ok_law (T : Tx mg) {f0 : Addr} {fd0 : FuncData} (F0 : FunD K "law" "law" (defArgs s_law) (defBody s_law) (defScope s_law) [] [] f0 fd0) (nf_LL : PySem.W.notFirst K cL (.ref cL) = true) (c__law_next : C8.Cal P w K mg base 3 "_law_next" (sp_law_next K) []) (c__law_program : C8.Cal P w K mg base 13 "_law_program" (sp_law_program K) []) (c__law_is_short : C8.Cal P w K mg base 10 "_law_is_short" sp_law_is_short []) (c_moved : C8.Cal P w K mg base 16 "moved" sp_moved []) (c__law_moved : C8.Cal P w K mg base 1 "_law_moved" sp_law_moved [])
    (c__law_lays : C8.Cal P w K mg base 1 "_law_lays" sp_law_lays []) (c__law_is_still : GCal P w K mg base 10 "_law_is_still" sp_law_is_still) (c_Laid : C8.Mak P w K mg base 1 "Laid" cL (sp_laidI cL) []) (c_laid : C8.Cal P w K mg base 16 "laid" (sp_laid cL) []) (c_Laid_eq : C8.Met P w K mg base 1 cL "__eq__" (sp_leq cL) []) : GFn P w K mg base 19 f0 fd0 P_law (sp_law K) := by
  refine gfn_of (k := 18) F0 sc_law (fun vs H Q E h => ?_) (fun cdv A outer s H vs Q E hg hr h => ⟨_, (pss_cons (ps_for PassesOwn.never rfl (pi_range3 (by rfl) T.range_ (pa_cons pe_int (pa_cons (pe_callB (call_max2 rfl) (by rfl) T.max_ (by decide +kernel) (pa_cons pe_int (pa_cons (pe_callB (call_min2 rfl) (by rfl) T.min_ (by decide +kernel) (pa_cons pe_int (pa_cons (pe_callB call_len_seq (by rfl) T.len_ PySem.boot_len (pa_cons (pv 0) pa_nil)) pa_nil))) pa_nil))) (pa_cons pe_int pa_nil)))) (pg_name (i := 1) sc_law.nd rfl (Or.inl rfl))
    (pss_cons (ps_set (i := 2) sc_law.nd rfl (Or.inr rfl) (pe_lst (pa_cons (pv 0) (pa_cons (pv 1) (pa_cons pe_int pa_nil)))))
    (pss_one (ps_for PassesOwn.never rfl (pi_range1 (by rfl) T.range_ (pa_cons pe_int pa_nil)) (pg_name (i := 3) sc_law.nd rfl (Or.inl rfl))
    (pss_cons (ps_par (i := 9) (j := 10) rfl sc_law.nd rfl rfl (by decide) rfl rfl (pa_cons (C8.pe_c c__law_program hr (by omega) (by rfl) (pa_cons (pv 2) (pa_cons (pe_op op_add pe_int (C8.pe_c c__law_next hr (by omega) (by rfl) (pa_cons (pv 2) (pa_cons pe_int pa_nil)))) pa_nil))) (pa_cons (pe_op op_add pe_int (C8.pe_c c__law_next hr (by omega) (by rfl) (pa_cons (pv 2) (pa_cons pe_int pa_nil)))) pa_nil)) (by rfl))
    (pss_cons (ps_set (i := 4) sc_law.nd rfl (Or.inl rfl) (pe_callB call_len_seq (by rfl) T.len_ PySem.boot_len (pa_cons (pe_ix ix_tup (pv 9) pe_int (fun _ _ => rfl)) pa_nil)))
    (C8.pss_cut (ps_set (i := 5) sc_law.nd rfl (Or.inl rfl) (pe_ifExp (pt_cmpR op_eq (C8.pe_c c__law_next hr (by omega) (by rfl) (pa_cons (pv 2) (pa_cons pe_int pa_nil))) pe_int (nomark _)) (pe_listRg rfl (by rfl) T.list_ (prg_1 (by rfl) T.range_ (pv 4))) (pe_revL (pe_listRg rfl (by rfl) T.list_ (prg_1 (by rfl) T.range_ (pv 4))))))
    (pss_cons (ps_setLc (own := [("_law_at", 13)]) (g := (gName 13)) (tt := tYes) (i := 6) rfl sc_law.nd rfl rfl (sw_true rfl rfl rfl (by decide +kernel)) (pi_range1 (by rfl) T.range_ (pa_cons (pv 4) pa_nil)) (blkOk_by (own := [("_law_at", 13)]) (N := N_law) (sc := defScope s_law) (by decide +kernel)) (fun _ _ _ _ _ => (pg_name (i := 13) sc_law.nd rfl (Or.inl rfl))) (fun _ _ _ _ _ => pts_nil) (fun _ _ _ _ _ => (C8.pe_c c__law_next hr (by omega) (by rfl) (pa_cons (pv 2) (pa_cons pe_int pa_nil)))))
    (pss_cons (ps_if (pt_not (pt_val (C8.pe_c c__law_is_short hr (by omega) (by rfl) (pa_cons (pv 9) pa_nil)))) (pss_one ps_continue)
    pss_nil)
    (pss_cons (ps_if (pt_cmpR (op_neD hr.units) (C8.pe_c c_moved hr (by omega) (by rfl) (pa_cons (pv 9) (pa_cons (pv 5) (pa_cons (pe_callTy call_tuple_of (by rfl) T.tuple_ (by decide +kernel) (pa_cons (pv 6) pa_nil)) pa_nil)))) (C8.pe_c c__law_moved hr (by omega) (by rfl) (pa_cons (pv 9) (pa_cons (pv 5) (pa_cons (pv 6) pa_nil)))) (nomark _)) (pss_one (ps_ret pe_bl))
    pss_nil)
    (pss_cons (ps_set (i := 7) sc_law.nd rfl (Or.inl rfl) pe_non)
    (C8.pss_cut (ps_for PassesOwn.never rfl (pi_list (C8.pe_c c__law_lays hr (by omega) (by rfl) (pa_cons (pv 4) pa_nil))) (pg_tup rfl (pgs_cons (pg_name (i := 11) sc_law.nd rfl (Or.inl rfl)) (pgs_cons (pg_name (i := 12) sc_law.nd rfl (Or.inl rfl)) pgs_nil)))
    (pss_one (ps_if (pt_val (pe_g c__law_is_still hg hr (by omega) (by rfl) (pa_cons (C8.pe_c c__law_moved hr (by omega) (by rfl) (pa_cons (pv 9) (pa_cons (pv 11) (pa_cons (pv 12) pa_nil)))) (pa_cons (pv 10) pa_nil)))) (pss_cons (ps_set (i := 7) sc_law.nd rfl (Or.inl rfl) (C8.pe_mk c_Laid hr (by omega) (by rfl) (pa_cons (pv 11) (pa_cons (pv 12) pa_nil))))
    (pss_one ps_break))
    pss_nil)))
    (pss_cons (ps_set (i := 8) sc_law.nd rfl (Or.inl rfl) (C8.pe_c c_laid hr (by omega) (by rfl) (pa_cons (pv 9) (pa_cons (pv 10) pa_nil))))
    (pss_one (ps_if (PW.pt (pw_or (pt_cmpR op_ne (pe_cmpR op_isN (pv 8) pe_non (nomark _)) (pe_cmpR op_isN (pv 7) pe_non (nomark _)) (nomark _)) (pw_or1 (PW.pt (pw_and (pt_cmpR op_notN (pv 8) pe_non (nomark _)) (pw_and1 (pt_not (pt_cmpR (op_eqI c_Laid_eq nf_LL hr (by omega)) (pv 8) (pv 7) (nomark _))))))))) (pss_one (ps_ret pe_bl))
    pss_nil)))))))))))))))
    (pss_one (ps_ret pe_bl))), ?_⟩)
  · obtain ⟨sc, xs, rfl, _⟩ := h
    rfl
  · obtain ⟨sc, xs, rfl, hsc, q⟩ := h
    walk_at "go"
    refine ⟨sc, _, rfl, Or.inl hsc, ?_⟩
    walk_at "go"
    generalize ht : (if (1 : Int) < (if (((xs.map V.int).length : Int)) < 48 then (((xs.map V.int).length : Int)) else 48) then (if (((xs.map V.int).length : Int)) < 48 then (((xs.map V.int).length : Int)) else 48) else 1) = top
    have h12 : 1 ≤ top ∧ top ≤ 48 := by
      rw [← ht]
      generalize ((xs.map V.int).length : Int) = n
      by_cases a : n < 48
      · rw [if_pos a]
        split <;> omega
      · rw [if_neg a]
        decide
    refine ⟨0, top, 12, _, rfl, rg12 h12.1 h12.2, ?_⟩
    refine for_it walk_rangeC (fun i σ H' => SqL K H' sc (xs.map .int) ∧ ∃ o1 o2 o3 o4 o5 o6 o7 o8 o9 o10 o11 o12 o13, σ = [some (.ref sc), o1, o2, o3, o4, o5, o6, o7, o8, o9, o10, o11, o12, o13]) ⟨hsc, _, _, _, _, _, _, _, _, _, _, _, _, _, rfl⟩ (fun _ _ _ _ _ => True.intro) ?_ ?_
    · rintro i y σ H1 H2 hi ⟨hs1, o1, o2, o3, o4, o5, o6, o7, o8, o9, o10, o11, o12, o13, rfl⟩ ⟨rfl, rfl⟩
      walk_at "go"
      rename_i st nst
      have d0 : DrawAt K (upd H2 st (.lst [.ref sc, .int (0 + (i : Nat) * 12), .int 0])) st sc xs (0 + (i : Nat) * 12) 0 := ⟨upd_same, sqL_nw nst hs1, by omega, Int.le_refl _, by decide⟩
      generalize upd H2 st (.lst [.ref sc, .int (0 + (i : Nat) * 12), .int 0]) = H3 at d0 ⊢
      generalize (0 + (i : Nat) * 12 : Int) = y at d0
      refine for_it walk_range (fun j σ H' => ∃ c, DrawAt K H' st sc xs y c ∧ c ≤ (j : Int) * 6000 ∧ ∃ o1 o3 o4 o5 o6 o7 o8 o9 o10 o11 o12 o13, σ = [some (.ref sc), o1, some (.ref st), o3, o4, o5, o6, o7, o8, o9, o10, o11, o12, o13]) ⟨0, d0, by omega, _, _, _, _, _, _, _, _, _, _, _, _, rfl⟩ (fun _ _ _ _ _ => True.intro) ?_ ?_
      · rintro j x σ J1 J2 hj ⟨c, dr, lc, o1, o3, o4, o5, o6, o7, o8, o9, o10, o11, o12, o13, rfl⟩ ⟨rfl, rfl⟩
        have hj : j < 2 := hj
        have c0 := dr.2.2.2.1
        walk_at "go"
        refine ⟨st, sc, xs, y, c, 4, rfl, dr, by omega, by decide, by decide, fun i1 J3 i10 i11 k3 d3 => ?_⟩
        obtain ⟨n1, rfl⟩ := Int.eq_ofNat_of_zero_le i10
        walk_at "go"
        refine ⟨st, sc, xs, y, c + 1, 2 + n1, rfl, by omega, d3, by omega, fun p v J4 c4 hDr k4 d4 l4 hp => ?_⟩
        walk_at "go"
        refine ⟨st, sc, xs, y, c4, 4, rfl, d4, by omega, by decide, by decide, fun i2 J5 i20 i21 k5 d5 => ?_⟩
        obtain ⟨m1, rfl⟩ := Int.eq_ofNat_of_zero_le i20
        have hp5 : ProgAt J5 p v := hp.ts (fun a xs e => k5 a _ (ne_of e d4.1 (fun z => nomatch z)) e)
        have hE := hDr.e
        have len2 := hE.len
        obtain ⟨a, ah, al, ar, at_, hs, ls, rs, rfl, g0, g1, g2, g3, g4, g5, g6, g7⟩ := id hp5
        have lls : ls.length = p.lists.length := (TupsL.len g4).symm
        walk_at "go"
        rw [lls]
        refine ⟨fun σ' H' => ∃ o po c' o1 o3 o6 o7 o8 o11 o12 o13, o ∈ permsM p.lists.length p.lists.length ∧ H' po = some (.lst (o.map .int)) ∧ ProgAt H' p (.ref a) ∧ DrawAt K H' st sc xs y c' ∧ c' ≤ c + 5100 ∧ σ' = [some (.ref sc), o1, some (.ref st), o3, some (.int (p.lists.length : Int)), some (.ref po), o6, o7, o8, some (.ref a), some (.int (1 + (m1 : Int))), o11, o12, o13], ?_, ?_⟩
        · walk_at "go"
          refine ⟨st, sc, xs, y, c4 + 1, 2, rfl, d5, by omega, by decide, by decide, fun i3 J6 i30 i31 k6 d6 => ?_⟩
          have hp6 : ProgAt J6 p (.ref a) := hp5.ts (fun a xs e => k6 a _ (ne_of e d5.1 (fun z => nomatch z)) e)
          walk_at "go"
          refine ite_b (fun e => ?_) (fun e => ?_)
          · walk_at "go"
            rename_i L nL
            exact ⟨rng (p.lists.length : Int), L, c4 + 1 + 1, _, _, _, _, _, _, _, _, (perms_rng len2).1, by rw [upd_same, rgV_rngI], hp6.ts (ts_nw (TS.refl _) nL), d6.nw nL, by omega, rfl⟩
          · walk_at "go"
            rename_i L nL
            refine ⟨L, _, rfl, SqL.of upd_same, fun L2 nL2 => ?_⟩
            exact ⟨(rng (p.lists.length : Int)).reverse, L2, c4 + 1 + 1, _, _, _, _, _, _, _, _, (perms_rng len2).2, by rw [upd_same, rgV_rngI, List.map_reverse], hp6.ts ((ts_nw (TS.refl _) nL).trans (ts_nw (TS.refl _) nL2)), (d6.nw nL).nw nL2, by omega, rfl⟩
        · clear hp5 g0 g1 g2 g3 g4 g5 g6 g7 lls d5 k5 d3 k3 hp
          rintro σ' J6 ⟨o, po, c6, o1, o3, o6, o7, o8, o11, o12, o13, mo, hpo, hp6, d6, l6, rfl⟩
          obtain ⟨oc1, oc2, oc3⟩ := perms_cases len2 mo
          have c60 := d6.2.2.2.1
          have dpo : po ≠ st := ne_of hpo d6.1 fun z => by
            have z := HO.lst.inj z
            cases o with
            | nil => cases z
            | cons i r => cases z
          refine ⟨_, rfl, ?_⟩
          refine ⟨_, rfl, by omega, by omega, fun D nD => ?_⟩
          have dst : st ≠ D := ne_of_none d6.1 nD
          have dpD : po ≠ D := ne_of_none hpo nD
          refine lc_it walk_range (fun k H' => ∃ (gs : List Int) (c' : Int), H' D = some (.lst (gs.map .int)) ∧ gs.length = k ∧ (∀ e ∈ gs, 0 ≤ e ∧ e ≤ 15) ∧ KpX st J6 H' ∧ DrawAt K H' st sc xs y c' ∧ c' ≤ c6 + k) ?_ (fun _ _ _ _ => True.intro) ?_ ?_
          · exact ⟨[], c6, upd_same, rfl, (fun _ m => nomatch m), fun a u n e => upd_get nD e, d6.nw nD, by omega⟩
          · rintro k x H2 H3 hi ⟨gs, c', hD, lg, okg, k2, d2, lc2⟩ ⟨rfl, rfl⟩
            have c20 := d2.2.2.2.1
            have hi2 : k < 2 := by
              have e3 : ((p.lists.length : Int).toNat : Nat) = p.lists.length := rfl
              omega
            refine ⟨rfl, ?_⟩
            walk_at "go"
            refine ⟨st, sc, xs, y, c', 16, rfl, d2, by omega, by decide, by decide, fun i4 H4 i40 i41 k4 d4 => ?_⟩
            have hD4 := k4 _ _ (Ne.symm dst) hD
            refine ⟨gs.map .int, hD4, sm_lt (by rw [List.length_map]; omega), gs ++ [i4], c' + 1, by rw [upd_same, List.map_append]; rfl, by rw [List.length_append, lg]; rfl, fun e m => ?_, fun a u n e => upd_mut (ne_of_none e nD) (k4 _ _ n (k2 _ _ n e)), ⟨upd_mut dst d4.1, sqL_updD nD d6.2.1 d4.2.1, d4.2.2⟩, by omega⟩
            rcases List.mem_append.mp m with m | m
            · exact okg e m
            · rw [List.mem_singleton.mp m]
              omega
          · rintro J7 ⟨gs, c7, hD7, lg, okg, k7, d7, lc7⟩
            have lg : gs.length = p.lists.length := lg
            have hp7 : ProgAt J7 p (.ref a) := hp6.ts (KpX.ts k7 d6.1)
            have hpo7 := k7 _ _ dpo hpo
            clear hp6 hpo k7
            have c70 := d7.2.2.2.1
            have lc7' : c7 ≤ c6 + 2 := by
              have e3 : ((p.lists.length : Int).toNat : Nat) = p.lists.length := rfl
              omega
            walk_at "go"
            refine ⟨p, .ref a, rfl, hp7, hE.okP, hE.okS, hE.okL, fun b J8 s8 eb => ?_⟩
            cases b with
            | false =>
              walk_at "go"
              exact ⟨c7, d7.same s8, by omega, _, _, _, _, _, _, _, _, _, _, _, _, rfl⟩
            | true =>
            have hend := eb rfl
            have hE2 : DrawnE (layP p o gs) := hE.lay (layC_of len2 mo lg okg)
            have hp8 := hp7.ts (same_ts s8)
            have hpo8 := s8 _ _ hpo7
            have hD8 := s8 _ _ hD7
            have d8 := d7.same s8
            clear hp7 hpo7 hD7 d7
            walk_at "go"
            refine ⟨D, _, rfl, .inl ⟨SqL.of hD8, fun G nG => ?_⟩⟩
            have s9 : Same J8 (upd J8 G (.tup (gs.map .int))) := same_nw (Same.refl _) nG
            have hG9 : (upd J8 G (.tup (gs.map V.int))) G = some (.tup (gs.map .int)) := upd_same
            have hp9 := hp8.ts (same_ts s9)
            have hpo9 := s9 _ _ hpo8
            have hD9 := s9 _ _ hD8
            have d9 := d8.same s9
            generalize upd J8 G (.tup (gs.map V.int)) = J9 at s9 hG9 hp9 hpo9 hD9 d9 ⊢
            clear hp8 hpo8 hD8 d8
            walk_at "go"
            refine ⟨p, .ref a, o, gs, po, G, rfl, hp9, hE.okP, len2, hpo9, hG9, oc2, lg, oc1, okg, True.intro, fun J10 v10 s10 hq10 => ?_⟩
            walk_at "go"
            refine ⟨p, .ref a, o, gs, po, D, rfl, hp9.ts (same_ts s10), s10 _ _ hpo9, s10 _ _ hD9, by rw [oc2, lg], by omega, oc3, fun J11 v11 s11 hq11 => ?_⟩
            refine ne_prog hE2 (hq10.ts (same_ts s11)) hq11 ⟨_, rfl, ?_⟩
            refine iteN rfl ?_
            have hp11 := hp9.ts (same_ts (s10.trans s11))
            have d11 := d9.same (s10.trans s11)
            clear hp9 hpo9 hD9 d9 hG9 s9 nG s8 s10 s11 hq10 hq11 hE2
            walk_at "go"
            refine ⟨fun σ' H' => ∃ dv o11 o12, Same J11 H' ∧ σ' = [some (.ref sc), o1, some (.ref st), o3, some (.int (p.lists.length : Int)), some (.ref po), some (.ref D), some dv, o8, some (.ref a), some (.int (1 + (m1 : Int))), o11, o12, o13] ∧ ((laidM p (1 + m1) = none ∧ dv = .non) ∨ ∃ o g x, laidM p (1 + m1) = some (o, g) ∧ dv = .ref x ∧ LaidAt cL H' x o g), ?_, ?_⟩
            · walk_at "go"
              rename_i J12 q12 ws s12 h12 pl
              refine ⟨⟨_, SqL.of h12⟩, ?_⟩
              have lw := Paired.length pl
              refine for_it walk_list (fun k σ H' => Same J12 H' ∧ (∀ x ∈ (laysM p.lists.length).take k, ¬ stillP (layP p x.1 x.2) (1 + m1)) ∧ ∃ o11 o12, σ = [some (.ref sc), o1, some (.ref st), o3, some (.int (p.lists.length : Int)), some (.ref po), some (.ref D), some .non, o8, some (.ref a), some (.int (1 + (m1 : Int))), o11, o12, o13]) ⟨Same.refl _, (fun _ m => nomatch m), _, _, rfl⟩ (fun _ _ H' _ z => SqL.of (z.1 _ _ h12)) ?_ ?_
              · rintro k y K1 K2 K3 hk ⟨sK, no, o11, o12, rfl⟩ ⟨rfl, ey⟩
                obtain ⟨⟨xo, xg⟩, ex, pp, po2, pg2, rfl, hpp, hpo2, hpg2⟩ := Paired.at pl ey
                have mx := List.mem_of_getElem? ex
                obtain ⟨mx1, mx2, mx3⟩ := lays_mem len2 mx
                obtain ⟨_, xc2, xc3⟩ := perms_cases len2 mx1
                have hX : DrawnE (layP p xo xg) := hE.lay (layC_of len2 mx1 mx2 mx3)
                have eX : ends (layP p xo xg) := ends_lay hE.okL.nd (layC_of len2 mx1 mx2 mx3) hend
                have hpp := sK _ _ hpp
                have hpo2 := sK _ _ hpo2
                have hpg2 := sK _ _ hpg2
                have hpK := hp11.ts (same_ts (s12.trans sK))
                walk_at "go"
                have el : xo.length = xg.length := xc2.trans mx2.symm
                have lx4 : xo.length ≤ 4 := by
                  have h : xo.length = p.lists.length := xc2
                  omega
                refine ⟨p, .ref a, xo, xg, po2, pg2, rfl, hpK, hpo2, hpg2, el, lx4, xc3, fun K4 v4 s4 hq4 => ?_⟩
                walk_at "go"
                refine ⟨layP p xo xg, v4, 1 + m1, rfl, hq4, hX.okP, hX.okS, hX.okL, eX, fun b K5 s5 eb => ?_⟩
                have es : b = true ↔ stillP (layP p xo xg) (1 + m1) := eb.trans (still_iff hX.okP)
                have s35 := s4.trans s5
                have hpo5 := s35 _ _ hpo2
                have hpg5 := s35 _ _ hpg2
                cases b with
                | false =>
                  walk_at "go"
                  refine ⟨sK.trans s35, fun x mx => ?_, _, _, rfl⟩
                  rw [take_snoc ex] at mx
                  rcases List.mem_append.mp mx with mx | mx
                  · exact no x mx
                  · rw [List.mem_singleton.mp mx]
                    exact fun z => nomatch es.mpr z
                | true =>
                  have ls := laid_some ex no (es.mp rfl)
                  walk_at "go"
                  rename_i x dx nx ndx
                  refine fun ne => ?_
                  have k5 : ∀ {b : Addr} {u : HO}, K5 b = some u → (upd (upd K5 dx (.own x)) x (.ins cL dx [])) b = some u := fun e => upd_mut (ne_of_none e nx) (upd_get ndx e)
                  refine ⟨x, dx, po2, pg2, _, _, rfl, upd_same, k5 hpo5, k5 hpg5, fun H' p1 p2 kp hx hp1 hp2 => ⟨rfl, ?_⟩⟩
                  exact ⟨.ref x, _, _, (s12.trans (sK.trans s35)).trans (fun b u e => kp b u (ne_of_none e nx) (k5 e)), rfl, Or.inr ⟨xo, xg, x, ls, rfl, dx, p1, p2, hx, hp1, hp2⟩⟩
              · rintro K1 K2 ⟨sK, no, o11, o12, rfl⟩
                rw [← lw, List.take_length] at no
                refine ⟨.non, o11, o12, s12.trans sK, rfl, Or.inl ⟨?_, rfl⟩⟩
                exact laid_none no
            · rintro σ' K1 ⟨dv, o11, o12, sK, rfl, alt⟩
              have dK := d11.same sK
              have hpK := hp11.ts (same_ts sK)
              walk_at "go"
              refine ⟨p, .ref a, 1 + m1, rfl, hpK, hE.okP, by omega, by omega, len2, fun x mx => ?_, fun en K2 s2 => ?_, fun lo lg es K2 x s2 hx => ?_⟩
              · obtain ⟨mx1, mx2, mx3⟩ := lays_mem len2 mx
                exact learn_lay hE (layC_of len2 mx1 mx2 mx3) hend
              · rcases alt with ⟨_, rfl⟩ | ⟨lo, lg, x, e, _⟩
                · walk_at "go"
                  exact ⟨c7, dK.same s2, by omega, _, _, _, _, _, _, _, _, _, _, _, _, rfl⟩
                · rw [en] at e
                  cases e
              · rcases alt with ⟨e, _⟩ | ⟨lo2, lg2, x2, e, rfl, hx2⟩
                · rw [es] at e
                  cases e
                · rw [es] at e
                  cases e
                  walk_at "go"
                  have hx3 : LaidAt cL K2 x2 lo lg := by
                    obtain ⟨dx, p1, p2, e1, e2, e3⟩ := hx2
                    exact ⟨dx, p1, p2, s2 _ _ e1, s2 _ _ e2, s2 _ _ e3⟩
                  obtain ⟨dx, p1, p2, e1, e2, e3⟩ := id hx
                  obtain ⟨dx2, p12, p22, f1, f2, f3⟩ := id hx3
                  refine ⟨x, _, _, x2, _, _, rfl, rfl, e1, f1, x, x2, lo, lg, rfl, hx, hx3, fun K3 s3 => ⟨_, rfl, ?_⟩⟩
                  refine iteN rfl ?_
                  exact ⟨c7, dK.same (s2.trans s3), by omega, _, _, _, _, _, _, _, _, _, _, _, _, rfl⟩
      · rintro σ J1 ⟨c, dr, lc, o1, o3, o4, o5, o6, o7, o8, o9, o10, o11, o12, o13, rfl⟩
        exact ⟨dr.2.1, _, _, _, _, _, _, _, _, _, _, _, _, _, rfl⟩
    · rintro σ H1 ⟨hs1, o1, o2, o3, o4, o5, o6, o7, o8, o9, o10, o11, o12, o13, rfl⟩
      exact q _
end
end NW
/-! ## Walks: a moved program -/
namespace NW
open PySem PySem.Spec PyProof.Rows L2
set_option pp.maxSteps 150
-- an object's place in a heap
local macro_rules | `(tactic| walk_at "hp") => `(tactic| (show _ = some _; first
  | assumption
  | exact upd_same
  | (refine' upd_get ?n ?h; (case n => assumption); (case h => walk_at "hp"))
  | (refine' same_get ?n ?h; (case n => assumption); (case h => walk_at "hp"))))
-- a heap that has grown
local macro_rules | `(tactic| walk_at "sm") => `(tactic| first
  | assumption
  | exact Same.refl _
  | (refine' same_nw ?n ?h; (case h => assumption); (case n => walk_at "sm"))
  | (refine' Same.trans ?n ?h; (case h => assumption); (case n => walk_at "sm")))
local macro_rules | `(tactic| walk_at "ty") => `(tactic| first
  | exact TyN.int _
  | exact TyN.str _
  | exact TyN.non
  | (refine' TyN.tup ?h; (case h => walk_at "hp"))
  | (refine' TyN.lst ?h; (case h => walk_at "hp")))
-- a test whose answer is known
local macro_rules | `(tactic| walk_at "if") => `(tactic| first
  | (refine iteB (by decide +kernel) ?_)
  | (refine iteN (by decide +kernel) ?_)
  | (refine iteB (by rfl) ?_)
  | (refine iteN (by rfl) ?_)
  | (refine iteB (decide_eq_true (by first | omega | assumption)) ?_)
  | (refine iteN (decide_eq_false (by first | omega | assumption)) ?_)
  | (refine iteB (by simp only [Bool.not_eq_true', Bool.not_eq_false', Bool.and_eq_true, Bool.and_eq_false_iff, Bool.or_eq_true, Bool.or_eq_false_iff, decide_eq_true_eq, decide_eq_false_iff_not]; omega) ?_)
  | (refine iteN (by simp only [Bool.not_eq_true', Bool.not_eq_false', Bool.and_eq_true, Bool.and_eq_false_iff, Bool.or_eq_true, Bool.or_eq_false_iff, decide_eq_true_eq, decide_eq_false_iff_not]; omega) ?_))
-- one step of a reading
local macro_rules | `(tactic| walk_at "s") => `(tactic| first
  | refine ⟨_, rfl, ?_⟩
  | refine ⟨_, _, rfl, rfl, ?_⟩
  | refine And.intro (show wipe _ _ = wipe _ _ by kernel_rfl) ?_
  | refine And.intro rfl ?_
  | (refine' ⟨_, _, _, _, rfl, rfl, SqT.of ?h, ?e, ?_⟩; (case h => walk_at "hp"); (case e => exact rfl))
  | (refine' ⟨_, _, rfl, ?t, ?_⟩; (case t => walk_at "ty"))
  | (refine' ⟨_, _, rfl, SqT.of ?h, ?e, ?_⟩; (case h => walk_at "hp"); (case e => exact rfl))
  | refine ⟨_, _, rfl, ?_⟩
  | (refine' ⟨_, _, _, rfl, rfl, ?h1, ?h2, ?_⟩; (case h1 => walk_at "hp"); (case h2 => walk_at "hp"))
  | (refine' ⟨_, _, _, _, rfl, rfl, SqL.of ?h, ?e, ?_⟩; (case h => walk_at "hp"); (case e => exact rfl))
  | (refine' ⟨_, _, rfl, Or.inr (SqT.of ?h), ?_⟩; (case h => walk_at "hp"))
  | (refine' ⟨_, _, rfl, Or.inr (SqT.of ?h), rfl, rfl, ?_⟩; (case h => walk_at "hp"))
  | (refine' ⟨_, _, rfl, Or.inl (SqL.of ?h), ?_⟩; (case h => walk_at "hp"))
  | refine And.intro (flat_strs _) ?_
  | (refine And.intro (sm_sz (Nat.le_of_ble_eq_true rfl)) ?_; intro p np)
  | walk_at "if"
  | (refine' And.intro ?a ?_; (case a => first | assumption | exact sm_sz (by omega) | omega | exact Or.inr ⟨by omega, by omega⟩ | exact Or.inl ⟨by omega, by omega⟩ | exact ⟨by omega, by omega⟩))
  | refine Or.inl ⟨_, _, _, rfl, ?_⟩
  | refine Or.inr ⟨_, _, _, rfl, ?_⟩
  | (intro Hn sn))
local macro_rules | `(tactic| walk_at "go") => `(tactic| repeat (walk_at "s"))

abbrev s_moved : Stmt := topS 75
abbrev N_moved : List Str := ["program", "order", "gaps", "many", "one"]
abbrev P_moved : List Str := ["program", "order", "gaps"]
theorem sc_moved : FnScope N_moved P_moved (defScope s_moved) := ⟨rfl, rfl, rfl, by decide +kernel, rfl, by decide +kernel, by decide +kernel⟩

theorem rgV_rng (n : Nat) : rgV 0 (n : Int) = (rng (n : Int)).map V.int := by
  unfold rgV rng
  rw [Int.sub_zero, List.map_map]
  congr 1
  funext i
  show V.int (0 + (i : Int)) = V.int (i : Int)
  rw [Int.zero_add]
theorem sorted_order {o ns : List Int} {n : Nat} (h : o = [] ∨ o = [0] ∨ o = [0, 1] ∨ o = [1, 0]) (l : o.length = n) (p : ns.Perm o) (pw : ns.Pairwise (· ≤ ·)) : ns = rng (n : Int) := by
  have two : ∀ {a b : Int}, (∀ x, x ∈ ns ↔ x = 0 ∨ x = 1) → ns.length = 2 → ns = [0, 1] := fun {a b} hm hl => by
    match ns, hl, pw with
    | [x, y], _, pw =>
      have hx := (hm x).mp (by simp)
      have hy := (hm y).mp (by simp)
      have h0 := (hm 0).mpr (Or.inl rfl)
      have h1 := (hm 1).mpr (Or.inr rfl)
      simp at h0 h1 pw
      have : x = 0 := by omega
      have : y = 1 := by omega
      subst_vars
      rfl
  rcases h with rfl | rfl | rfl | rfl
  · subst l
    exact List.perm_nil.mp p
  · subst l
    exact List.perm_singleton.mp p
  · subst l
    exact two (a := 0) (b := 0) (fun x => by rw [p.mem_iff]; simp) p.length_eq
  · subst l
    exact two (a := 0) (b := 0) (fun x => by rw [p.mem_iff]; simp; exact Or.comm) p.length_eq
section
variable {P : Program} {w : World} {K : PySem.W.Frag} {mg : Str → Option Value} {base : Heap} {cR cN cT cS cL : Addr}
theorem ok_moved (T : Tx mg) (D : DefAt K mg "moved" s_moved) (c_check_program : C8.Cal P w K mg base 15 "check_program" sp_check_program []) (c_is_whole : C8.Cal P w K mg base 1 "is_whole" sp_is_whole []) (c_with_layout : C8.Cal P w K mg base 1 "with_layout" sp_with_layout []) : C8.Cal P w K mg base 16 "moved" sp_moved [] := by
  refine D.cal (k := 15) sc_moved (fun _ _ _ _ _ _ us hl => match us, hl with | [_, _, _], _ => rfl) (fun vs H Q E h => ?_) (fun f cdv A outer s H vs Q E hr h => ⟨_, (pss_cons (ps_expr (C8.pe_c c_check_program hr (by omega) (by rfl) (pa_cons (pv 0) pa_nil)))
    (pss_cons (ps_set (i := 3) sc_moved.nd rfl (Or.inr rfl) (pe_callB call_len_seq (by rfl) T.len_ PySem.boot_len (pa_cons (pe_ix ix_tup (pv 0) pe_int (fun _ _ => rfl)) pa_nil)))
    (pss_cons (ps_if (PW.pt (pw_or (pt_not (pt_val (pe_callB call_isT (by rfl) T.isinstance_ (by decide +kernel) (pa_cons (pv 1) (pa_cons (pe_tup (pa_cons (pe_bltn (v := .ty "list") (u := .type "list") (by rfl) T.list_ (by decide +kernel) rfl) (pa_cons (pe_bltn (v := .ty "tuple") (u := .type "tuple") (by rfl) T.tuple_ (by decide +kernel) rfl) pa_nil))) pa_nil))))) (pw_or1 (pt_not (pt_val (pe_callB (cr_all rfl) (by rfl) T.all_ (by decide +kernel) (pa_cons (pe_lc (own := [("one", 4)]) (g := (gName 4)) (tt := tYes) rfl sc_moved.nd (pi_list (pv 1)) (blkOk_by (own := [("one", 4)]) (N := N_moved) (sc := defScope s_moved) (by decide +kernel)) (fun _ _ _ _ _ => (pg_name (i := 4) sc_moved.nd rfl (Or.inl rfl))) (fun _ _ _ _ _ => pts_nil) (fun _ _ _ _ _ => (C8.pe_c c_is_whole hr (by omega) (by rfl) (pa_cons (pv 4) (pa_cons pe_int (pa_cons (pe_op op_sub (pv 3) pe_int) pa_nil)))))) pa_nil))))))) (pss_one ps_never)
    pss_nil)
    (pss_cons (ps_if (pt_cmpR (op_neD hr.units) (pe_callB cr_sorted (by rfl) T.sorted_ (by decide +kernel) (pa_cons (pe_callTy call_list_of (by rfl) T.list_ (by decide +kernel) (pa_cons (pv 1) pa_nil)) pa_nil)) (pe_listRg rfl (by rfl) T.list_ (prg_1 (by rfl) T.range_ (pv 3))) (nomark _)) (pss_one ps_never)
    pss_nil)
    (pss_cons (ps_if (PW.pt (pw_or (pt_not (pt_val (pe_callB call_isT (by rfl) T.isinstance_ (by decide +kernel) (pa_cons (pv 2) (pa_cons (pe_tup (pa_cons (pe_bltn (v := .ty "list") (u := .type "list") (by rfl) T.list_ (by decide +kernel) rfl) (pa_cons (pe_bltn (v := .ty "tuple") (u := .type "tuple") (by rfl) T.tuple_ (by decide +kernel) rfl) pa_nil))) pa_nil))))) (pw_or1 (pt_cmpR op_ne (pe_callB call_len_seq (by rfl) T.len_ PySem.boot_len (pa_cons (pv 2) pa_nil)) (pv 3) (nomark _))))) (pss_one ps_never)
    pss_nil)
    (pss_cons (ps_if (pt_not (pt_val (pe_callB (cr_all rfl) (by rfl) T.all_ (by decide +kernel) (pa_cons (pe_lc (own := [("one", 4)]) (g := (gName 4)) (tt := tYes) rfl sc_moved.nd (pi_tup (pv 2)) (blkOk_by (own := [("one", 4)]) (N := N_moved) (sc := defScope s_moved) (by decide +kernel)) (fun _ _ _ _ _ => (pg_name (i := 4) sc_moved.nd rfl (Or.inl rfl))) (fun _ _ _ _ _ => pts_nil) (fun _ _ _ _ _ => (C8.pe_c c_is_whole hr (by omega) (by rfl) (pa_cons (pv 4) (pa_cons pe_int (pa_cons (C8.pe_gc (by rfl) T.g_MOST_GAP) pa_nil)))))) pa_nil)))) (pss_one ps_never)
    pss_nil)
    (pss_one (ps_ret (C8.pe_c c_with_layout hr (by omega) (by rfl) (pa_cons (pv 0) (pa_cons (pv 1) (pa_cons (pv 2) pa_nil)))))))))))), ?_⟩)
  · obtain ⟨p, v, o, g, po, pg, rfl, _⟩ := h
    rfl
  · obtain ⟨p, v, o, g, po, pg, rfl, hp, hk, hl, hpo, hpg, h1, h2, h3, h4, h5, q⟩ := h
    walk_at "go"
    refine ⟨p, v, rfl, hp, hk, fun H1 s1 => ?_⟩
    have hp1 := hp.ts (same_ts s1)
    obtain ⟨a, ah, al, ar, at_, hs, ls, rs, rfl, g0, g1, g2, g3, g4, g5, g6, g7⟩ := id hp1
    have lls : ls.length = p.lists.length := (TupsL.len g4).symm
    have hpo1 := s1 _ _ hpo
    have hpg1 := s1 _ _ hpg
    walk_at "go"
    rename_i pt nt
    have st : Same H1 (upd H1 pt (.tup [.ty "list", .ty "tuple"])) := same_nw (Same.refl _) nt
    refine ⟨upd_same, Or.inl ⟨_, st _ _ hpo1⟩, ?_⟩
    have hpo2 := st _ _ hpo1
    have hpg2 := st _ _ hpg1
    generalize upd H1 pt (.tup [.ty "list", .ty "tuple"]) = H2 at st hpo2 hpg2 ⊢
    have n2 : ls.length ≤ 2 := by omega
    have oo : ∀ i ∈ o, 0 ≤ i ∧ i ≤ (ls.length : Int) - 1 := fun i m => by
      rcases h3 with rfl | rfl | rfl | rfl
      · cases m
      · rw [List.mem_singleton] at m
        simp at h1
        omega
      · simp at m h1
        omega
      · simp at m h1
        omega
    have lo : o.length ≤ 2 := by omega
    walk_at "go"
    refine ⟨⟨_, SqL.of hpo2⟩, fun D nD => ?_⟩
    refine lc_true (walk_list (a := po) (xs := o.map V.int)) nD (by rw [List.length_map]; omega) (fun _ s3 => SqL.of (s3 _ _ hpo2)) (fun i x H3 H4 Kf k hi s3 y => ?_) (fun H3 s3 e3 => ?_)
    · obtain ⟨rfl, e'⟩ := y
      rw [List.getElem?_map] at e'
      cases e4 : o[i]? with
      | none =>
        rw [e4] at e'
        cases e'
      | some z =>
        rw [e4] at e'
        cases e'
        obtain ⟨b1, b2⟩ := oo z (List.mem_of_getElem? e4)
        walk_at "go"
        exact fin_t (Q := Kf) (by rw [decide_eq_true b1, decide_eq_true b2]; rfl) (k _ (Same.refl _))
    refine ⟨_, _, rfl, SqL.of e3, ?_⟩
    rw [all_rep]
    have hpo3 := s3 _ _ hpo2
    have hpg3 := s3 _ _ hpg2
    walk_at "go"
    rename_i p5 n5
    refine ⟨p5, o, rfl, SqL.of upd_same, by omega, fun ns p6 perm pw n6 => ?_⟩
    have ens : ns = rng (ls.length : Int) := sorted_order h3 (by rw [h1, lls]) perm pw
    walk_at "go"
    rename_i p7 n7
    refine neD_ints (xs := ns) (ys := rng (ls.length : Int)) (upd_get n7 upd_same) (by rw [upd_same, rgV_rng]) ?_
    rw [decide_eq_true ens]
    refine ⟨_, rfl, iteN rfl ?_⟩
    have s6 : Same H3 (upd (upd (upd H3 p5 (.lst (o.map V.int))) p6 (.lst (ns.map V.int))) p7 (.lst (rgV 0 (ls.length : Int)))) := same_nw (same_nw (same_nw (Same.refl _) n5) n6) n7
    have hpo6 := s6 _ _ hpo3
    have hpg6 := s6 _ _ hpg3
    generalize upd (upd (upd H3 p5 (.lst (o.map V.int))) p6 (.lst (ns.map V.int))) p7 (.lst (rgV 0 (ls.length : Int))) = H6 at s6 hpo6 hpg6 ⊢
    walk_at "go"
    rename_i p8 n8
    refine ⟨upd_same, Or.inr ⟨_, upd_get n8 hpg6⟩, ?_⟩
    have s8 : Same H6 (upd H6 p8 (.tup [.ty "list", .ty "tuple"])) := same_nw (Same.refl _) n8
    have hpo8 := s8 _ _ hpo6
    have hpg8 := s8 _ _ hpg6
    generalize upd H6 p8 (.tup [.ty "list", .ty "tuple"]) = H8 at s8 hpo8 hpg8 ⊢
    have lg : (g.map V.int).length = ls.length := by
      rw [List.length_map]
      omega
    walk_at "go"
    refine iteN (show (!decide (V.int ((g.map V.int).length : Int) = V.int (ls.length : Int))) = false by rw [lg, decide_eq_true rfl]; rfl) ?_
    walk_at "go"
    refine ⟨⟨_, SqT.of hpg8⟩, fun D2 nD2 => ?_⟩
    refine lc_true (walk_tup (a := pg) (xs := g.map V.int)) nD2 (by rw [lg]; omega) (fun _ s9 => SqT.of (s9 _ _ hpg8)) (fun i x H9 H10 Kf k hi s9 y => ?_) (fun H9 s9 e9 => ?_)
    · obtain ⟨rfl, e'⟩ := y
      rw [List.getElem?_map] at e'
      cases e4 : g[i]? with
      | none =>
        rw [e4] at e'
        cases e'
      | some z =>
        rw [e4] at e'
        cases e'
        obtain ⟨b1, b2⟩ := h4 z (List.mem_of_getElem? e4)
        walk_at "go"
        exact fin_t (Q := Kf) (by rw [decide_eq_true b1, decide_eq_true b2]; rfl) (k _ (Same.refl _))
    refine ⟨_, _, rfl, SqL.of e9, ?_⟩
    rw [all_rep]
    have sA := s1.trans (st.trans (s3.trans (s6.trans (s8.trans s9))))
    have hpo9 := s9 _ _ hpo8
    have hpg9 := s9 _ _ hpg8
    walk_at "go"
    refine ⟨p, _, o, g, po, pg, rfl, hp1.ts (same_ts (st.trans (s3.trans (s6.trans (s8.trans s9))))), hpo9, Or.inr hpg9, by omega, by omega, fun i m => ?_, fun H' v' s' hv => q H' v' (sA.trans s') hv⟩
    have := oo i m
    omega
end
end NW
/-! ## The head: the facts, the chain of the promises -/
namespace NW
open PySem PySem.Spec PyProof.Rows L2
section
variable {w : World} {K : PySem.W.Frag} {h : Heap} {mg : Str → Option Value}
abbrev Says (K : PySem.W.Frag) (w : World) : Prop := hPt.ob K = hPt.va w
theorem Says.d (c : Says K w) : He.SaysD hFa hFn K := congrArg (fun z : AlP => z.1.1) c
theorem Says.t (c : Says K w) : He.SaysT hFa hFn hTs w K := congrArg (fun z : AlP => z.1) c
theorem Says.e (c : Says K w) : hEx K = true := congrArg (fun z : AlP => z.2) c
theorem f_def (X : K.In h) (G : h.Ns mainGlobals mg) (c : Says K w) {x : Str} {st : Stmt} (i j : Nat) (hi : hFn[i]? = some (dd x st)) (hj : hFa[j]? = some (.glo x)) : DefAt K mg x st := by
  obtain ⟨fd, F⟩ := c.d.def_ i hi
  exact ⟨_, fd, F, He.glo_ok X G (c.d.fact j hj)⟩
theorem f_met (c : Says K w) {C m q : Str} {st : Stmt} (i j k : Nat) (hi : hFn[i]? = some (dm C m q st)) (hj : hFa[j]? = some (.cls C)) (hk : hFa[k]? = some (.meth C m)) : MetAt K (He.ga K C) m q st := by
  obtain ⟨fd, F⟩ := c.d.def_ i hi
  exact ⟨_, fd, F, He.cls_ok (c.d.fact j hj), He.meth_ok (c.d.fact k hk)⟩
theorem f_mak (X : K.In h) (G : h.Ns mainGlobals mg) (c : Says K w) {C q : Str} {st : Stmt} (i j k : Nat) (hi : hFn[i]? = some (dm C "__init__" q st)) (hj : hFa[j]? = some (.glo C)) (hk : hFa[k]? = some (.mkr C)) : MakAt K mg C (He.ga K C) q st := by
  obtain ⟨fd, F⟩ := c.d.def_ i hi
  exact ⟨_, fd, F, He.mkr_ok (c.d.fact k hk), He.glo_ok X G (c.d.fact j hj)⟩
theorem f_int (X : K.In h) (G : h.Ns mainGlobals mg) (c : Says K w) {x : Str} {i : Int} (j : Nat) (hj : hFa[j]? = some (.int x i)) : ∃ u, mg x = some u ∧ RelV (.int i) u := by
  obtain ⟨t, e⟩ := He.int_ok X G (c.d.fact j hj)
  exact ⟨_, e, t, rfl⟩
theorem f_str (X : K.In h) (G : h.Ns mainGlobals mg) (c : Says K w) {x z : Str} (j : Nat) (hj : hFa[j]? = some (.str x z)) : ∃ u, mg x = some u ∧ RelV (.str z) u := by
  obtain ⟨t, e⟩ := He.str_ok X G (c.d.fact j hj)
  exact ⟨_, e, t, rfl⟩
theorem ins_ok {C : Addr} (h : insB K C = true) (cl : Cls K C) : C8.InsC K C := by
  obtain ⟨h1, h⟩ := He.ba h
  obtain ⟨h2, h⟩ := He.ba h
  obtain ⟨h3, h⟩ := He.ba h
  obtain ⟨h4, h5⟩ := He.ba h
  exact ⟨cl, He.eqO_ok h1, He.eqO_ok h2, of_decide_eq_true h3, of_decide_eq_true h4, of_decide_eq_true h5⟩
theorem mk0_ok {C : Addr} (h : mk0B K C = true) : Mk0 K C := by
  obtain ⟨h1, h⟩ := He.ba h
  obtain ⟨h2, h⟩ := He.ba h
  obtain ⟨h3, h4⟩ := He.ba h
  exact ⟨h1, He.eqO_ok h2, of_decide_eq_true h3, h4⟩
theorem two_ok {p : Addr} {i j : Int} (h : twoB K p i j = true) (H : Hp) : SqT K H p [.int i, .int j] := by
  unfold twoB at h
  split at h
  · rename_i c d its n sl q
    obtain ⟨h1, h⟩ := He.ba h
    obtain ⟨h2, h3⟩ := He.ba h
    exact .inr ⟨_, its, n, q, congrArg Value.type (of_decide_eq_true h1), rfl, of_decide_eq_true h2, He.relAll_ok h3⟩
  · cases h
theorem tabs_of (X : K.In h) (G : h.Ns mainGlobals mg) (c : Says K w) (iS : hFa[103]? = some (.glo "SHAPES") := by rfl) (iD : hFa[104]? = some (.glo "DEEDS") := by rfl) : ∃ es n, Tabs K w mg (He.ga K "SHAPES") (He.ga K "DEEDS") es n := by
  obtain ⟨es, n, kd⟩ := c.t.tab 0 (t := (fun K => He.ga K "SHAPES", ["set", "get", "put", "pick", "let", "fence"])) rfl
  obtain ⟨h1, h⟩ := He.ba c.e
  obtain ⟨h2, h⟩ := He.ba h
  obtain ⟨h3, h⟩ := He.ba h
  obtain ⟨h4, _⟩ := He.ba h
  refine ⟨es, n, He.glo_ok X G (c.d.fact _ iS), kd, fun x i j m => ?_, He.eqO_ok h3, He.eqO_ok h4, He.glo_ok X G (c.d.fact _ iD), fun H => ?_⟩
  · have z := List.all_eq_true.mp h2 (x, i, j) m
    have z : (match PySem.W.nsIn K (He.ga K "SHAPES") x with
      | some (some (.ref p)) => twoB K p i j
      | _ => false) = true := z
    cases e : PySem.W.nsIn K (He.ga K "SHAPES") x with
    | none =>
      rw [e] at z
      cases z
    | some r =>
      rw [e] at z
      cases r with
      | none => cases z
      | some u =>
        cases u with
        | ref p => exact ⟨p, ⟨es, n, _, kd.at_, kd.lit, e, rfl⟩, fun H => two_ok z H⟩
        | _ => cases z
  · have z := He.tupB_ok h1 H
    have e : (deeds.map He.Dv.str).map (He.Dv.v K) = deeds.map .str := by
      rw [List.map_map]
      rfl
    rw [e] at z
    exact z
theorem tx_of (X : K.In h) (G : h.Ns mainGlobals mg) (c : Says K w) : Tx mg :=
  ⟨He.free_ok X G (c.d.fact 0 (f := .free "isinstance") rfl),
    He.free_ok X G (c.d.fact 1 (f := .free "len") rfl),
    He.free_ok X G (c.d.fact 2 (f := .free "all") rfl),
    He.free_ok X G (c.d.fact 3 (f := .free "range") rfl),
    He.free_ok X G (c.d.fact 4 (f := .free "tuple") rfl),
    He.free_ok X G (c.d.fact 5 (f := .free "list") rfl),
    He.free_ok X G (c.d.fact 6 (f := .free "sum") rfl),
    He.free_ok X G (c.d.fact 7 (f := .free "min") rfl),
    He.free_ok X G (c.d.fact 8 (f := .free "max") rfl),
    He.free_ok X G (c.d.fact 9 (f := .free "zip") rfl),
    He.free_ok X G (c.d.fact 10 (f := .free "enumerate") rfl),
    He.free_ok X G (c.d.fact 11 (f := .free "sorted") rfl),
    He.free_ok X G (c.d.fact 12 (f := .free "repr") rfl),
    He.free_ok X G (c.d.fact 13 (f := .free "int") rfl),
    He.free_ok X G (c.d.fact 14 (f := .free "str") rfl),
    He.free_ok X G (c.d.fact 15 (f := .free "bool") rfl),
    He.free_ok X G (c.d.fact 16 (f := .free "dict") rfl),
    f_str X G c 35 rfl,
    f_int X G c 17 rfl,
    f_int X G c 18 rfl,
    f_int X G c 19 rfl,
    f_int X G c 20 rfl,
    f_int X G c 21 rfl,
    f_int X G c 22 rfl,
    f_int X G c 23 rfl,
    f_int X G c 24 rfl,
    f_int X G c 25 rfl,
    f_int X G c 26 rfl,
    f_int X G c 27 rfl,
    f_int X G c 28 rfl,
    f_int X G c 30 rfl,
    f_int X G c 31 rfl,
    f_int X G c 32 rfl,
    f_int X G c 33 rfl,
    f_int X G c 34 rfl⟩
theorem hLaw {P : Program} (X : K.In h) (G : h.Ns mainGlobals mg) {f : Addr} (hf : mg "law" = some (.ref f)) (c : Says K w) :
    ∃ fd : FuncData, (∀ (s : Shared) (v : Value), BindsTo s fd ⟨[v], []⟩ [("_law_script", v)]) ∧ ∀ b0 : Heap, GFn P w K mg b0 19 f fd ["_law_script"] (sp_law K) := by
  obtain ⟨fd, F⟩ := c.d.def_ 61 (d := dd "law" s_law) rfl
  have F : FunD K "law" "law" (defArgs s_law) (defBody s_law) (defScope s_law) [] [] (He.ga K "law") fd := F
  have e := hf.symm.trans (He.glo_ok X G (c.d.fact 97 (f := .glo "law") rfl))
  cases e
  have b := FunD.bindsA (ps := ["_law_script"]) F fun _ _ _ _ _ _ us hl => match us, hl with | [_], _ => rfl
  refine ⟨fd, fun s v => b s [v] rfl, fun base => ?_⟩
  have T := tx_of X G c
  obtain ⟨es, n, B⟩ := tabs_of X G c
  obtain ⟨_, q⟩ := He.ba c.e
  obtain ⟨_, q⟩ := He.ba q
  obtain ⟨_, q⟩ := He.ba q
  obtain ⟨_, q⟩ := He.ba q
  obtain ⟨qS, q⟩ := He.ba q
  obtain ⟨qL, q⟩ := He.ba q
  obtain ⟨q0, q⟩ := He.ba q
  obtain ⟨qk, q⟩ := He.ba q
  obtain ⟨nf_SS, q⟩ := He.ba q
  obtain ⟨nf_TS, nf_LL⟩ := He.ba q
  have m_Still := mk0_ok q0
  have hkST := of_decide_eq_true qk
  have k_Ran := He.glo_ok X G (c.d.fact 98 (f := .glo "Ran") rfl)
  have k_Runner := He.glo_ok X G (c.d.fact 99 (f := .glo "Runner") rfl)
  have k_Tells := He.glo_ok X G (c.d.fact 100 (f := .glo "Tells") rfl)
  have k_Still := He.glo_ok X G (c.d.fact 101 (f := .glo "Still") rfl)
  have k_Laid := He.glo_ok X G (c.d.fact 102 (f := .glo "Laid") rfl)
  have cl_Ran := He.cls_ok (c.d.fact 105 (f := .cls "Ran") rfl)
  have cl_Runner := He.cls_ok (c.d.fact 106 (f := .cls "Runner") rfl)
  have cl_Tells := He.cls_ok (c.d.fact 107 (f := .cls "Tells") rfl)
  have cl_Still := He.cls_ok (c.d.fact 108 (f := .cls "Still") rfl)
  have cl_Laid := He.cls_ok (c.d.fact 109 (f := .cls "Laid") rfl)
  have iS := ins_ok qS cl_Still
  have iL := ins_ok qL cl_Laid
  have C_Runner : RunnerC K (He.ga K "Runner") := ⟨cl_Runner, He.noat_ok (c.d.fact 110 (f := .noat "Runner" "held") rfl), He.noat_ok (c.d.fact 111 (f := .noat "Runner" "cells") rfl), He.noat_ok (c.d.fact 112 (f := .noat "Runner" "begins") rfl), He.noat_ok (c.d.fact 113 (f := .noat "Runner" "many") rfl), He.noat_ok (c.d.fact 114 (f := .noat "Runner" "lets") rfl), He.noat_ok (c.d.fact 115 (f := .noat "Runner" "waiting") rfl)⟩
  have C_Ran : RanC K (He.ga K "Ran") := ⟨cl_Ran, He.noat_ok (c.d.fact 116 (f := .noat "Ran" "told") rfl), He.noat_ok (c.d.fact 117 (f := .noat "Ran" "cells") rfl), He.noat_ok (c.d.fact 118 (f := .noat "Ran" "out") rfl), He.noat_ok (c.d.fact 119 (f := .noat "Ran" "steps") rfl)⟩
  have C_Tells : TellsC K (He.ga K "Tells") := ⟨cl_Tells, He.noat_ok (c.d.fact 120 (f := .noat "Tells" "opened") rfl), He.noat_ok (c.d.fact 121 (f := .noat "Tells" "one") rfl), He.noat_ok (c.d.fact 122 (f := .noat "Tells" "other") rfl), He.noat_ok (c.d.fact 123 (f := .noat "Tells" "step") rfl)⟩
  have C_Laid : LaidC K (He.ga K "Laid") := ⟨cl_Laid, He.noat_ok (c.d.fact 124 (f := .noat "Laid" "order") rfl), He.noat_ok (c.d.fact 125 (f := .noat "Laid" "gaps") rfl)⟩
  have c_is_whole := ok_is_whole (P := P) (w := w) (K := K) (mg := mg) (base := base) T (f_def X G c 0 36 (x := "is_whole") (st := s_is_whole) rfl rfl)
  have c_is_name := ok_is_name (P := P) (w := w) (K := K) (mg := mg) (base := base) T (f_def X G c 1 37 (x := "is_name") (st := s_is_name) rfl rfl)
  have c_is_handed := ok_is_handed (P := P) (w := w) (K := K) (mg := mg) (base := base) T (f_def X G c 2 38 (x := "is_handed") (st := s_is_handed) rfl rfl) c_is_whole c_is_name
  have c_is_list := ok_is_list (P := P) (w := w) (K := K) (mg := mg) (base := base) T (f_def X G c 3 39 (x := "is_list") (st := s_is_list) rfl rfl) c_is_whole c_is_name
  have c_is_operand := ok_is_operand (P := P) (w := w) (K := K) (mg := mg) (base := base) T (f_def X G c 6 42 (x := "is_operand") (st := s_is_operand) rfl rfl) c_is_whole c_is_name
  have c_is_plain_row := ok_is_plain_row (P := P) (w := w) (K := K) (mg := mg) (base := base) T B (f_def X G c 7 43 (x := "is_plain_row") (st := s_is_plain_row) rfl rfl) c_is_operand c_is_name
  have are0 : C8.Cal P w K mg base 5 "are_rows" (sp_are_rows 0) [] := DefAt.void (f_def X G c 9 45 (x := "are_rows") (st := s_are_rows) rfl rfl) (ps := P_are_rows) (fun _ _ _ _ _ _ us hl => match us, hl with | [_, _, _], _ => rfl) (fun vs H Q E z => by obtain ⟨_, _, _, _, _, _, _, z0, _⟩ := z; exact absurd z0 (Nat.lt_irrefl 0))
  have row0 := ok_is_row (P := P) (w := w) (K := K) (mg := mg) (base := base) (m := 0) T B (f_def X G c 8 44 (x := "is_row") (st := s_is_row) rfl rfl) c_is_plain_row c_is_operand c_is_whole are0
  have are1 := ok_are_rows (P := P) (w := w) (K := K) (mg := mg) (base := base) (m := 0) T (f_def X G c 9 45 (x := "are_rows") (st := s_are_rows) rfl rfl) row0
  have row1 := ok_is_row (P := P) (w := w) (K := K) (mg := mg) (base := base) (m := 1) T B (f_def X G c 8 44 (x := "is_row") (st := s_is_row) rfl rfl) c_is_plain_row c_is_operand c_is_whole are1
  have are2 := ok_are_rows (P := P) (w := w) (K := K) (mg := mg) (base := base) (m := 1) T (f_def X G c 9 45 (x := "are_rows") (st := s_are_rows) rfl rfl) row1
  have row2 := ok_is_row (P := P) (w := w) (K := K) (mg := mg) (base := base) (m := 2) T B (f_def X G c 8 44 (x := "is_row") (st := s_is_row) rfl rfl) c_is_plain_row c_is_operand c_is_whole are2
  have are3 := ok_are_rows (P := P) (w := w) (K := K) (mg := mg) (base := base) (m := 2) T (f_def X G c 9 45 (x := "are_rows") (st := s_are_rows) rfl rfl) row2
  have row3 := ok_is_row (P := P) (w := w) (K := K) (mg := mg) (base := base) (m := 3) T B (f_def X G c 8 44 (x := "is_row") (st := s_is_row) rfl rfl) c_is_plain_row c_is_operand c_is_whole are3
  have are4 := ok_are_rows (P := P) (w := w) (K := K) (mg := mg) (base := base) (m := 3) T (f_def X G c 9 45 (x := "are_rows") (st := s_are_rows) rfl rfl) row3
  have c_parts_of := ok_parts_of (P := P) (w := w) (K := K) (mg := mg) (base := base) T (f_def X G c 10 46 (x := "parts_of") (st := s_parts_of) rfl rfl)
  have many0 : C8.Cal P w K mg base 2 "many_rows" (sp_many_rows 0) [] := DefAt.void (f_def X G c 11 47 (x := "many_rows") (st := s_many_rows) rfl rfl) (ps := P_many_rows) (fun _ _ _ _ _ _ us hl => match us, hl with | [_], _ => rfl) (fun vs H Q E z => by obtain ⟨_, _, _, _, _, z0, _⟩ := z; exact absurd z0 (Nat.lt_irrefl 0))
  have many1 := ok_many_rows (P := P) (w := w) (K := K) (mg := mg) (base := base) (m := 0) T (f_def X G c 11 47 (x := "many_rows") (st := s_many_rows) rfl rfl) c_parts_of many0
  have many2 := ok_many_rows (P := P) (w := w) (K := K) (mg := mg) (base := base) (m := 1) T (f_def X G c 11 47 (x := "many_rows") (st := s_many_rows) rfl rfl) c_parts_of many1
  have many3 := ok_many_rows (P := P) (w := w) (K := K) (mg := mg) (base := base) (m := 2) T (f_def X G c 11 47 (x := "many_rows") (st := s_many_rows) rfl rfl) c_parts_of many2
  have many4 := ok_many_rows (P := P) (w := w) (K := K) (mg := mg) (base := base) (m := 3) T (f_def X G c 11 47 (x := "many_rows") (st := s_many_rows) rfl rfl) c_parts_of many3
  have c_are_unlike := ok_are_unlike (P := P) (w := w) (K := K) (mg := mg) (base := base) T (f_def X G c 4 40 (x := "are_unlike") (st := s_are_unlike) rfl rfl)
  have c_handings_of := ok_handings_of (P := P) (w := w) (K := K) (mg := mg) (base := base) T (f_def X G c 5 41 (x := "handings_of") (st := s_handings_of) rfl rfl)
  have c_is_program := ok_is_program (P := P) (w := w) (K := K) (mg := mg) (base := base) T (f_def X G c 12 48 (x := "is_program") (st := s_is_program) rfl rfl) c_is_handed c_is_list c_are_unlike are4 many4 c_is_name c_handings_of
  have c_check_program := ok_check_program (P := P) (w := w) (K := K) (mg := mg) (base := base) T (f_def X G c 13 49 (x := "check_program") (st := s_check_program) rfl rfl) c_is_program
  have c_bits_of := ok_bits_of (P := P) (w := w) (K := K) (mg := mg) (base := base) T (f_def X G c 20 56 (x := "bits_of") (st := s_bits_of) rfl rfl)
  have c_deed_of := ok_deed_of (P := P) (w := w) (K := K) (mg := mg) (base := base) T (f_def X G c 21 57 (x := "deed_of") (st := s_deed_of) rfl rfl)
  have c_line_of := ok_line_of (P := P) (w := w) (K := K) (mg := mg) (base := base) T (f_def X G c 23 59 (x := "line_of") (st := s_line_of) rfl rfl)
  have c_Runner_worth := ok_worth (P := P) (w := w) (K := K) (mg := mg) (base := base) T C_Runner (f_met c 64 106 128 (C := "Runner") (m := "worth") (q := "Runner.worth") (st := s_Runner_worth) rfl rfl rfl)
  have c_Runner_cell := ok_cell (P := P) (w := w) (K := K) (mg := mg) (base := base) T C_Runner (f_met c 65 106 129 (C := "Runner") (m := "cell") (q := "Runner.cell") (st := s_Runner_cell) rfl rfl rfl)
  have c_Runner_push := ok_push (P := P) (w := w) (K := K) (mg := mg) (base := base) T C_Runner (f_met c 66 106 130 (C := "Runner") (m := "push") (q := "Runner.push") (st := s_Runner_push) rfl rfl rfl)
  have c_Runner_next_one := ok_next_one (P := P) (w := w) (K := K) (mg := mg) (base := base) T C_Runner (f_met c 67 106 131 (C := "Runner") (m := "next_one") (q := "Runner.next_one") (st := s_Runner_next_one) rfl rfl rfl)
  have c_Runner_touch := ok_touch (P := P) (w := w) (K := K) (mg := mg) (base := base) T C_Runner (f_met c 69 106 133 (C := "Runner") (m := "touch") (q := "Runner.touch") (st := s_Runner_touch) rfl rfl rfl) c_Runner_cell c_Runner_worth
  have c_Runner_done_one := ok_done_one (P := P) (w := w) (K := K) (mg := mg) (base := base) T C_Runner (f_met c 68 106 132 (C := "Runner") (m := "done_one") (q := "Runner.done_one") (st := s_Runner_done_one) rfl rfl rfl) c_Runner_next_one c_Runner_worth c_Runner_push c_Runner_touch c_bits_of c_deed_of
  have c_cell_begins := ok_cell_begins (P := P) (w := w) (K := K) (mg := mg) (base := base) T (f_def X G c 18 54 (x := "cell_begins") (st := s_cell_begins) rfl rfl)
  have pl0 : C8.Cal P w K mg base 3 "placed" (sp_placed 0) [] := DefAt.void (f_def X G c 19 55 (x := "placed") (st := s_placed) rfl rfl) (ps := P_placed) (fun _ _ _ _ _ _ us hl => match us, hl with | [_, _], _ => rfl) (fun vs H Q E z => by obtain ⟨_, _, _, _, _, z0, _⟩ := z; exact absurd z0 (Nat.lt_irrefl 0))
  have pl1 := ok_placed (P := P) (w := w) (K := K) (mg := mg) (base := base) (m := 0) T (f_def X G c 19 55 (x := "placed") (st := s_placed) rfl rfl) c_parts_of many0 pl0
  have pl2 := ok_placed (P := P) (w := w) (K := K) (mg := mg) (base := base) (m := 1) T (f_def X G c 19 55 (x := "placed") (st := s_placed) rfl rfl) c_parts_of many1 pl1
  have pl3 := ok_placed (P := P) (w := w) (K := K) (mg := mg) (base := base) (m := 2) T (f_def X G c 19 55 (x := "placed") (st := s_placed) rfl rfl) c_parts_of many2 pl2
  have pl4 := ok_placed (P := P) (w := w) (K := K) (mg := mg) (base := base) (m := 3) T (f_def X G c 19 55 (x := "placed") (st := s_placed) rfl rfl) c_parts_of many3 pl3
  have c_Runner := ok_init (P := P) (w := w) (K := K) (mg := mg) (base := base) T C_Runner (f_mak X G c 63 99 127 (C := "Runner") (q := "Runner.__init__") (st := s_RunnerU_initU) rfl rfl rfl) c_cell_begins pl4
  have c_Ran := ok_ran (P := P) (w := w) (K := K) (mg := mg) (base := base) T C_Ran (f_mak X G c 62 98 126 (C := "Ran") (q := "Ran.__init__") (st := s_RanU_initU) rfl rfl rfl)
  have c_Runner_ended := ok_ended (P := P) (w := w) (K := K) (mg := mg) (base := base) T C_Runner (f_met c 70 106 134 (C := "Runner") (m := "ended") (q := "Runner.ended") (st := s_Runner_ended) rfl rfl rfl) c_Runner_worth c_Ran
  have c_run_of := ok_run_of (P := P) (w := w) (K := K) (mg := mg) (base := base) T (f_def X G c 22 58 (x := "run_of") (st := s_run_of) rfl rfl) c_Runner c_Runner_done_one c_Runner_ended
  have c_parts_handed := ok_parts_handed (P := P) (w := w) (K := K) (mg := mg) (base := base) T (f_def X G c 14 50 (x := "parts_handed") (st := s_parts_handed) rfl rfl)
  have c_all_tuples := ok_all_tuples (P := P) (w := w) (K := K) (mg := mg) (base := base) T (f_def X G c 15 51 (x := "all_tuples") (st := s_all_tuples) rfl rfl)
  have c_all_parts := ok_all_parts (P := P) (w := w) (K := K) (mg := mg) (base := base) T (f_def X G c 16 52 (x := "all_parts") (st := s_all_parts) rfl rfl) c_parts_handed c_all_tuples
  have c_handing_of := ok_handing_of (P := P) (w := w) (K := K) (mg := mg) (base := base) T (f_def X G c 17 53 (x := "handing_of") (st := s_handing_of) rfl rfl) c_parts_handed
  have c_stored := ok_stored (P := P) (w := w) (K := K) (mg := mg) (base := base) T (f_def X G c 24 60 (x := "stored") (st := s_stored) rfl rfl) c_line_of
  have c_sight := ok_sight (P := P) (w := w) (K := K) (mg := mg) (base := base) T C_Ran (f_def X G c 25 61 (x := "sight") (st := s_sight) rfl rfl) c_run_of c_stored
  have c_check_many := ok_check_many (P := P) (w := w) (K := K) (mg := mg) (base := base) T (f_def X G c 26 62 (x := "check_many") (st := s_check_many) rfl rfl) c_is_whole
  have c_Tells := ok_tells (P := P) (w := w) (K := K) (mg := mg) (base := base) T C_Tells (f_mak X G c 71 100 135 (C := "Tells") (q := "Tells.__init__") (st := s_TellsU_initU) rfl rfl rfl)
  have c_Tells_eq := ok_teq (P := P) (w := w) (K := K) (mg := mg) (base := base) T k_Tells iS hkST (f_met c 72 107 136 (C := "Tells") (m := "__eq__") (q := "Tells.__eq__") (st := s_TellsU_eqU) rfl rfl rfl)
  have c_Still_eq := ok_seq (P := P) (w := w) (K := K) (mg := mg) (base := base) T k_Still iS (f_met c 73 108 137 (C := "Still") (m := "__eq__") (q := "Still.__eq__") (st := s_StillU_eqU) rfl rfl rfl)
  have c_Laid := ok_laidI (P := P) (w := w) (K := K) (mg := mg) (base := base) T C_Laid (f_mak X G c 74 102 138 (C := "Laid") (q := "Laid.__init__") (st := s_LaidU_initU) rfl rfl rfl)
  have c_Laid_eq := ok_leq (P := P) (w := w) (K := K) (mg := mg) (base := base) T k_Laid C_Laid iL (f_met c 75 109 139 (C := "Laid") (m := "__eq__") (q := "Laid.__eq__") (st := s_LaidU_eqU) rfl rfl rfl)
  have c_step_of := ok_step_of (P := P) (w := w) (K := K) (mg := mg) (base := base) T (f_def X G c 27 63 (x := "step_of") (st := s_step_of) rfl rfl)
  have c_learnt_at := ok_learnt_at (P := P) (w := w) (K := K) (mg := mg) (base := base) T (f_def X G c 28 64 (x := "learnt_at") (st := s_learnt_at) rfl rfl) c_all_parts c_sight c_handing_of c_step_of c_Tells
  have c_learnt_of := ok_learnt_of (P := P) (w := w) (K := K) (mg := mg) (base := base) T (f_def X G c 29 65 (x := "learnt_of") (st := s_learnt_of) rfl rfl) k_Still m_Still c_all_parts c_learnt_at
  have c_with_layout := ok_with_layout (P := P) (w := w) (K := K) (mg := mg) (base := base) T (f_def X G c 30 66 (x := "with_layout") (st := s_with_layout) rfl rfl)
  have c_moved := ok_moved (P := P) (w := w) (K := K) (mg := mg) (base := base) T (f_def X G c 31 67 (x := "moved") (st := s_moved) rfl rfl) c_check_program c_is_whole c_with_layout
  have c_permutations_of := ok_permutations_of (P := P) (w := w) (K := K) (mg := mg) (base := base) T (f_def X G c 32 68 (x := "permutations_of") (st := s_permutations_of) rfl rfl)
  have c_gap_lists := ok_gap_lists (P := P) (w := w) (K := K) (mg := mg) (base := base) T (f_def X G c 33 69 (x := "gap_lists") (st := s_gap_lists) rfl rfl)
  have c_laid := ok_laid (P := P) (w := w) (K := K) (mg := mg) (base := base) T (f_def X G c 34 70 (x := "laid") (st := s_laid) rfl rfl) k_Still m_Still c_check_program c_check_many c_permutations_of c_gap_lists c_learnt_of c_with_layout c_Laid c_Still_eq c_Tells_eq nf_SS nf_TS
  have c__law_cell_at := ok_law_cell_at (P := P) (w := w) (K := K) (mg := mg) (base := base) T (f_def X G c 35 71 (x := "_law_cell_at") (st := s__law_cell_at) rfl rfl)
  have c__law_draw := ok_law_draw (P := P) (w := w) (K := K) (mg := mg) (base := base) T (f_def X G c 36 72 (x := "_law_draw") (st := s__law_draw) rfl rfl)
  have c__law_number := ok_law_number (P := P) (w := w) (K := K) (mg := mg) (base := base) T (f_def X G c 37 73 (x := "_law_number") (st := s__law_number) rfl rfl) c__law_draw
  have c__law_next := ok_law_next (P := P) (w := w) (K := K) (mg := mg) (base := base) T (f_def X G c 38 74 (x := "_law_next") (st := s__law_next) rfl rfl) c__law_cell_at c__law_number
  have c__law_operand := ok_law_operand (P := P) (w := w) (K := K) (mg := mg) (base := base) T (f_def X G c 39 75 (x := "_law_operand") (st := s__law_operand) rfl rfl) c__law_next
  have lr0 : C8.Cal P w K mg base 4 "_law_rows" (sp_law_below K 0) [] := DefAt.void (f_def X G c 41 77 (x := "_law_rows") (st := s__law_rows) rfl rfl) (ps := P__law_rows) (fun _ _ _ _ _ _ us hl => match us, hl with | [_, _, _, _, _], _ => rfl) (fun vs H Q E z => by exact z)
  have lw0 := ok_law_row (P := P) (w := w) (K := K) (mg := mg) (base := base) (k := 0) T (f_def X G c 40 76 (x := "_law_row") (st := s__law_row) rfl rfl) c__law_next c__law_operand lr0
  have lr1 := ok_law_rows (P := P) (w := w) (K := K) (mg := mg) (base := base) (k := 0) T (f_def X G c 41 77 (x := "_law_rows") (st := s__law_rows) rfl rfl) lw0
  have lw1 := ok_law_row (P := P) (w := w) (K := K) (mg := mg) (base := base) (k := 1) T (f_def X G c 40 76 (x := "_law_row") (st := s__law_row) rfl rfl) c__law_next c__law_operand lr1
  have lr2 := ok_law_rows (P := P) (w := w) (K := K) (mg := mg) (base := base) (k := 1) T (f_def X G c 41 77 (x := "_law_rows") (st := s__law_rows) rfl rfl) lw1
  have lw2 := ok_law_row (P := P) (w := w) (K := K) (mg := mg) (base := base) (k := 2) T (f_def X G c 40 76 (x := "_law_row") (st := s__law_row) rfl rfl) c__law_next c__law_operand lr2
  have lr3 := ok_law_rows (P := P) (w := w) (K := K) (mg := mg) (base := base) (k := 2) T (f_def X G c 41 77 (x := "_law_rows") (st := s__law_rows) rfl rfl) lw2
  have lw3 := ok_law_row (P := P) (w := w) (K := K) (mg := mg) (base := base) (k := 3) T (f_def X G c 40 76 (x := "_law_row") (st := s__law_row) rfl rfl) c__law_next c__law_operand lr3
  have lr4 := ok_law_rows (P := P) (w := w) (K := K) (mg := mg) (base := base) (k := 3) T (f_def X G c 41 77 (x := "_law_rows") (st := s__law_rows) rfl rfl) lw3
  have c__law_program := ok_law_program (P := P) (w := w) (K := K) (mg := mg) (base := base) T (f_def X G c 42 78 (x := "_law_program") (st := s__law_program) rfl rfl) c__law_next lr4
  have c__law_longer := ok_law_longer (P := P) (w := w) (K := K) (mg := mg) (base := base) T (f_def X G c 44 80 (x := "_law_longer") (st := s__law_longer) rfl rfl)
  have c__law_handings := ok_law_handings (P := P) (w := w) (K := K) (mg := mg) (base := base) T (f_def X G c 43 79 (x := "_law_handings") (st := s__law_handings) rfl rfl) c__law_longer
  have c__law_part := ok_law_part (P := P) (w := w) (K := K) (mg := mg) (base := base) T (f_def X G c 45 81 (x := "_law_part") (st := s__law_part) rfl rfl)
  have c__law_moved := ok_law_moved (P := P) (w := w) (K := K) (mg := mg) (base := base) T (f_def X G c 57 93 (x := "_law_moved") (st := s__law_moved) rfl rfl)
  have c__law_lays := ok_law_lays (P := P) (w := w) (K := K) (mg := mg) (base := base) T (f_def X G c 60 96 (x := "_law_lays") (st := s__law_lays) rfl rfl)
  have lm0 : C8.Cal P w K mg base 1 "_law_many" (sp_law_many 0) [] := DefAt.void (f_def X G c 46 82 (x := "_law_many") (st := s__law_many) rfl rfl) (ps := P__law_many) (fun _ _ _ _ _ _ us hl => match us, hl with | [_], _ => rfl) (fun vs H Q E z => by obtain ⟨_, _, _, _, _, z0, _⟩ := z; exact absurd z0 (Nat.lt_irrefl 0))
  have lm1 := ok_law_many (P := P) (w := w) (K := K) (mg := mg) (base := base) (m := 0) T (f_def X G c 46 82 (x := "_law_many") (st := s__law_many) rfl rfl) lm0
  have lm2 := ok_law_many (P := P) (w := w) (K := K) (mg := mg) (base := base) (m := 1) T (f_def X G c 46 82 (x := "_law_many") (st := s__law_many) rfl rfl) lm1
  have lm3 := ok_law_many (P := P) (w := w) (K := K) (mg := mg) (base := base) (m := 2) T (f_def X G c 46 82 (x := "_law_many") (st := s__law_many) rfl rfl) lm2
  have lm4 := ok_law_many (P := P) (w := w) (K := K) (mg := mg) (base := base) (m := 3) T (f_def X G c 46 82 (x := "_law_many") (st := s__law_many) rfl rfl) lm3
  have c__law_worth := ok_law_worth (P := P) (w := w) (K := K) (mg := mg) (base := base) T (f_def X G c 49 85 (x := "_law_worth") (st := s__law_worth) rfl rfl)
  have c__law_deed := ok_law_deed (P := P) (w := w) (K := K) (mg := mg) (base := base) T (f_def X G c 53 89 (x := "_law_deed") (st := s__law_deed) rfl rfl)
  have c__law_due := ok_law_due (P := P) (w := w) (K := K) (mg := mg) (base := base) T (f_def X G c 50 86 (x := "_law_due") (st := s__law_due) rfl rfl)
  have c__law_cell := ok_law_cell (P := P) (w := w) (K := K) (mg := mg) (base := base) T (f_def X G c 52 88 (x := "_law_cell") (st := s__law_cell) rfl rfl)
  have c__law_todo := ok_law_todo (P := P) (w := w) (K := K) (mg := mg) (base := base) T (f_def X G c 47 83 (x := "_law_todo") (st := s__law_todo) rfl rfl) lm4
  have c__law_turn := ok_law_turn (P := P) (w := w) (K := K) (mg := mg) (base := base) T (f_def X G c 51 87 (x := "_law_turn") (st := s__law_turn) rfl rfl) lm4 c__law_todo
  have c__law_done := ok_law_done (P := P) (w := w) (K := K) (mg := mg) (base := base) T (f_def X G c 54 90 (x := "_law_done") (st := s__law_done) rfl rfl) c__law_worth c__law_cell c__law_deed
  have c__law_begun := ok_law_begun (P := P) (w := w) (K := K) (mg := mg) (base := base) T (f_def X G c 48 84 (x := "_law_begun") (st := s__law_begun) rfl rfl) c__law_todo
  have c__law_ahead := ok_law_ahead (P := P) (w := w) (K := K) (mg := mg) (base := base) T (f_def X G c 55 91 (x := "_law_ahead") (st := s__law_ahead) rfl rfl) c__law_due c__law_turn c__law_worth c__law_done
  have c__law_run := ok_law_run (P := P) (w := w) (K := K) (mg := mg) (base := base) T (f_def X G c 56 92 (x := "_law_run") (st := s__law_run) rfl rfl) c__law_begun c__law_due c__law_ahead c__law_turn c__law_worth c__law_done
  have c__law_is_short := ok_law_is_short (P := P) (w := w) (K := K) (mg := mg) (base := base) T (f_def X G c 58 94 (x := "_law_is_short") (st := s__law_is_short) rfl rfl) c__law_handings c__law_run
  have c__law_is_still := ok_law_is_still (P := P) (w := w) (K := K) (mg := mg) (base := base) T (f_def X G c 59 95 (x := "_law_is_still") (st := s__law_is_still) rfl rfl) c__law_handings c__law_run c__law_part
  exact ok_law (P := P) (w := w) (K := K) (mg := mg) (base := base) T F nf_LL c__law_next c__law_program c__law_is_short c_moved c__law_moved c__law_lays c__law_is_still c_Laid c_laid c_Laid_eq
end
end NW
/-! ## The law holds -/
open PySem PySem.W PySem.Calls PyProof.Rows
theorem PySem.Challenge.cw_nowatcher_k33_whole_lines_holds : PySem.Challenge.rw_nowatcher_k33_whole_lines.Holds := by
  w_on; o_law
  refine HandSHeadRun.head_any (r := OpenLaw.row PySem.Challenge.rw_nowatcher_k33_whole_lines) (q := view (OpenLaw.row PySem.Challenge.rw_nowatcher_k33_whole_lines).prog [106]) (H := NW.hookP NW.hPt) (ob := NW.obP NW.hPt) (M := 20000) (loose := NW.hLoose) (d := HandSHeadRun.topDef (OpenLaw.row PySem.Challenge.rw_nowatcher_k33_whole_lines).prog 106) (kwd := []) (NW.obP_eq NW.hPt)
    (by kernel_rfl) (fun s => by kernel_rfl) NW.hRun (by kernel_rfl) (by kernel_rfl) (by kernel_rfl) (by rfl) (by first | assumption | decide +kernel) (by decide +kernel) ⟨rfl, rfl, rfl, rfl, rfl, by decide +kernel⟩ ?hw ?hc
  case hw => w_witness2
  case hc =>
    refine NW.g_walk (l := PySem.Challenge.rw_nowatcher_k33_whole_lines) (k := 19) (x := "_law_script") rfl (by decide) (by kernel_rfl) ⟨rfl, by decide, by decide⟩ ?F
    intro w mg fa h Y G hmg0
    obtain ⟨K, kin, c⟩ := Y
    have hmg : mg ("law" : PySem.Str) = some (.ref fa) := by
      have e : (HandSHeadRun.topDef (OpenLaw.row PySem.Challenge.rw_nowatcher_k33_whole_lines).prog 106).name = ("law" : PySem.Str) := by kernel_rfl
      rw [← e]
      exact hmg0
    obtain ⟨fd, hb, hF⟩ := NW.hLaw (P := (PySem.Challenge.rw_nowatcher_k33_whole_lines).prog) (w := w) kin G hmg c
    exact ⟨K, fd, NW.sp_law K, kin, hb, fun H a ns sq => ⟨a, ns, rfl, sq, fun _ => rfl⟩, fun b0 _ _ => hF b0⟩
