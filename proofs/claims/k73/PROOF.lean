import PyProof.Rows.All
import Wide.All
import OpenK.AllK
import Wide.FinOn
import KE.SortData
import HandS.ForMost
import HandS.Defaults
import HandS.Evl
import HandS.Star
import HandS.Property
import HandS.Zip
import HandS.Deep
import HandS.TupAny
import HandS.Conv
import HandS.IsInst
import HandS.More
import HandS.Wide
import HandS.GenCall
import HandS.GenList
import PySem.Challenge.RW_lookscan_k73_whole_wider_boxes_need_no_f
import HandS.TupMul
import KE.GoesEnum
import KE.KDictSum
import KE.KDictWalk
import KE.KDictCopyH
import PyProof.TupleOfSeq
import HandS.SortInts
import KE.KStateDown
import HandS.Head0
import HandS.Head1
import HandS.Head2
import HandS.HeadEnd
import HandS.HeadHook1
import HandS.HeadHook2
set_option Elab.async false
set_option linter.all false
set_option maxRecDepth 100000
/-! Lookscan: the common ground. -/
namespace Lk
open PySem PySem.Spec PyProof.Rows L2 Evl

/-! ### the text by places -/
def top (i : Nat) : Stmt := PySem.Challenge.pw_lookscan_k73_whole_wider_boxes_need_no_f.main.body.getD i (.Pass ⟨0, 0, 0, 0⟩)
/-- the def st stands behind the top as the module's name x -/
def Df (K : PySem.W.Frag) (mg : Str → Option Value) (x : Str) (st : Stmt) : Prop :=
  ∃ f fd, FunD K x x (defArgs st) (defBody st) (defScope st) [] [] f fd ∧ mg x = some (.ref f)
/-- a def that is called by its name keeps the promise sp -/
def Ok (P : Program) (w : World) (K : PySem.W.Frag) (mg : Str → Option Value) (base : Heap) (k : Nat) (x : Str) (ps : List Str) (sp : Sp) : Prop :=
  ∃ f fd, mg x = some (.ref f) ∧ PySem.W.keepIn K (.ref f) = true ∧ Binds K fd ps [] ∧ FnOk P w K mg base CX0 k f fd ps sp
theorem Ok.mono {P : Program} {w : World} {K : PySem.W.Frag} {mg : Str → Option Value} {base : Heap} {j k : Nat} {x : Str} {ps : List Str} {sp : Sp} (h : Ok P w K mg base j x ps sp) (hjk : j ≤ k) : Ok P w K mg base k x ps sp := by
  obtain ⟨f, fd, g, kp, b, F⟩ := h
  exact ⟨f, fd, g, kp, b, F.mono hjk⟩
theorem pe_do {X : Cx} {k : Nat} {x : Str} {ps : List Str} {sp : Sp} {e : Expr} {es : List Expr} {t : TA} {p pos : Pos} (h : Ok X.prog X.w X.K X.mg X.base k x ps sp) (hr : Room k X.A) (hg : Gl X x) (ha : PA X (e :: es) t)
    (hdb : (x == ("__debug__" : Str)) = false := by decide) (he : starEach (e :: es) X.env = (false, eval e X.env) :: starEach es X.env := by rfl) (hpl : (backTo pos (starEach es X.env)).any (·.1) = false := by rfl) :
    PE X (.Call (.Name x p) (e :: es) [] pos) (tCall sp [] E0 t) := by
  obtain ⟨f, fd, g, kp, b, F⟩ := h
  exact pe_call F hr hg g kp b .nil pass0 ha hdb he hpl
/-- a def of the text keeps its promise, by its body -/
theorem ok_of {P : Program} {w : World} {K : PySem.W.Frag} {mg : Str → Option Value} {base : Heap} {x : Str} {st : Stmt} {N ps : List Str} {k : Nat} {sp : Sp} (D : Df K mg x st) (S : FnScope N ps (defScope st)) (len : ∀ vs H Q E, sp vs H Q E → vs.length = ps.length)
    (hb : ∀ (dV kV doc pm : Value) (an : Option Addr) (cdv ct : Value) (us : List Value), us.length = ps.length → dV = .none → bindArgs (PySem.W.fnOf x x (defArgs st) (defBody st) (defScope st) dV kV doc pm an cdv ct) ⟨us, []⟩ = pure (ps.zip us))
    (hbody : ∀ (f : Addr) (cdv : Value) (A : Around) (outer : List Env) (s : Shared) (H : Hp) (vs : List V) (Q : VK) (E : XK), Room k (A.deeper (envOfC x (defScope st) s.heap.objs.size f cdv)) → sp vs H Q E →
      ∃ t, PSs (cxOf CX0 P w K mg base N x (defScope st) f cdv A outer s H E).nox (defBody st) t ∧ t { nx := fun _ H' => Q .non H', rt := Q } (start N vs) H) : Ok P w K mg base (k + 1) x ps sp := by
  obtain ⟨f, fd, F, g⟩ := D
  refine ⟨f, fd, g, F.kp, ?_, F.ok S len fun cdv A outer s H vs Q E hr h => ?_⟩
  · obtain ⟨oc, od, dV, kV, doc, pm, an, cdv, ct, osl, rfl, lk, hcd, hD, hK⟩ := F.ex
    rcases hD with ⟨_, rfl⟩ | ⟨z, _⟩
    · exact .all fun us hl => hb _ _ _ _ _ _ _ us hl rfl
    · exact absurd rfl z
  · obtain ⟨t, h1, h2⟩ := hbody f cdv A outer s H vs Q E hr h
    exact ⟨t, h1.nox, h2⟩

/-! ### the built-in names are free -/
structure Bt (mg : Str → Option Value) : Prop where
  len : mg "len" = none
  isinstance : mg "isinstance" = none
  tuple : mg "tuple" = none
  list : mg "list" = none
  int : mg "int" = none
  bool : mg "bool" = none
  range : mg "range" = none
  zip : mg "zip" = none
  enumerate : mg "enumerate" = none
  sorted : mg "sorted" = none
  sum : mg "sum" = none
  max : mg "max" = none
  min : mg "min" = none
  abs : mg "abs" = none
  all : mg "all" = none
  any : mg "any" = none

/-! ### heaps -/
/-- the tuples stand -/
def Tx (H H' : Hp) : Prop := ∀ a xs, H a = some (.tup xs) → H' a = some (.tup xs)
theorem Tx.refl (H : Hp) : Tx H H := fun _ _ h => h
theorem Tx.trans {H H1 H2 : Hp} (a : Tx H H1) (b : Tx H1 H2) : Tx H H2 := fun x o h => b x o (a x o h)
theorem tx_of {H H' : Hp} (e : Ex H H') : Tx H H' := fun a xs h => e a _ h
theorem Tx.lst {H : Hp} {D : Addr} {ys zs : List V} (h : H D = some (.lst ys)) : Tx H (upd H D (.lst zs)) := fun a xs e => by
  rw [upd_ne (ne_of e h (by intro q; cases q))]
  exact e
theorem Tx.new {H : Hp} {D : Addr} {o : HO} (h : H D = none) : Tx H (upd H D o) := tx_of (Ex.new h)
/-- a tuple of these, a list of these -/
def Tp (H : Hp) (v : V) (xs : List V) : Prop := ∃ a, v = .ref a ∧ H a = some (.tup xs)
def Lp (H : Hp) (v : V) (xs : List V) : Prop := ∃ a, v = .ref a ∧ H a = some (.lst xs)
/-- a tuple of ints -/
def Pl (H : Hp) (v : V) (p : List Int) : Prop := Tp H v (p.map V.int)
theorem Tp.tx {H H' : Hp} {v : V} {xs : List V} (e : Tx H H') (h : Tp H v xs) : Tp H' v xs := by
  obtain ⟨a, e1, e2⟩ := h
  exact ⟨a, e1, e a _ e2⟩
theorem Pl.tx {H H' : Hp} {v : V} {p : List Int} (e : Tx H H') (h : Pl H v p) : Pl H' v p := Tp.tx e h
theorem Lp.ex {H H' : Hp} {v : V} {xs : List V} (e : Ex H H') (h : Lp H v xs) : Lp H' v xs := by
  obtain ⟨a, e1, e2⟩ := h
  exact ⟨a, e1, e a _ e2⟩
theorem Tp.new {H : Hp} {a : Addr} {xs : List V} : Tp (upd H a (.tup xs)) (.ref a) xs := ⟨a, rfl, upd_same⟩
theorem Lp.new {H : Hp} {a : Addr} {xs : List V} : Lp (upd H a (.lst xs)) (.ref a) xs := ⟨a, rfl, upd_same⟩
theorem map_int_inj {p q : List Int} (h : p.map V.int = q.map V.int) : p = q := by
  have e := congrArg (List.map fun v => match v with | V.int i => i | _ => 0) h
  rw [List.map_map, List.map_map] at e
  have i1 : ((fun v => match v with | V.int i => i | _ => 0) ∘ V.int) = (id : Int → Int) := by funext z; rfl
  rw [i1, List.map_id, List.map_id] at e
  exact e
theorem Tp.uniq {H : Hp} {v : V} {xs ys : List V} (h : Tp H v xs) (h' : Tp H v ys) : xs = ys := by
  obtain ⟨a, rfl, e2⟩ := h
  obtain ⟨b, e, e3⟩ := h'
  cases e
  rw [e2] at e3
  exact HO.tup.inj (Option.some.inj e3)
theorem Pl.uniq {H : Hp} {v : V} {p q : List Int} (h : Pl H v p) (h' : Pl H v q) : p = q := map_int_inj (Tp.uniq h h')

/-! ### what is walked -/
structure Feeds (J : It) (n : Nat) (S : Nat → V → Hp → Prop) (H1 : Hp) : Prop where
  go : ∀ i H, i < n → Ex H1 H → J.go i H
  stop : ∀ H, Ex H1 H → J.stop n H
  yld : ∀ i H x H', i < n → Ex H1 H → J.yld i H x H' → Ex H H' ∧ S i x H'
section
variable {K : PySem.W.Frag} {H1 : Hp} {a b : Addr} {xs ys : List V}
theorem feeds_list (h : SqL K H1 a xs) : Feeds (Itl K a) xs.length (fun i x _ => xs[i]? = some x) H1 where
  go := fun i H hi e => ⟨xs, xs[i], ex_l e h, by simp [hi]⟩
  stop := fun H e => ⟨xs, ex_l e h, Nat.le_refl _⟩
  yld := fun i H x H' hi e y => by
    obtain ⟨rfl, y⟩ := y
    exact ⟨Ex.refl _, y xs (ex_l e h)⟩
theorem feeds_tup (h : SqT K H1 a xs) : Feeds (Itt K a) xs.length (fun i x _ => xs[i]? = some x) H1 where
  go := fun i H hi e => ⟨xs, xs[i], ex_t e h, by simp [hi]⟩
  stop := fun H e => ⟨xs, ex_t e h, Nat.le_refl _⟩
  yld := fun i H x H' hi e y => by
    obtain ⟨rfl, y⟩ := y
    exact ⟨Ex.refl _, y xs (ex_t e h)⟩
theorem feeds_range (lo : Int) (n : Nat) : Feeds (Itr lo n) n (fun i x _ => x = .int (lo + i)) H1 where
  go := fun i H hi e => hi
  stop := fun H e => Nat.le_refl _
  yld := fun i H x H' hi e y => by
    obtain ⟨rfl, y⟩ := y
    exact ⟨Ex.refl _, y⟩
theorem feeds_zipT (h : SqT K H1 a xs) (h' : SqT K H1 b ys) (hl : xs.length = ys.length) : Feeds (RZ.ItzT K a b) xs.length (fun i v H => ∃ x y, Tp H v [x, y] ∧ xs[i]? = some x ∧ ys[i]? = some y) H1 where
  go := fun i H hi e => ⟨xs, ys, xs[i], ys[i]'(by omega), ex_t e h, ex_t e h', by simp [hi], by simp⟩
  stop := fun H e => ⟨xs, ys, ex_t e h, ex_t e h', .inl (Nat.le_refl _)⟩
  yld := fun i H x H' hi e y => by
    obtain ⟨T, u, v, rfl, hT, rfl, z1, z2⟩ := y
    exact ⟨Ex.new hT, u, v, .new, z1 xs (ex_t e h), z2 ys (ex_t e h')⟩
theorem feeds_zipL (h : SqL K H1 a xs) (h' : SqL K H1 b ys) : Feeds (Itz K a b) (min xs.length ys.length) (fun i v H => ∃ x y, Tp H v [x, y] ∧ xs[i]? = some x ∧ ys[i]? = some y) H1 where
  go := fun i H hi e => ⟨xs, ys, xs[i]'(by omega), ys[i]'(by omega), ex_l e h, ex_l e h', by simp, by simp⟩
  stop := fun H e => ⟨xs, ys, ex_l e h, ex_l e h', by omega⟩
  yld := fun i H x H' hi e y => by
    obtain ⟨T, u, v, rfl, hT, rfl, z1, z2⟩ := y
    exact ⟨Ex.new hT, u, v, .new, z1 xs (ex_l e h), z2 ys (ex_l e h')⟩
theorem feeds_enum (h : SqL K H1 a xs) : Feeds (Ite K a) xs.length (fun i v H => ∃ x, Tp H v [.int (i : Nat), x] ∧ xs[i]? = some x) H1 where
  go := fun i H hi e => ⟨xs, xs[i], ex_l e h, by simp [hi]⟩
  stop := fun H e => ⟨xs, ex_l e h, Nat.le_refl _⟩
  yld := fun i H x H' hi e y => by
    obtain ⟨T, u, rfl, hT, rfl, z1⟩ := y
    exact ⟨Ex.new hT, u, .new, z1 xs (ex_l e h)⟩
end

/-! ### a comprehension over what is walked -/
/-- the value that te comes to has P -/
def EvP (te : TE) (σ : L2.St) (H : Hp) (P : V → Hp → Prop) : Prop := ∀ Q : VK, (∀ v H2, Ex H H2 → P v H2 → Q v H2) → te σ H Q
def EvB (tt : TT) (σ : L2.St) (H : Hp) (b : Bool) : Prop := ∀ Q : Bool → Hp → Prop, (∀ H2, Ex H H2 → Q b H2) → tt σ H Q
theorem evB_yes {σ : L2.St} {H : Hp} : EvB tYes σ H true := fun Q q => q H (Ex.refl H)
/-- the new list's items, by the turns that gave them -/
abbrev Each (R : Nat → V → Hp → Prop) (ys : List V) (is : List Nat) (H : Hp) : Prop := Paired (fun y i => R i y H) ys is
theorem lc_feeds {J : It} {H1 : Hp} {n : Nat} {S : Nat → V → Hp → Prop} {g : TG} {tt : TT} {te : TE} {vs : List Nat} {σ : L2.St} {Q : VK} (f : Nat → Bool) (R : Nat → V → Hp → Prop)
    (F : Feeds J n S H1) (hn : n < sizeLine) (hR : ∀ i v H H', Tx H H' → R i v H → R i v H')
    (turn : ∀ i x H, i < n → Ex H1 H → S i x H → ∀ Q2 : L2.St → Hp → Prop, (∀ σ2 H2, Ex H H2 → wipe σ2 vs = wipe σ vs → EvB tt σ2 H2 (f i) → (f i = true → ∀ H3, Ex H2 H3 → EvP te σ2 H3 (R i)) → Q2 σ2 H2) → g x (wipe σ vs) H Q2)
    (hq : ∀ D ys H', H1 D = none → Ex H1 H' → H' D = some (.lst ys) → Each R ys ((List.range n).filter f) H' → Q (.ref D) H') :
    ∀ D, H1 D = none → ∃ W : Nat → Nat → Hp → Prop, (∃ m, W 0 m (upd H1 D (.lst []))) ∧ ∀ i m H, W i m H →
      (J.stop i H ∧ Q (.ref D) H) ∨ (J.go i H ∧ ∃ Nx : Hp → Prop, (∀ H', Nx H' → ∃ m', m' < m ∧ W (i + 1) m' H') ∧ ∀ x H', J.yld i H x H' → g x (wipe σ vs) H' fun σ2 H2 => wipe σ2 vs = wipe σ vs ∧ tt σ2 H2 fun b H3 =>
        if b = true then te σ2 H3 fun y H4 => ∃ acc, H4 D = some (.lst acc) ∧ acc.length < sizeLine ∧ Nx (upd H4 D (.lst (acc ++ [y]))) else Nx H3) := by
  intro D hD
  have step : ∀ {i : Nat} {ys : List V} {H : Hp}, Each R ys ((List.range i).filter f) H → ys.length ≤ i := fun {i ys H} h => by
    rw [Paired.length h]
    have := List.length_filter_le f (List.range i)
    rw [List.length_range] at this
    exact this
  refine ⟨fun i m H => m = n - i ∧ i ≤ n ∧ Ex H1 H ∧ ∃ ys, H D = some (.lst ys) ∧ Each R ys ((List.range i).filter f) H, ⟨n, rfl, Nat.zero_le _, Ex.new hD, [], upd_same, .nil⟩, ?_⟩
  rintro i m H ⟨rfl, hi, e, ys, hy, each⟩
  by_cases hlt : i < n
  · refine .inr ⟨F.go i H hlt e, fun H' => i + 1 ≤ n ∧ Ex H1 H' ∧ ∃ ys, H' D = some (.lst ys) ∧ Each R ys ((List.range (i + 1)).filter f) H', fun H' h => ⟨n - (i + 1), by omega, rfl, h⟩, fun x H' y => ?_⟩
    obtain ⟨e2, hS⟩ := F.yld i H x H' hlt e y
    refine turn i x H' hlt (e.trans e2) hS _ fun σ2 H2 e3 hw hb he => ⟨hw, hb _ fun H3 e4 => ?_⟩
    cases hf : f i with
    | false =>
      rw [if_neg Bool.false_ne_true]
      have e5 := (e2.trans e3).trans e4
      refine ⟨hlt, e.trans e5, ys, e5 D _ hy, ?_⟩
      rw [List.range_succ, List.filter_append, List.filter_cons, if_neg (by rw [hf]; decide), List.filter_nil, List.append_nil]
      exact Paired.mapP each fun y i h => hR i y _ _ (tx_of e5) h
    | true =>
      rw [if_pos rfl]
      refine he hf H3 e4 _ fun v H4 e6 hv => ?_
      have e5 := ((e2.trans e3).trans e4).trans e6
      have h4 := e5 D _ hy
      refine ⟨ys, h4, by have := step each; omega, hlt, (e.trans e5).mut hD, ys ++ [v], upd_same, ?_⟩
      rw [List.range_succ, List.filter_append, List.filter_cons, if_pos hf, List.filter_nil]
      exact Paired.snoc (Paired.mapP each fun y i h => hR i y _ _ ((tx_of e5).trans (Tx.lst h4)) h) (hR i v _ _ (Tx.lst h4) hv)
  · have ei : i = n := by omega
    subst ei
    exact .inl ⟨F.stop H e, hq D ys H hD e hy each⟩
/-- the items told by their turns -/
theorem each_eq {R : Nat → V → Hp → Prop} {v : Nat → V} {H : Hp} (h : ∀ i y, R i y H → y = v i) : ∀ {ys : List V} {is : List Nat}, Each R ys is H → ys = is.map v
  | _, _, .nil => rfl
  | _, _, .cons r t => by rw [h _ _ r, each_eq h t]; rfl
theorem filter_yes (n : Nat) : (List.range n).filter (fun _ => true) = List.range n := by
  rw [List.filter_eq_self]
  intro _ _
  rfl
/-- the target is a name -/
theorem turn_name {i j : Nat} {x : V} {vs : List Nat} {σ : L2.St} {H : Hp} {f : Bool} {tt : TT} {te : TE} {R : V → Hp → Prop} (hw : wipe ((wipe σ vs).set j (some x)) vs = wipe σ vs)
    (hb : EvB tt ((wipe σ vs).set j (some x)) H f) (he : f = true → ∀ H3, Ex H H3 → EvP te ((wipe σ vs).set j (some x)) H3 R) (Q2 : L2.St → Hp → Prop)
    (k : ∀ σ2 H2, Ex H H2 → wipe σ2 vs = wipe σ vs → EvB tt σ2 H2 f → (f = true → ∀ H3, Ex H2 H3 → EvP te σ2 H3 R) → Q2 σ2 H2) : gName j x (wipe σ vs) H Q2 :=
  k _ _ (Ex.refl H) hw hb he
end Lk

/-! Lookscan: further rules. -/
namespace Lk
open PySem PySem.Spec PyProof.Rows L2 Evl
theorem hu65 {k : Nat} {A : Around} (hr : Room k A) : A.units + 65 < cLine := by have := hr.un; omega
/-! ### (a,) * n, n from 0 on -/
theorem mul_one (l : Addr) (items : Array Value) (n : Nat) (dd : Option Addr) (sl : Array (Option Value)) (u : Tok) :
    Meets (Builtin.«tuple.__mul__» ⟨[.ref l, .int 1 u], []⟩) (fun _ R s => s.heap.get? l = some { cls := .type "tuple", dict := dd, data := .seq items n, slots := sl } ∧ R (.ok (.ret (Value.ref l))) s) :=
  .of_wp fun prog w A R s h => by
    obtain ⟨hp, g, d, tk, os⟩ := s
    obtain ⟨hl, h⟩ := h
    have f1 := AutoSeq1.idx_int
    have f2 := AutoSeq1.sub_tuple_tuple
    have c : (items.isEmpty || ((1 : Int) == 1)) = true := by simp
    wp_walk using wpAny_loadPart' hl
    first
      | exact ⟨_, rfl, h⟩
      | (refine wpAny_ite_true (decide_eq_true c) ?_; wp_walk using wpAny_loadPart' hl; exact ⟨_, rfl, h⟩)
theorem mul_zero (l : Addr) (items : Array Value) (n : Nat) (dd : Option Addr) (sl : Array (Option Value)) (u : Tok) (hne : items.isEmpty = false) :
    Meets (Builtin.«tuple.__mul__» ⟨[.ref l, .int 0 u], []⟩) (fun _ R s => s.heap.get? l = some { cls := .type "tuple", dict := dd, data := .seq items n, slots := sl } ∧
      R (.ok (.ret (Value.ref s.heap.objs.size))) { s with heap := s.heap.push { cls := Value.type "tuple", data := Data.seq #[] }, toks := s.toks }) :=
  .of_wp fun prog w A R s h => by
    obtain ⟨hp, g, d, tk, os⟩ := s
    obtain ⟨hl, h⟩ := h
    have f1 := AutoSeq1.idx_int
    have f2 := AutoSeq1.sub_tuple_tuple
    have c1 : (items.isEmpty || ((0 : Int) == 1)) = false := by rw [hne]; rfl
    wp_walk using wpAny_loadPart' hl
    first
      | exact ⟨_, rfl, h⟩
      | (refine wpAny_ite_false (decide_eq_false (by rw [c1]; exact Bool.false_ne_true)) ?_; wp_walk using wpAny_loadPart' hl; exact ⟨_, rfl, h⟩)
/-- a tuple of at least one item times k -/
def rRepK : R2 := fun x y H Q => ∃ l k xs, x = .ref l ∧ y = .int k ∧ H l = some (.tup xs) ∧ xs ≠ [] ∧ 0 ≤ k ∧ k ≤ 1000 ∧ xs.length ≤ 1000 ∧ ∀ v H', Ex H H' → Tp H' v (List.replicate k.toNat xs).flatten → Q v H'
section
variable {X : Cx}
theorem op_repK : OpR X (binaryOp .Mult) rRepK := by
  intro pins s σ H x y v u Q I rx ry h
  obtain ⟨l, k, xs, rfl, rfl, hT, hne, h1, h2, hz, q⟩ := h
  by_cases hk : 2 ≤ k
  · exact op_repT pins s σ H _ _ _ _ Q I rx ry ⟨l, k, xs, rfl, rfl, SqT.of hT, hne, hk, h2, hz, fun p hp => q _ _ (Ex.new hp) .new⟩
  cases rx
  obtain ⟨t, rfl⟩ := ry
  obtain ⟨its, r, ⟨⟨cls, dd, data, sl⟩, ho, hc, n, hd⟩, hs⟩ := I.tuple (SqT.of hT)
  simp only at hc hd
  subst hc hd
  have hi : its.toArray.isEmpty = false := by
    cases its with
    | nil => exact absurd (List.eq_nil_of_length_eq_zero r.length) hne
    | cons a b => rfl
  have go : ∀ {R : Fin → Shared → Prop}, True := trivial
  rcases (by omega : k = 0 ∨ k = 1) with rfl | rfl
  · refine wpAny_binaryOp_repeat_ref (T := "tuple") (U := "int") (by decide) ⟨_, ho, rfl⟩ (fun s' => typeIs_int s' 0 t) noFill_tuple_mul F.fills_int_mul F.slot_int_rmul repeat_tuple F.slot_int_index.lookup
      (call_meets F.slot_int_rmul (typeIs_int s 0 t) F.entry_int_rmul (F.args_int_rmul_2 _ _) (int_rmul_tuple 0 t l its.toArray n dd sl)
        ⟨ho, rfl, ⟨_, ho, rfl⟩, call_meets F.slot_tuple_mul ⟨_, ho, rfl⟩ F.entry_tuple_mul (F.args_tuple_mul_2 _ _) (mul_zero l its.toArray n dd sl t hi) ⟨ho, ?_⟩⟩)
    refine ⟨.ref s.heap.objs.size, upd H s.heap.objs.size (.tup []), I.laid (t' := s.toks) (fun b ob q => Heap.get?_push_of_some _ q) (Nat.le_refl _) ⟨Nat.zero_le _, [], .nil, IsTup.new _ _⟩, rfl, q _ _ (Ex.new (I.hok.fresh (Nat.le_refl _))) .new⟩
  · refine wpAny_binaryOp_repeat_ref (T := "tuple") (U := "int") (by decide) ⟨_, ho, rfl⟩ (fun s' => typeIs_int s' 1 t) noFill_tuple_mul F.fills_int_mul F.slot_int_rmul repeat_tuple F.slot_int_index.lookup
      (call_meets F.slot_int_rmul (typeIs_int s 1 t) F.entry_int_rmul (F.args_int_rmul_2 _ _) (int_rmul_tuple 1 t l its.toArray n dd sl)
        ⟨ho, rfl, ⟨_, ho, rfl⟩, call_meets F.slot_tuple_mul ⟨_, ho, rfl⟩ F.entry_tuple_mul (F.args_tuple_mul_2 _ _) (mul_one l its.toArray n dd sl t) ⟨ho, ?_⟩⟩)
    refine ⟨.ref l, H, I, rfl, q _ _ (Ex.refl _) ⟨l, rfl, ?_⟩⟩
    rw [hT]
    simp

/-! ### xs.extend(t), t a tuple -/
theorem ext_tup (l : Addr) (items : Array Value) (n : Nat) (b : Addr) (items2 : Array Value) (n2 : Nat) (dd : Option Addr) (sl : Array (Option Value)) (h0 : ¬ (!items.isEmpty && Builtin.List.listTooLong (items.size + items2.size)) = true) (h1 : items.size ≤ sizeLine) (h2 : items.size + items2.size ≤ sizeLine + 1) :
    Meets (Builtin.«list.extend» ⟨[.ref l, .ref b], []⟩) (fun _ R s => s.heap.get? l = some { cls := .type "list", dict := none, data := .seq items n, slots := #[] } ∧ s.heap.get? b = some { cls := .type "tuple", dict := dd, data := .seq items2 n2, slots := sl } ∧
      R (.ok (.ret Value.none)) { s with heap := s.heap.update l (Obj.mapSeq fun x => x ++ items2), toks := s.toks }) :=
  .of_wp fun prog w A R s h => by
    obtain ⟨hp, g, d, tk, os⟩ := s
    obtain ⟨hl, hb, h⟩ := h
    have f1 := AutoSeq1.idx_int
    have f2 := AutoSeq1.sub_tuple_tuple
    have f5 := AutoSeq1.sub_list_tuple
    have f4 := AutoSeq1.sub_tuple_list
    have z : (items ++ items2).size ≤ sizeLine + 1 := by rw [Array.size_append]; exact h2
    wp_walk using (wpAny_updateSeq hl rfl (hz := h1) (_hz' := z)), wpAny_loadPart' hl, wpAny_loadPart' hb
    exact ⟨_, rfl, h⟩
def rExtendT : V → List V → Hp → VK → Prop := fun x vs H Q => ∃ l b xs zs, x = .ref l ∧ vs = [.ref b] ∧ H l = some (.lst xs) ∧ H b = some (.tup zs) ∧ xs.length + zs.length ≤ sizeLine ∧ Q .non (upd H l (.lst (xs ++ zs)))
theorem mt_extendT : MtM X "list.extend" rExtendT := by
  intro pins s σ H x vs v us Q I rx rv h
  obtain ⟨l, b, xs, zs, rfl, rfl, hH, hB, hz, q⟩ := h
  cases rx
  obtain ⟨u, rfl, ru⟩ := rv.one
  cases ru
  obtain ⟨z, its, n, r, hl, e⟩ := I.lstM hH
  obtain ⟨its2, r2, tb, hs2⟩ := I.tuple (SqT.of hB)
  obtain ⟨⟨cls, dd, data, sl⟩, ho, hc, n2, hd⟩ := id tb
  have hl2 := r2.length
  have hsz : its.toArray.size + its2.toArray.size ≤ sizeLine := by rw [List.size_toArray, List.size_toArray]; omega
  have hlong : ¬ (!its.toArray.isEmpty && Builtin.List.listTooLong (its.toArray.size + its2.toArray.size)) = true := by
    rw [notLongL hsz, Bool.and_false]
    exact Bool.false_ne_true
  simp only at hc hd
  subst hc hd
  refine call_meets F.slot_list_extend ⟨_, e, rfl⟩ F.entry_list_extend (F.args_list_extend_2 _ _) (ext_tup l its.toArray n b its2.toArray n2 dd sl hlong (by rw [List.size_toArray]; omega) (by omega)) ⟨e, ho, ?_⟩
  refine ⟨.non, _, I.lset (its' := its ++ its2) hH e (by simp) (r.append r2) ?_, rfl, q⟩
  rw [List.length_append]
  omega

/-! ### enumerate(t), t a tuple -/
theorem enum_newT (l : Addr) (items : Array Value) (n : Nat) (dct : Option Addr) (sl : Array (Option Value)) :
    Meets (Builtin.«enumerate.__new__» ⟨[.type "enumerate", .ref l], []⟩) (fun _ R s => s.heap.get? l = some { cls := .type "tuple", dict := dct, data := .seq items n, slots := sl } ∧
      R (.ok (.ret (.ref (s.heap.push { cls := .type "tuple_iterator", data := .fields #[.ref l, .int 0 0] }).objs.size)))
        { s with heap := (s.heap.push { cls := .type "tuple_iterator", data := .fields #[.ref l, .int 0 0] }).push { cls := .type "enumerate", data := .fields #[.none, .bool false, .ref s.heap.objs.size, rawInt 0, .none, .none] } }) :=
  .of_wp fun prog w A R s h => by
    obtain ⟨hp, g, d, tk, os⟩ := s
    obtain ⟨hl, h⟩ := h
    have hsub := sub_enumerate
    have hT : Heap.IsTuple (Shared.heap ⟨hp, g, d, tk, os⟩) l items := ⟨_, hl, rfl, n, rfl⟩
    wp_walk using AutoSeq1.wpAny_loadPart' hl
    refine wpAny_stack_any fun st => wpAny_pure ?_
    split
    · rename_i c _ _ _ _ _
      cases (c == Value.type "enumerate")
      · wp_walk using AutoSeq1.wpAny_loadPart' hl, wpAny_pyIter_tuple hT
        exact ⟨_, rfl, h⟩
      · wp_walk using AutoSeq1.wpAny_loadPart' hl, wpAny_pyIter_tuple hT
        exact ⟨_, rfl, h⟩
    · wp_walk using AutoSeq1.wpAny_loadPart' hl, wpAny_pyIter_tuple hT
      exact ⟨_, rfl, h⟩
theorem call_enumT {prog : Program} {w : World} {A : Around} {E : Value → Shared → Prop} {s : Shared} {l : Addr} {items : Array Value} {Q : Value → Shared → Prop} (hL : s.heap.IsTuple l items)
    (h : ∀ h', IsEnum h' (s.heap.objs.size + 1) s.heap.objs.size 0 .none → h'.IsTupleIter s.heap.objs.size l 0 →
      (∀ b o, s.heap.get? b = some o → h'.get? b = some o) → Q (.ref (s.heap.objs.size + 1)) { s with heap := h' }) :
    wpAny (model prog w) A (call (.type "enumerate") [.ref l]) Q E s := by
  obtain ⟨⟨c, dct, dt, sl⟩, hl, hc, n, hd⟩ := hL
  simp only at hc hd
  subst hc hd
  refine callType_new F.called_enumerate (by decide) (F.typeCall_enumerate_1 _) (F.newCall_enumerate_1 _) (fun obj => F.args_object_init_2 obj _) F.entry_enumerate_new (enum_newT l items n dct sl) ⟨hl, ?_⟩
  have hz : (s.heap.push { cls := .type "tuple_iterator", data := .fields #[.ref l, .int 0 0] }).objs.size = s.heap.objs.size + 1 := Heap.size_push ..
  have he : IsEnum ((s.heap.push { cls := .type "tuple_iterator", data := .fields #[.ref l, .int 0 0] }).push
      { cls := .type "enumerate", data := .fields #[.none, .bool false, .ref s.heap.objs.size, rawInt 0, .none, .none] }) (s.heap.objs.size + 1) s.heap.objs.size 0 .none := by
    have q := Heap.get?_push_size (s.heap.push { cls := .type "tuple_iterator", data := .fields #[.ref l, .int 0 0] })
      (o := { cls := .type "enumerate", data := .fields #[.none, .bool false, .ref s.heap.objs.size, rawInt 0, .none, .none] }) rfl
    rw [hz] at q
    exact q
  show _ ∧ _
  rw [hz]
  exact ⟨⟨_, he, rfl⟩, h _ he ⟨_, Heap.get?_push_of_some _ (Heap.get?_push_size _ rfl), rfl, rfl⟩ fun b o x => Heap.get?_push_of_some _ (Heap.get?_push_of_some _ x)⟩
/-- the tuple at a, each item in a new pair with its number -/
def IteT (K : PySem.W.Frag) (a : Addr) : It :=
  ⟨fun i H => ∃ xs, SqT K H a xs ∧ i < xs.length, fun i H v H' => ∃ T x, v = .ref T ∧ H T = none ∧ H' = upd H T (.tup [.int (i : Nat), x]) ∧ ∀ xs, SqT K H a xs → xs[i]? = some x, fun i H => ∃ xs, SqT K H a xs ∧ xs.length = i⟩
theorem turn_enumT {P : Program} {w : World} {K : PySem.W.Frag} {elts : List Expr} {kk : Nat} {tpos : Pos} (a e it : Addr) (hai : a ≠ it) (hae : a ≠ e) :
    Turn P w K (.Tuple elts kk tpos) (IteT K a) [e, it] e (fun i h => (∃ old, IsEnum h e it ((i : Nat) : Int) old) ∧ h.IsTupleIter it a i ∧ e ≠ it) where
  mem := List.mem_cons_self
  obj := fun i h st b hb => by
    obtain ⟨⟨old, he⟩, ⟨o, ho, hc, hd⟩, _⟩ := st
    rcases List.mem_cons.mp hb with rfl | hb
    · exact ⟨_, he, fun v q => nomatch q⟩
    · rw [List.mem_singleton.mp hb]
      exact ⟨o, ho, fun v q => by rw [hd] at q; cases q⟩
  keep := fun i h h' st k => let ⟨⟨old, he⟩, hi, hne⟩ := st; ⟨⟨old, k e (by simp) _ he⟩, hi.at fun o q => k it (by simp) o q, hne⟩
  item := by
    intro X hP hw hK hc i pins s σ H E I hf st hg
    subst hP hw hK
    obtain ⟨⟨old, he⟩, hit, hne⟩ := st
    obtain ⟨xs, hq, hx⟩ := hg
    obtain ⟨its, rv, p, hz⟩ := I.tuple hq
    have hl := rv.length
    have hel : e < s.heap.objs.size := Heap.lt_size he
    have hil : it < s.heap.objs.size := by obtain ⟨_, q, _⟩ := hit; exact Heap.lt_size q
    refine wpAny_pyNext_enum_itemC (Draws.tuple (A := X.A.in1) (I.ok.hd hc) it a hai its.toArray) he ⟨hit, p⟩ (by rw [List.size_toArray]; omega) hne (by simp [Ne.symm hae, hne]) fun x h' tk hx2 ho st' hT hsz hk => ?_
    refine ⟨_, rfl, wpAny_letOwnedTupleGo_enum (s := { s with heap := h', toks := tk + 1 }) ho fun h'' he' sb => ?_⟩
    have hu : its[i]? = some x := by simpa using hx2
    obtain ⟨y, hy⟩ : ∃ y, xs[i]? = some y := ⟨xs[i], by simp [hx]⟩
    obtain ⟨u, hu2, ru⟩ := rv.get hy
    rw [hu] at hu2
    cases hu2
    have hT2 : h''.get? s.heap.objs.size = some { cls := .type "tuple", data := .seq #[.int i tk, x] } := (sb.2 _ (Nat.ne_of_gt hel)).trans hT
    have new : ObjOk X.prog X.w (upd H s.heap.objs.size (.tup [.int (i : Nat), y])) h'' s.heap.objs.size (.tup [.int (i : Nat), y]) :=
      ⟨by show 2 ≤ sizeLine; decide, [.int i tk, x], .cons ⟨_, rfl⟩ (.cons ru .nil), ⟨_, hT2, rfl, _, rfl⟩⟩
    have nb : ∀ b, b ∉ [e, it] → b ≠ e ∧ b ≠ it := fun b hb => ⟨fun z => hb (by rw [z]; simp), fun z => hb (by rw [z]; simp)⟩
    have I1 : Inv X pins σ (upd H s.heap.objs.size (.tup [.int (i : Nat), y])) { s with heap := h'', toks := tk + 1 } :=
      I.turnedNew (ch := [e, it]) (fun b ob hb q => (sb.2 b (nb b hb).1).trans (hk b ob (nb b hb).1 (nb b hb).2 q)) hf (Nat.le_refl _) new
    refine ⟨.ref s.heap.objs.size, _, I1, rfl, ⟨_, y, rfl, I.hok.fresh (Nat.le_refl _), rfl, fun ys hy2 => by rw [I.tuple_inj hy2 hq]; exact hy⟩, ⟨⟨x, ?_⟩, st'.1.at fun o q => (sb.2 it (Ne.symm hne)).trans q, hne⟩, fun b hb => ?_⟩
    · have e1 : ((i + 1 : Nat) : Int) = (i : Int) + 1 := by omega
      rw [e1]
      exact he'
    · have hb' : b < s.heap.objs.size := by
        rcases List.mem_cons.mp hb with rfl | hb
        · exact hel
        · rw [List.mem_singleton.mp hb]; exact hil
      rw [upd_ne (Nat.ne_of_lt hb')]
      exact (hf b hb).1
  done := by
    intro X hP hw hK hc i pins s σ H E I hf st hg
    subst hP hw hK
    obtain ⟨⟨old, he⟩, hit, hne⟩ := st
    obtain ⟨xs, hq, rfl⟩ := hg
    obtain ⟨its, rv, p, hz⟩ := I.tuple hq
    obtain ⟨f0, f1, f2, f3, f4, f5⟩ := hf it (by simp)
    have hl : its.toArray.size = xs.length := by rw [List.size_toArray]; exact rv.length.symm
    have D := Draws.tuple (prog := X.prog) (w := X.w) (A := X.A.in1) (I.ok.hd hc) it a hai its.toArray
    rw [hl] at D
    exact wpAny_pyNext_enum_endD D he ⟨hit, p⟩ fun h' eb => ⟨rfl, I.turned (t' := s.toks) (fun b o hb q => eb b o hb q) f0 f1 f3 f4 f5⟩
  self := fun A i s Q E st h => let ⟨⟨_, he⟩, _⟩ := st; wpAny_pyIter_enum he h
def iEnumT (K : PySem.W.Frag) (ta : TA) : TI := fun σ H R => ta σ H fun vs H1 => ∃ a xs, vs = [.ref a] ∧ H1 a = some (.tup xs) ∧ R (IteT K a) H1
theorem pi_enumT {e : Expr} {ta : TA} {p pos tpos : Pos} {elts : List Expr} {kk : Nat} (hg : Gl X "enumerate") (hm : X.mg "enumerate" = none) (ha : PA X [e] ta) (hs : starEach [e] X.env = [(false, eval e X.env)] := by rfl) :
    PI X (.Tuple elts kk tpos) (.Call (.Name "enumerate" p) [e] [] pos) (iEnumT X.K ta) := by
  refine ⟨fun pins s σ H R I h => ?_⟩
  refine Call_ (ld_blt I hg hm boot_enumerate (PyProof.Rows.callWith_type1 (thn (ha.run pos pins s σ H _ I h) fun us s1 ⟨vs, H1, I1, r1, q1⟩ => ?_) hs rfl))
  obtain ⟨a, xs, rfl, hq, q⟩ := q1
  obtain ⟨u, rfl, r⟩ := vals1 r1
  cases r
  obtain ⟨its, rv, p', hz⟩ := I1.tuple (SqT.of hq)
  have hlt : a < s1.heap.objs.size := p'.lt
  refine call_enumT p' fun h' he hit hk => wpAny_pyIter_enum he ?_
  have I2 : Inv X pins σ H1 { s1 with heap := h' } := I1.kept (t' := s1.toks) hk
  refine ⟨s1.heap.objs.size + 1, [s1.heap.objs.size + 1, s1.heap.objs.size], _, _, H1, rfl, I2, turn_enumT a (s1.heap.objs.size + 1) s1.heap.objs.size (Nat.ne_of_lt hlt) (Nat.ne_of_lt (Nat.lt_succ_of_lt hlt)), ⟨⟨.none, he⟩, hit, Nat.succ_ne_self _⟩, fun b hb => ?_, q⟩
  have hle : s1.heap.objs.size ≤ b := by
    rcases List.mem_cons.mp hb with rfl | hb
    · exact Nat.le_add_right _ _
    · rw [List.mem_singleton.mp hb]; exact Nat.le_refl _
  exact I1.fpOk hle (I1.hok.fresh hle)
theorem feeds_enumT {K : PySem.W.Frag} {H1 : Hp} {a : Addr} {xs : List V} (h : H1 a = some (.tup xs)) : Feeds (IteT K a) xs.length (fun i v H => ∃ x, Tp H v [.int (i : Nat), x] ∧ xs[i]? = some x) H1 where
  go := fun i H hi e => ⟨xs, SqT.of (e a _ h), hi⟩
  stop := fun H e => ⟨xs, SqT.of (e a _ h), rfl⟩
  yld := fun i H x H' hi e y => by
    obtain ⟨T, u, rfl, hT, rfl, z1⟩ := y
    exact ⟨Ex.new hT, u, .new, z1 xs (SqT.of (e a _ h))⟩
end
end Lk

/-! Lookscan: more readings. -/
namespace Lk
open PySem PySem.Spec PyProof.Rows L2 Evl
theorem pe_cint {X : Cx} {x : Str} {i : Int} {pos : Pos} (hg : Gl X x) (hm : ∃ t, X.mg x = some (.int i t)) (hd : (x == ("__debug__" : Str)) = false := by decide) : PE X (.Name x pos) (tC (.int i)) := by
  obtain ⟨t, h⟩ := hm
  exact pe_glob hg h ⟨t, rfl⟩ hd
/-- the value has P -/
def EvX (te : TE) (σ : L2.St) (H : Hp) (P : V → Hp → Prop) : Prop := ∀ H1, Ex H H1 → ∀ Q : VK, (∀ v H2, Ex H1 H2 → P v H2 → Q v H2) → te σ H1 Q
section
variable {K : PySem.W.Frag} {σ : L2.St} {H H' : Hp} {ta tb te tl : TE} {P : V → Hp → Prop}
theorem EvX.mono (e : Ex H H') (h : EvX te σ H P) : EvX te σ H' P := fun H1 a Q q => h H1 (e.trans a) Q q
theorem EvX.of {v : V} (h : Ev te σ H v) (hp : ∀ H1, Ex H H1 → P v H1) : EvX te σ H P := fun H1 e Q q => h H1 e Q fun H2 e2 => q v H2 e2 (hp H2 (e.trans e2))
theorem EvX.evP (h : EvX te σ H P) : EvP te σ H P := h H (Ex.refl H)
theorem evP_of {v : V} (h : Ev te σ H v) : EvP te σ H (fun u _ => u = v) := fun Q q => h H (Ex.refl H) Q fun H2 e => q v H2 e rfl
theorem wipe1 {j : Nat} {x : V} : wipe ((wipe σ [j]).set j (some x)) [j] = wipe σ [j] := by
  show ((σ.set j none).set j (some x)).set j none = σ.set j none
  rw [List.set_set, List.set_set]
theorem wipe2 {j k : Nat} {x y : V} (h : j ≠ k) : wipe (((wipe σ [j, k]).set j (some x)).set k (some y)) [j, k] = wipe σ [j, k] := by
  show ((((((σ.set k none).set j none).set j (some x)).set k (some y)).set k none).set j none) = (σ.set k none).set j none
  rw [List.set_set, List.set_set, List.set_comm (l := σ.set k none) (some x) none h, List.set_set, List.set_set]
theorem range_map {α : Type} (f : Int → α) (p : List Int) : (List.range p.length).map (fun i => f (p.getD i 0)) = p.map f := by
  apply List.ext_getElem
  · simp
  · intro i h1 h2
    simp only [List.length_map, List.length_range] at h1
    simp [h1]
theorem range_zipf {α : Type} (g : Int → Int → α) : ∀ (p q : List Int), p.length = q.length → (List.range p.length).map (fun i => g (p.getD i 0) (q.getD i 0)) = List.zipWith g p q := by
  intro p q h
  apply List.ext_getElem
  · simp [h]
  · intro i h1 h2
    simp only [List.length_map, List.length_range] at h1
    simp [List.getElem_map, List.getElem_range, List.getElem_zipWith, h1, h ▸ h1]
/-- [e for x in t], t a tuple of ints: by values -/
theorem el_lcT {x : V} {p : List Int} {j : Nat} (f : Int → V) (h : Ev tl σ H x) (hx : Pl H x p) (hz : p.length ≤ 100000) (he : ∀ i ∈ p, ∀ H1, Ex H H1 → Ev te ((wipe σ [j]).set j (some (.int i))) H1 (f i)) :
    EvL (tLc (iTup K tl) (gName j) tYes te [j]) σ H (p.map f) := fun H0 e Q q => h H0 e _ fun H1 e1 => by
  obtain ⟨a, rfl, ha⟩ := hx
  have ha1 := (e.trans e1) a _ ha
  refine ⟨a, rfl, ⟨_, SqT.of ha1⟩, ?_⟩
  refine lc_feeds (fun _ => true) (fun i v _ => v = f (p.getD i 0)) (feeds_tup (SqT.of ha1)) (by rw [List.length_map]; exact Nat.lt_of_le_of_lt hz (by decide)) (fun _ _ _ _ _ h => h) ?_ ?_
  · intro i v H2 hi e2 hv Q2 k2
    rw [List.length_map] at hi
    rw [List.getElem?_map, List.getElem?_eq_getElem hi] at hv
    cases hv
    refine k2 _ H2 (Ex.refl _) wipe1 evB_yes fun _ H3 e3 => ?_
    have z := he p[i] (List.getElem_mem hi) H3 (((e.trans e1).trans e2).trans e3)
    rw [show p.getD i 0 = p[i] by simp [hi]]
    exact evP_of z
  · intro D ys H2 hD e2 hy each
    rw [filter_yes] at each
    have ey := each_eq (v := fun i => f (p.getD i 0)) (fun i y h => h) each
    rw [List.length_map, range_map] at ey
    exact q D H2 (fresh_back e1 hD) (e1.trans e2) (by rw [hy, ey])
/-- [e for x, y in zip(s, t)] -/
theorem el_lcZ {ta2 : TA} {x y : V} {p r : List Int} {j k : Nat} (hjk : j ≠ k) (f : Int → Int → V) (h : EvA ta2 σ H [x, y]) (hx : Pl H x p) (hy : Pl H y r) (hl : p.length = r.length) (hz : p.length ≤ 100000)
    (he : ∀ a b, a ∈ p → b ∈ r → ∀ H1, Ex H H1 → Ev te (((wipe σ [j, k]).set j (some (.int a))).set k (some (.int b))) H1 (f a b)) :
    EvL (tLc (RZ.iZipA K ta2) (gTup K 2 (gCons (gName j) (gCons (gName k) gNil))) tYes te [j, k]) σ H (List.zipWith f p r) := fun H0 e Q q => h H0 e _ fun H1 e1 => by
  obtain ⟨a, rfl, ha⟩ := hx
  obtain ⟨b, rfl, hb⟩ := hy
  have ha1 := (e.trans e1) a _ ha
  have hb1 := (e.trans e1) b _ hb
  refine ⟨a, b, _, _, rfl, .inr ⟨SqT.of ha1, SqT.of hb1, ?_⟩⟩
  refine lc_feeds (fun _ => true) (fun i v _ => v = f (p.getD i 0) (r.getD i 0)) (feeds_zipT (SqT.of ha1) (SqT.of hb1) (by simp [hl])) (by rw [List.length_map]; exact Nat.lt_of_le_of_lt hz (by decide)) (fun _ _ _ _ _ h => h) ?_ ?_
  · rintro i v H2 hi e2 ⟨u, z, ⟨T, rfl, hT⟩, h1, h2⟩ Q2 k2
    rw [List.length_map] at hi
    rw [List.getElem?_map, List.getElem?_eq_getElem hi] at h1
    rw [List.getElem?_map, List.getElem?_eq_getElem (hl ▸ hi)] at h2
    cases h1
    cases h2
    refine ⟨T, _, rfl, SqT.of hT, rfl, _, _, rfl, _, _, rfl, rfl, k2 _ H2 (Ex.refl _) (wipe2 hjk) evB_yes fun _ H3 e3 => ?_⟩
    have z := he p[i] (r[i]'(hl ▸ hi)) (List.getElem_mem hi) (List.getElem_mem _) H3 (((e.trans e1).trans e2).trans e3)
    rw [show p.getD i 0 = p[i] by simp [hi], show r.getD i 0 = r[i]'(hl ▸ hi) by simp [hl ▸ hi]]
    exact evP_of z
  · intro D ys H2 hD e2 hy each
    rw [filter_yes] at each
    have ey := each_eq (v := fun i => f (p.getD i 0) (r.getD i 0)) (fun i y h => h) each
    rw [List.length_map, range_zipf f p r hl] at ey
    exact q D H2 (fresh_back e1 hD) (e1.trans e2) (by rw [hy, ey])
/-- tuple([..]) -/
theorem eu_tup {xs : List V} (h : EvL te σ H xs) : EvU (tThen te (kTup K)) σ H xs := fun H1 e Q q => h H1 e _ fun p H2 hp e2 h2 => .inl ⟨p, xs, rfl, sq_of h2, fun T hT => q T _ (fresh_back e2 hT) (e2.trans (Ex.new hT)) upd_same⟩
theorem evX_pl {p : List Int} (h : EvU te σ H (p.map V.int)) : EvX te σ H (fun v H2 => Pl H2 v p) := fun H1 e Q q => h H1 e Q fun a H2 _ e2 h2 => q _ H2 e2 ⟨a, rfl, h2⟩
/-- ints, under C -/
theorem ev_i0 {f : Int → Int → V} {i j : Int} (ha : Ev ta σ H (.int i)) (hb : Ev tb σ H (.int j)) : Ev (tOp (rI0 f) ta tb) σ H (f i j) := fun H1 e Q q => ha H1 e _ fun H2 e2 => hb H2 (e.trans e2) _ fun H3 e3 => ⟨i, j, rfl, rfl, q H3 (e2.trans e3)⟩
theorem ev_iC {C : Int → Int → Prop} {f : Int → Int → V} {i j : Int} (hc : C i j) (ha : Ev ta σ H (.int i)) (hb : Ev tb σ H (.int j)) : Ev (tOp (rI C f) ta tb) σ H (f i j) := fun H1 e Q q => ha H1 e _ fun H2 e2 => hb H2 (e.trans e2) _ fun H3 e3 => ⟨i, j, rfl, rfl, hc, q H3 (e2.trans e3)⟩
theorem ev_eqI {i j : Int} (ha : Ev ta σ H (.int i)) (hb : Ev tb σ H (.int j)) : Ev (tOp rEq ta tb) σ H (.bl (decide (i = j))) := fun H1 e Q q => ha H1 e _ fun H2 e2 => hb H2 (e.trans e2) _ fun H3 e3 => ⟨rfl, by
  have z := q H3 (e2.trans e3)
  rw [show decide (V.int i = V.int j) = decide (i = j) by simp]
  exact z⟩
theorem ev_neI {i j : Int} (ha : Ev ta σ H (.int i)) (hb : Ev tb σ H (.int j)) : Ev (tOp rNe ta tb) σ H (.bl (!decide (i = j))) := fun H1 e Q q => ha H1 e _ fun H2 e2 => hb H2 (e.trans e2) _ fun H3 e3 => ⟨rfl, by
  have z := q H3 (e2.trans e3)
  rw [show decide (V.int i = V.int j) = decide (i = j) by simp]
  exact z⟩
theorem ev_sum {ns : List Int} (h : EvL te σ H (ns.map V.int)) : Ev (tCB (rSum K) (tCons te tNil)) σ H (.int ns.sum) := fun H1 e Q q => h H1 e _ fun p H2 _ e2 h2 => ⟨p, ns, rfl, sq_of h2, q H2 e2⟩
theorem ev_all {bs : List Bool} (h : EvL te σ H (bs.map V.bl)) : Ev (tCB (rAll K) (tCons te tNil)) σ H (.bl (bs.all id)) := fun H1 e Q q => h H1 e _ fun p H2 _ e2 h2 => ⟨p, bs, rfl, sq_of h2, q H2 e2⟩
theorem ev_any {bs : List Bool} (h : EvL te σ H (bs.map V.bl)) : Ev (tCB (rAny K) (tCons te tNil)) σ H (.bl (bs.any id)) := fun H1 e Q q => h H1 e _ fun p H2 _ e2 h2 => ⟨p, bs, rfl, sq_of h2, q H2 e2⟩
/-- isinstance(t, tuple) -/
theorem ev_isT {x : V} {xs : List V} (h : Ev ta σ H x) (hx : Tp H x xs) : Ev (tCB (rIsi K) (tCons ta (tCons (tC (.ty "tuple")) tNil))) σ H (.bl true) := fun H1 e Q q => h H1 e _ fun H2 e2 => by
  obtain ⟨a, rfl, ha⟩ := hx
  exact ⟨_, _, _, _, true, rfl, .ty "tuple", .base (.tup ((e.trans e2) a _ ha)), kit_ty (by decide +kernel), q H2 e2⟩
theorem ev_lenT {x : V} {xs : List V} (h : Ev ta σ H x) (hx : Tp H x xs) : Ev (tCB (rLenS K) (tCons ta tNil)) σ H (.int xs.length) := fun H1 e Q q => h H1 e _ fun H2 e2 => by
  obtain ⟨a, rfl, ha⟩ := hx
  exact ⟨a, xs, rfl, .inr (SqT.of ((e.trans e2) a _ ha)), q H2 e2⟩
theorem ea1 {x : V} (h : Ev ta σ H x) : EvA (tCons ta tNil) σ H [x] := fun H1 e Q q => h H1 e _ fun H2 e2 => q H2 e2
theorem ea2 {x y : V} (h : Ev ta σ H x) (h2 : Ev tb σ H y) : EvA (tCons ta (tCons tb tNil)) σ H [x, y] := fun H1 e Q q => h H1 e _ fun H2 e2 => h2 H2 (e.trans e2) _ fun H3 e3 => q H3 (e2.trans e3)
end
def rAbs : List V → Hp → VK → Prop := fun xs H Q => ∃ i, xs = [.int i] ∧ Q (.int (if i < 0 then -i else i)) H
/-! ### loops over what is walked -/
theorem for_feeds {J : It} {n : Nat} {S : Nat → V → Hp → Prop} {H0 : Hp} {g : TG} {tb : TS} {D : Ends} {σ : L2.St} {H : Hp} (F : Feeds J n S H0) (Pv : Nat → L2.St → Hp → Prop) (h0 : Pv 0 σ H) (hE : ∀ i σ H, Pv i σ H → Ex H0 H)
    (hs : ∀ i x σ H H', i < n → Pv i σ H → Ex H H' → S i x H' → g x σ H' fun σ2 H2 => tb { D with nx := Pv (i + 1), ct := Pv (i + 1), bk := D.nx } σ2 H2) (hd : ∀ σ H, Pv n σ H → D.nx σ H) :
    ∃ W : Nat → Nat → L2.St → Hp → Prop, (∃ m, W 0 m σ H) ∧ ∀ i m σ H, W i m σ H →
      (J.stop i H ∧ D.nx σ H) ∨ (J.go i H ∧ ∃ N : L2.St → Hp → Prop, (∀ σ' H', N σ' H' → ∃ m', m' < m ∧ W (i + 1) m' σ' H') ∧ ∀ v H', J.yld i H v H' → g v σ H' fun σ2 H2 => tb { D with nx := N, ct := N, bk := D.nx } σ2 H2) := by
  refine ⟨fun i m σ H => m = n - i ∧ i ≤ n ∧ Pv i σ H, ⟨n, rfl, Nat.zero_le _, h0⟩, ?_⟩
  rintro i m σ H ⟨rfl, hi, p⟩
  by_cases hlt : i < n
  · refine .inr ⟨F.go i H hlt (hE i σ H p), Pv (i + 1), fun σ' H' p' => ⟨n - (i + 1), by omega, rfl, hlt, p'⟩, fun v H' y => ?_⟩
    obtain ⟨e, hS⟩ := F.yld i H v H' hlt (hE i σ H p) y
    exact hs i v σ H H' hlt p e hS
  · have e : i = n := by omega
    subst e
    exact .inl ⟨F.stop H (hE i σ H p), hd σ H p⟩
/-! ### data -/
theorem eqvAll_ints : ∀ p q : List Int, PyData.eqvAll (p.map .int) (q.map .int) = decide (p = q)
  | [], [] => rfl
  | [], _ :: _ => rfl
  | _ :: _, [] => rfl
  | x :: p, y :: q => by
    show (PyData.eqv (.int x) (.int y) && PyData.eqvAll (p.map .int) (q.map .int)) = _
    rw [eqvAll_ints p q]
    by_cases h : x = y <;> by_cases h2 : p = q <;> simp [PyData.eqv, h, h2]
theorem canLay_ints : ∀ p : List Int, PyData.canLayAll0 (p.map .int) = true
  | [] => rfl
  | x :: p => by
    show (PyData.canLay0 (.int x) && PyData.canLayAll0 (p.map .int)) = true
    rw [canLay_ints p]
    rfl
theorem shaped_ints (p : List Int) : SeqAt.shaped (.tuple (p.map .int)) = true := by
  unfold SeqAt.shaped
  simp only [PyData.canLay0, canLay_ints, PyData.depth, PySem.W.depth_ints]
  rfl
theorem dpAll_ints {K : PySem.W.Frag} {H : Hp} : ∀ p : List Int, DpAll K H (p.map V.int) (p.map .int)
  | [] => .nil
  | x :: p => .cons (.int x) (dpAll_ints p)
theorem dp_pl {K : PySem.W.Frag} {H : Hp} {v : V} {p : List Int} (h : Pl H v p) : Dp K H v (.tuple (p.map .int)) := by
  obtain ⟨a, rfl, ha⟩ := h
  exact .tup (SqT.of ha) (dpAll_ints p)
/-- a list of tuples of ints -/
theorem dpAll_pls {K : PySem.W.Frag} {H : Hp} : ∀ {xs : List V} {ps : List (List Int)}, Paired (fun x p => Pl H x p) xs ps → DpAll K H xs (ps.map fun p => .tuple (p.map .int))
  | _, _, .nil => .nil
  | _, _, .cons h t => .cons (dp_pl h) (dpAll_pls t)
theorem shaped_pls (ps : List (List Int)) : SeqAt.shaped (.list (ps.map fun p => .tuple (p.map .int))) = true := by
  have h1 : ∀ ps : List (List Int), PyData.canLayAll0 (ps.map fun p => PyData.tuple (p.map .int)) = true := fun ps => by
    induction ps with
    | nil => rfl
    | cons p ps ih =>
      show (PyData.canLay0 (.tuple (p.map .int)) && _) = true
      rw [ih]
      simp [PyData.canLay0, canLay_ints]
  have h2 : ∀ ps : List (List Int), PyData.depthAll (ps.map fun p => PyData.tuple (p.map .int)) ≤ 1 := fun ps => by
    induction ps with
    | nil => simp [PyData.depthAll]
    | cons p ps ih =>
      show PyData.depthAll (.tuple (p.map .int) :: _) ≤ 1
      rw [PyData.depthAll]
      simp only [PyData.depth, PySem.W.depth_ints]
      exact Nat.max_le.mpr ⟨Nat.le_refl _, ih⟩
  unfold SeqAt.shaped
  simp only [PyData.canLay0, h1, PyData.depth, Bool.true_and]
  have := h2 ps
  simp
  omega
theorem any_pls (ps : List (List Int)) (q : List Int) : ((ps.map fun p => PyData.tuple (p.map .int)).any fun z => PyData.eqv z (.tuple (q.map .int))) = decide (q ∈ ps) := by
  induction ps with
  | nil => simp
  | cons p ps ih =>
    rw [List.map_cons, List.any_cons, ih]
    simp only [PyData.eqv, eqvAll_ints]
    by_cases h : p = q
    · simp [h]
    · simp [h, Ne.symm h]
end Lk

/-! Lookscan: dicts with places as keys. -/
namespace Lk
open PySem PySem.Spec PyProof.Rows L2 Evl
open PySem.W (KdlSrc kdu_collect sorted_data list_sort_data EachIs AllAlike Sortable dataLe)
/-- a place as a key -/
abbrev ky (p : List Int) : List Key := p.map Sum.inl
theorem ky_val (p : List Int) : (ky p).map kV = p.map V.int := by rw [List.map_map]; rfl
theorem ky_inj {p q : List Int} (h : ky p = ky q) : p = q := by
  have e := congrArg (List.map fun k : Key => match k with | .inl i => i | .inr _ => 0) h
  rw [List.map_map, List.map_map] at e
  have i1 : ((fun k : Key => match k with | .inl i => i | .inr _ => 0) ∘ Sum.inl) = (id : Int → Int) := by funext z; rfl
  rw [i1, List.map_id, List.map_id] at e
  exact e

/-- the view d.values() at p -/
def valuesO (p d : Addr) : HO := .ext fun h => h.IsValuesView p d
theorem valuesO_ok {P : Program} {w : World} {H : Hp} {h : Heap} {p d : Addr} (e : h.get? p = some { cls := .type "dict_values", data := .fields #[.ref d] }) : ObjOk P w H h p (valuesO p d) :=
  ⟨⟨_, e, rfl, rfl⟩, ⟨_, e⟩, fun h1 h2 x k => let ⟨o, ho, r⟩ := x; ⟨o, k o ho, r⟩⟩
section
variable {X : Cx} {pins : List (Addr × Obj)} {σ : L2.St} {H : Hp} {s : Shared}
def rValuesT : V → List V → Hp → VK → Prop := fun x xs H Q => ∃ (a : Addr) (kvs : List (List Key × V)), x = .ref a ∧ xs = [] ∧ H a = some (.dT kvs) ∧ ∀ p, H p = none → Q (.ref p) (upd H p (valuesO p a))
theorem mt_valuesT : MtR X "dict.values" rValuesT := by
  intro pins s σ H x xs v us Q I rx rxs h
  obtain ⟨a, kvs, rfl, rfl, ha, q⟩ := h
  cases rx
  cases rxs
  obtain ⟨z, hd, xs', rel, o, es, ep, ho, hx, hdat, _⟩ := dt_of I.hok ha
  refine call_meetsIn PySem.F.slot_dict_values ⟨_, ho, hx.1⟩ PySem.F.entry_dict_values (PySem.F.args_dict_values_1 _) (PySem.meets_dict_values_raw a hd) ⟨⟨es, ep, o, ho, hx, hdat⟩, ?_⟩
  exact ⟨.ref s.heap.objs.size, upd H s.heap.objs.size (valuesO s.heap.objs.size a), I.laid (t' := s.toks) (fun b u e => Heap.get?_push_of_some _ e) (Nat.le_refl _) (valuesO_ok (Heap.get?_push_size _ rfl)), rfl, q _ (I.hok.fresh (Nat.le_refl _))⟩
theorem keys_eq {H : Hp} : ∀ {l : List (List Key × V)} {m : List (List Key × Addr × Value)}, KT H l m → l.map (·.1) = m.map (·.1)
  | _, _, .nil => rfl
  | _, _, .cons r t => by rw [List.map_cons, List.map_cons, r.1, keys_eq t]
/-- the entries of a dict with tuple keys -/
theorem Inv.dT_raw {a : Addr} {kvs : List (List Key × V)} (I : Inv X pins σ H s) (h : H a = some (.dT kvs)) : ∃ (es : Array DictEntry) (ep : Nat) (xs : List (List Key × Addr × Value)), (a == sysModules) = false ∧ kvs.length ≤ sizeLine ∧ s.heap.DictRaw a es ep ∧ es.size = kvs.length ∧
    Paired (fun (p : List Key × V) (q : List Key × Addr × Value) => p.1 = q.1 ∧ H q.2.1 = some (.tup (p.1.map kV)) ∧ RelV p.2 q.2.2) kvs xs ∧
    (∀ i (hi : i < es.size), ∃ x, xs[i]? = some x ∧ es[i].key = .ref x.2.1 ∧ es[i].val = x.2.2) ∧ (kvs.map (·.1)).Nodup := by
  obtain ⟨z, hd, xs, rel, ⟨o, es, ep, ho, hx, hdat, hes, _, hnd⟩⟩ := dt_of I.hok h
  have hl : xs.length = kvs.length := (Paired.length rel).symm
  have hsz : es.size = xs.length := by
    have e := congrArg List.length hes
    rw [List.length_map, Array.length_toList] at e
    exact e
  refine ⟨es, ep, xs, hd, z, ⟨o, ho, hx, hdat⟩, hsz.trans hl, rel, fun i hi => ?_, ?_⟩
  · have e : es.toList[i]? = some es[i] := by simp [hi]
    rw [hes, List.getElem?_map] at e
    have hi2 : i < xs.length := by omega
    rw [List.getElem?_eq_getElem hi2] at e
    have e2 := Option.some.inj e
    exact ⟨xs[i], by simp, by rw [← e2]; rfl, by rw [← e2]; rfl⟩
  · rw [keys_eq rel]
    exact hnd
theorem paired_at {α β : Type} {F : α → β → Prop} : ∀ {l : List α} {m : List β}, Paired F l m → ∀ {i : Nat} {y : β}, m[i]? = some y → ∃ x, l[i]? = some x ∧ F x y
  | _, _, .nil, i, y, h => by simp at h
  | _, _, .cons r t, 0, y, h => by
    simp only [List.getElem?_cons_zero, Option.some.injEq] at h
    exact ⟨_, rfl, h ▸ r⟩
  | _, _, .cons r t, i + 1, y, h => by
    simp only [List.getElem?_cons_succ] at h ⊢
    exact paired_at t h
theorem vals_of_items {P : Nat → Value → Prop} {xs : List V} {acc : Array Value} {n : Nat} (h : ItemsOf P acc n) (hl : xs.length = n) (hp : ∀ i v x, P i v → xs[i]? = some x → RelV x v) : Vals xs acc.toList := by
  have z : xs.length = acc.toList.length := hl.trans (h.1.symm.trans (Array.length_toList (xs := acc)).symm)
  refine vals_of_at z fun j x u hx hu => hp j u x (h.2 j u ?_) hx
  rw [← Array.getElem?_toList]
  exact hu

/-! ### *d.values() -/
/-- *e where e is the view of the values of a dict -/
def tStarV (te : TE) (t : TA) : TA := fun σ H Q => te σ H fun x H1 => ∃ p d kvs, x = V.ref p ∧ H1 p = some (valuesO p d) ∧ H1 d = some (.dT kvs) ∧ t σ H1 fun ys H2 => Q (kvs.map (·.2) ++ ys) H2
theorem pa_starV {e : Expr} {es : List Expr} {te : TE} {t : TA} {p : Pos} (he : PE X e te) (hr : PA X es t) (hc : X.calm = true) (hs : starEach (.Starred e p :: es) X.env = (true, eval e X.env) :: starEach es X.env := by rfl) : PA X (.Starred e p :: es) (tStarV te t) := by
  refine ⟨fun pos pins s σ H Q I h => ?_⟩
  refine PySem.W.items_star (thn (he.run pins s σ H _ I h) fun v s1 ⟨y, H1, I1, ry, a, d, kvs, ey, hv, hd, q⟩ => ?_) hs
  subst ey
  obtain rfl : v = Value.ref a := ry
  obtain ⟨vw, _, _⟩ := I1.hok a _ hv
  obtain ⟨es', ep, xs, hsys, hz, raw, hsz, rel, ent, _⟩ := Inv.dT_raw I1 hd
  have z : ∀ E, wpAny (model X.prog X.w) X.A (collect (.ref a)) (fun us s2 => wpAny (model X.prog X.w) X.A (spliced (backTo pos (starEach es X.env))) (fun ws s3 => AP X pins σ Q (us ++ ws) s3) X.xe s2) E s1 := fun E => by
    refine kdu_collect (KdlSrc.rawValues (d := d) (es := es') (ep := ep)) (I1.ok.hd hc) ⟨vw, raw⟩ (by rw [hsz]; exact hz) fun h' tk acc hk hacc => ?_
    have I2 : Inv X pins σ H1 { s1 with heap := h', toks := tk } := I1.kept hk
    refine thn (hr.run pos pins _ σ H1 _ I2 q) fun ws s3 ⟨vs, H3, I3, r3, q3⟩ => ⟨kvs.map (·.2) ++ vs, H3, I3, ?_, q3⟩
    refine (vals_of_items hacc (by rw [List.length_map]; exact hsz.symm) fun i v x hP hx => ?_).append r3
    obtain ⟨hi, rfl⟩ := hP
    obtain ⟨y, hy, _, e2⟩ := ent i hi
    obtain ⟨kv, hkv, _, _, r⟩ := paired_at rel hy
    rw [List.getElem?_map, hkv] at hx
    cases hx
    rw [e2]
    exact r
  unfold PySem.W.StarOf notIterableAtAll
  exact wpAny_bind (wpAny_specialOf (T := "dict_values") vw.typeIs PySem.F.slot_dict_values_iter.lookup (wpAny_pure ⟨rfl, z _⟩))
end
end Lk

/-! Lookscan: sorted, max of a dict's values, == of a dict and {}. -/
namespace Lk
open PySem PySem.Spec PyProof.Rows L2 Evl PySem.Calls PySem.W
open PySem.W (KdlSrc kdu_collect sorted_data list_sort_data EachIs AllAlike Sortable dataLe)
section
variable {prog : Program} {w : World} {A : Around} {E : Value → Shared → Prop} {s : Shared} {β : Type}
structure SortIn (h : Heap) (vs : List Value) (bs : List β) (R : Value → β → Prop) (enc : β → PyData) : Prop where
  each : EachIs R vs bs
  reads : EachIs (fun v b => Reads h v (enc b) []) vs bs
  alike : AllAlike (bs.map enc)
  sortable : Sortable (bs.map enc)
  len : bs.length ≤ sizeLine
  depth : ∀ b ∈ bs, (enc b).depth ≤ 9
theorem Reads.keepT {h h' : Heap} (k : ∀ b o, h.get? b = some o → h'.get? b = some o) {v : Value} {d : PyData} {as : List Addr} (r : Reads h v d as) : Reads h' v d as := PyProof.Rows.Reads.keeps k r
/-- sorted(x), x whatever can be collected -/
theorem sorted_col {x : Value} {Q : Value → Shared → Prop} {enc : β → PyData} {R : Value → β → Prop} {bs : List β} (hu : A.in1.units + 10 < cLine)
    (h : ∀ E, wpAny (model prog w) A.in1 (collect x) (fun vs s2 => SortIn s2.heap vs bs R enc ∧ ∀ out h' n, EachIs R out (bs.mergeSort (dataLe false enc)) → (∀ b o, s2.heap.get? b = some o → h'.get? b = some o) →
      h'.get? s2.heap.objs.size = some (seqObj "list" out.toArray n) → Q (.ref s2.heap.objs.size) { s2 with heap := h' }) E s) : wpAny (model prog w) A (call (.builtin "sorted") [x]) Q E s := by
  refine call_function_entry kind_sorted plain_sorted entry_sorted (args_sorted1 _) ?_
  unfold Builtin.«sorted»
  refine wpAny_bind (m := checkCount "sorted" 1 1 _) (wpAny_pure ?_)
  refine wpAny_bind (wpAny_mono (h _) (fun vs s2 ⟨I, q⟩ => ?_) fun _ _ e => e)
  have hL : vs.length ≤ sizeLine := by rw [I.each.length]; exact I.len
  refine wpAny_bind (wpAny_newList ?_ hL)
  have hob : (s2.heap.push { cls := .type "list", data := .seq vs.toArray }).get? s2.heap.objs.size = some (seqObj "list" vs.toArray 0) := Heap.get?_push_size _ rfl
  have kp : ∀ b o, s2.heap.get? b = some o → (s2.heap.push { cls := .type "list", data := .seq vs.toArray }).get? b = some o := fun b o e => Heap.get?_push_of_some _ e
  refine wpAny_bind (wpAny_holding ?_)
  refine list_sort_data (s := { s2 with heap := s2.heap.push { cls := .type "list", data := .seq vs.toArray } }) (vs := vs) (bs := bs) (enc := enc) (R := R) hob I.each (I.reads.mono fun v b r => ⟨[], Reads.keepT kp r, by simp⟩) I.alike I.sortable I.len (fun b hb => ?_) fun out ho eo => ?_
  · have := I.depth b hb
    omega
  · obtain ⟨n, hn⟩ := sortedHeap_at (vs := vs) (out := out.toArray) hob
    refine wpAny_pure ⟨_, rfl, ?_⟩
    refine q out _ n eo (fun b o e => ?_) hn
    have hb := Heap.lt_size e
    rw [sortedHeap_old (Nat.ne_of_lt hb) (Heap.lt_size (kp b o e))]
    exact kp b o e
end
theorem eachIs_of_at {α β : Type} {R : α → β → Prop} : ∀ {vs : List α} {bs : List β}, vs.length = bs.length → (∀ (j : Nat) (v : α) (b : β), vs[j]? = some v → bs[j]? = some b → R v b) → EachIs R vs bs
  | [], [], _, _ => .nil
  | [], _ :: _, h, _ => by simp at h
  | _ :: _, [], h, _ => by simp at h
  | v :: vs, b :: bs, h, f => .cons (f 0 v b rfl rfl) (eachIs_of_at (by simpa using h) fun j y w h1 h2 => f (j + 1) y w (by simpa using h1) (by simpa using h2))
theorem each_back {β : Type} {P : V → β → Prop} : ∀ {out : List Value} {bs : List β}, EachIs (fun v b => ∃ y, RelV y v ∧ P y b) out bs → ∃ ys, Vals ys out ∧ Paired P ys bs
  | _, _, .nil => ⟨[], .nil, .nil⟩
  | _, _, .cons ⟨y, r, p⟩ t => let ⟨ys, a, b⟩ := each_back t; ⟨y :: ys, .cons r a, .cons p b⟩
/-- a tuple of ints, as data -/
abbrev dI (p : List Int) : PyData := .tuple (p.map .int)
theorem depth_dI (p : List Int) : (dI p).depth ≤ 1 := by
  unfold dI PyData.depth
  rw [PySem.W.depth_ints]
  exact Nat.le_refl _
theorem readsAll_ints {h : Heap} : ∀ {p : List Int} {us : List Value}, Vals (p.map V.int) us → ReadsAll h us (p.map .int) []
  | [], _, r => by cases r; exact .nil
  | i :: p, _, r => by
    cases r with
    | cons a t =>
      obtain ⟨u, rfl⟩ := a
      exact ReadsAll.cons (as := []) (bs := []) (.int i u) (readsAll_ints t)
section
variable {X : Cx} {pins : List (Addr × Obj)} {σ : L2.St} {H : Hp} {s : Shared}
theorem reads_pl (I : Inv X pins σ H s) {y : V} {v : Value} {p : List Int} (r : RelV y v) (h : Pl H y p) : Reads s.heap v (dI p) [] := by
  obtain ⟨a, rfl, h2⟩ := h
  obtain rfl : v = Value.ref a := r
  obtain ⟨its, rv, ⟨o, ho, hc, n, hd⟩, _⟩ := I.tuple (SqT.of h2)
  exact .tuple ho hc hd (readsAll_ints rv)
/-- a pair of two tuples of ints -/
def Pr (H : Hp) (x : V) (b : List Int × List Int) : Prop := ∃ u v, Tp H x [u, v] ∧ Pl H u b.1 ∧ Pl H v b.2
theorem Pr.tx {H H' : Hp} {x : V} {b : List Int × List Int} (e : Tx H H') (h : Pr H x b) : Pr H' x b := by
  obtain ⟨u, v, h1, h2, h3⟩ := h
  exact ⟨u, v, h1.tx e, h2.tx e, h3.tx e⟩
abbrev dP (b : List Int × List Int) : PyData := .tuple [dI b.1, dI b.2]
theorem depth_dP (b : List Int × List Int) : (dP b).depth ≤ 2 := by
  have h1 := depth_dI b.1
  have h2 := depth_dI b.2
  unfold dP
  simp only [PyData.depth, PyData.depthAll] at h1 h2 ⊢
  omega
theorem reads_pr (I : Inv X pins σ H s) {y : V} {v : Value} {b : List Int × List Int} (r : RelV y v) (h : Pr H y b) : Reads s.heap v (dP b) [] := by
  obtain ⟨u, w, ⟨a, rfl, h2⟩, h3, h4⟩ := h
  obtain rfl : v = Value.ref a := r
  obtain ⟨its, rv, ⟨o, ho, hc, n, hd⟩, _⟩ := I.tuple (SqT.of h2)
  obtain ⟨i1, i2, e, r1, r2⟩ := vals2 rv
  subst e
  exact .tuple ho hc hd (ReadsAll.cons (as := []) (bs := []) (reads_pl I r1 h3) (ReadsAll.cons (as := []) (bs := []) (reads_pl I r2 h4) .nil))

/-! ### sorted(list of pairs of tuples of ints) -/
def dataP : List Int × List Int → List Int × List Int → Bool := dataLe false dP
def rSortP (K : PySem.W.Frag) : List V → Hp → VK → Prop := fun vs H Q => ∃ (a : Addr) (xs : List V) (bs : List (List Int × List Int)), vs = [V.ref a] ∧ SqL K H a xs ∧ Paired (Pr H) xs bs ∧
  ∀ ys l, Paired (Pr H) ys (bs.mergeSort dataP) → H l = none → Q (.ref l) (upd H l (.lst ys))
theorem each_of_vals {β : Type} {P : V → β → Prop} : ∀ {xs : List V} {us : List Value} {bs : List β}, Vals xs us → Paired P xs bs → EachIs (fun v b => ∃ y, RelV y v ∧ P y b) us bs
  | _, _, _, .nil, .nil => .nil
  | _, _, _, .cons r t, .cons p q => .cons ⟨_, r, p⟩ (each_of_vals t q)
theorem alike_dI (p q : List Int) : alike (dI p) (dI q) = true := by
  unfold dI alike
  exact PySem.W.alike_ints p q
theorem cr_sortP (hr : X.A.in1.units + 10 < cLine) : CallR X (.builtin "sorted") (rSortP X.K) := by
  intro pins s σ H vs us Q I r h
  obtain ⟨a, xs, bs, rfl, hs, pr, q⟩ := h
  rw [Vals.ref1 r]
  obtain ⟨its, rv, ⟨o, n, ho, hc, _, hd⟩, hz⟩ := I.list hs
  have e1 : EachIs (fun v b => ∃ y, RelV y v ∧ Pr H y b) its bs := each_of_vals rv pr
  refine sorted_col hr fun E => PySem.wpAny_collect_seq a (T := "list") (.inl rfl) ho hc hd (fun h2 k2 => ⟨⟨e1, e1.mono fun v b ⟨y, r, p⟩ => Reads.keepT k2 (reads_pr I r p), ?_, ?_, ?_, ?_⟩, fun out h' n' eo k' hn => ?_⟩) ?_
  · refine AllAlike.of fun b b' => ?_
    simp [alike, alikeAll, PySem.W.alike_ints]
  · exact Sortable.tuples fun b => ⟨_, _, rfl⟩
  · rw [← pr.length]; exact hz
  · exact fun b _ => Nat.le_trans (depth_dP b) (by decide)
  · obtain ⟨ys, v1, v2⟩ := each_back eo
    have hz2 : ys.length ≤ sizeLine := by
      rw [v2.length, List.length_mergeSort, ← pr.length]; exact hz
    have I2 : Inv X pins σ H { s with heap := h2 } := I.kept (t' := s.toks) k2
    exact ⟨.ref _, upd H h2.objs.size (.lst ys), I2.laid (t' := s.toks) k' (Nat.le_refl _) ⟨hz2, out, n', v1, hn⟩, rfl, q _ _ v2 (I2.hok.fresh (Nat.le_refl _))⟩
  · rw [List.size_toArray, ← rv.length]; exact hz

/-! ### sorted(d): the keys of a dict, places -/
def rSortD : List V → Hp → VK → Prop := fun vs H Q => ∃ (a : Addr) (kvs : List (List Key × V)) (ps : List (List Int)), vs = [V.ref a] ∧ H a = some (.dT kvs) ∧ kvs.map (·.1) = ps.map ky ∧ (∀ p ∈ ps, p ≠ []) ∧
  ∀ ys qs l, qs.Perm ps → Paired (fun y q => Pl H y q) ys qs → H l = none → Q (.ref l) (upd H l (.lst ys))
theorem map_ky {kvs : List (List Key × V)} {ps : List (List Int)} (h : kvs.map (·.1) = ps.map ky) {i : Nat} {kv : List Key × V} (hi : kvs[i]? = some kv) : ∃ p, ps[i]? = some p ∧ kv.1 = ky p := by
  have e : (kvs.map (·.1))[i]? = (ps.map ky)[i]? := by rw [h]
  rw [List.getElem?_map, List.getElem?_map, hi] at e
  cases hp : ps[i]? with
  | none => rw [hp] at e; cases e
  | some p => rw [hp] at e; exact ⟨p, rfl, Option.some.inj e⟩
theorem mem_of_at {α : Type} {l : List α} {i : Nat} {x : α} (h : l[i]? = some x) : x ∈ l := List.mem_of_getElem? h
theorem sortable_pl {ps : List (List Int)} (h : ∀ p ∈ ps, p ≠ []) : Sortable (ps.map dI) := .inl fun d hd => by
  obtain ⟨p, hp, rfl⟩ := List.mem_map.mp hd
  cases p with
  | nil => exact absurd rfl (h _ hp)
  | cons x r => exact ⟨_, _, rfl⟩
theorem cr_sortD (hr : X.A.in1.units + 10 < cLine) (hcal : X.calm = true) : CallR X (.builtin "sorted") rSortD := by
  intro pins s σ H vs us Q I r h
  obtain ⟨a, kvs, ps, rfl, ha, hk, hne, q⟩ := h
  rw [Vals.ref1 r]
  obtain ⟨es, ep, xs, hsys, hz, raw, hsz, rel, ent, _⟩ := Inv.dT_raw I ha
  have hlen : ps.length = kvs.length := by
    have e := congrArg List.length hk
    rw [List.length_map, List.length_map] at e
    exact e.symm
  refine sorted_col (bs := ps) (enc := dI) (R := fun v p => ∃ y, RelV y v ∧ Pl H y p) hr fun E => kdu_collect (KdlSrc.rawDict (d := a) (es := es) (ep := ep) hsys) (I.ok.hd hcal) raw (by rw [hsz]; exact hz) fun h2 tk acc k2 hacc => ?_
  have I2 : Inv X pins σ H { s with heap := h2, toks := tk } := I.kept k2
  have e1 : EachIs (fun v p => ∃ y, RelV y v ∧ Pl H y p) acc.toList ps := by
    refine eachIs_of_at (by rw [Array.length_toList, hacc.1, hsz, hlen]) fun j v p hv hp => ?_
    obtain ⟨hi, rfl⟩ := hacc.2 j v (by rw [← Array.getElem?_toList]; exact hv)
    obtain ⟨y, hy, e1, _⟩ := ent j hi
    obtain ⟨kv, hkv, e2, e3, _⟩ := paired_at rel hy
    obtain ⟨p', hp', e4⟩ := map_ky hk hkv
    rw [hp'] at hp
    cases hp
    rw [e1]
    refine ⟨.ref y.2.1, rfl, y.2.1, rfl, ?_⟩
    rw [e3, e4, ky_val]
  refine ⟨⟨e1, e1.mono fun v b ⟨y, r, p⟩ => reads_pl I2 r p, AllAlike.of fun b b' => alike_dI b b', sortable_pl hne, by rw [hlen]; exact hz, fun b _ => Nat.le_trans (depth_dI b) (by decide)⟩, fun out h' n' eo k' hn => ?_⟩
  obtain ⟨ys, v1, v2⟩ := each_back eo
  have hz2 : ys.length ≤ sizeLine := by
    rw [v2.length, List.length_mergeSort, hlen]; exact hz
  exact ⟨.ref _, upd H h2.objs.size (.lst ys), I2.laid (t' := tk) k' (Nat.le_refl _) ⟨hz2, out, n', v1, hn⟩, rfl, q _ _ _ (List.mergeSort_perm _ _) v2 (I2.hok.fresh (Nat.le_refl _))⟩

/-! ### sorted(t), t a tuple of ints -/
def rSortT (K : PySem.W.Frag) : List V → Hp → VK → Prop := fun vs H Q => ∃ (a : Addr) (ns : List Int), vs = [V.ref a] ∧ H a = some (.tup (ns.map V.int)) ∧
  ∀ l, H l = none → Q (.ref l) (upd H l (.lst ((ns.mergeSort fun a b => decide (a ≤ b)).map V.int)))
theorem cr_sortT (hr : X.A.in1.units + 10 < cLine) : CallR X (.builtin "sorted") (rSortT X.K) := by
  intro pins s σ H vs us Q I r h
  obtain ⟨a, ns, rfl, ha, q⟩ := h
  rw [Vals.ref1 r]
  obtain ⟨its, rv, ⟨o, ho, hc, n, hd⟩, hz⟩ := I.tuple (SqT.of ha)
  have e0 : dataLe false (fun b : Int => PyData.int b) = fun a b => decide (a ≤ b) := PySem.W.dataLe_int id
  have pr : ∀ zs : List Int, Paired (fun (y : V) (i : Int) => y = V.int i) (zs.map V.int) zs := fun zs => by
    induction zs with
    | nil => exact .nil
    | cons z zs ih => exact .cons rfl ih
  have e1 : EachIs (fun v (i : Int) => ∃ y, RelV y v ∧ y = V.int i) its ns := each_of_vals rv (pr ns)
  have hz' : ns.length ≤ sizeLine := by rw [List.length_map] at hz; exact hz
  refine sorted_col (bs := ns) (enc := fun b => PyData.int b) hr fun E => PySem.wpAny_collect_seq a (T := "tuple") (.inr rfl) ho hc hd (fun h2 k2 => ⟨⟨e1, e1.mono fun v b ⟨y, r, e⟩ => by subst e; obtain ⟨u, rfl⟩ := r; exact .int b u, AllAlike.of fun b b' => by simp [alike], Sortable.others fun b => ⟨by simp, by simp⟩, hz', fun b _ => by simp [PyData.depth]⟩, fun out h' n' eo k' hn => ?_⟩) (by rw [List.size_toArray, ← rv.length]; exact hz)
  · rw [e0] at eo
    obtain ⟨ys, v1, v2⟩ := each_back eo
    have ey : ∀ {ys : List V} {zs : List Int}, Paired (fun (y : V) (i : Int) => y = V.int i) ys zs → ys = zs.map V.int := fun h => by
      induction h with
      | nil => rfl
      | cons a b ih => rw [a, ih]; rfl
    have ey := ey v2
    have hz2 : ys.length ≤ sizeLine := by
      rw [v2.length, List.length_mergeSort]; exact hz'
    have I2 : Inv X pins σ H { s with heap := h2 } := I.kept (t' := s.toks) k2
    refine ⟨.ref _, upd H h2.objs.size (.lst ys), I2.laid (t' := s.toks) k' (Nat.le_refl _) ⟨hz2, out, n', v1, hn⟩, rfl, ?_⟩
    rw [ey]
    exact q _ (I2.hok.fresh (Nat.le_refl _))

/-! ### max(d.values()) -/
def rMaxV : List V → Hp → VK → Prop := fun vs H Q => ∃ (p a : Addr) (kvs : List (List Key × V)) (ns : List Int), vs = [V.ref p] ∧ H p = some (valuesO p a) ∧ H a = some (.dT kvs) ∧ kvs.map (·.2) = ns.map V.int ∧ 0 < ns.length ∧
  ∀ m, m ∈ ns → (∀ y ∈ ns, y ≤ m) → Q (.int m) H
theorem cr_maxV (hcal : X.calm = true) : CallR X (.builtin "max") rMaxV := by
  intro pins s σ H vs us Q I r h
  obtain ⟨p, a, kvs, ns, rfl, hp, ha, hns, hne, q⟩ := h
  rw [Vals.ref1 r]
  obtain ⟨es, ep, xs, hsys, hz, raw, hsz, rel, ent, _⟩ := Inv.dT_raw I ha
  obtain ⟨vw, _, _⟩ := I.hok p _ hp
  have hlen : ns.length = kvs.length := by
    have e := congrArg List.length hns
    rw [List.length_map, List.length_map] at e
    exact e.symm
  have hval : ∀ i v, (∃ hi : i < es.size, v = es[i].val) → ∃ t, v = Value.int (ns.getD i 0) t := fun i v ⟨hi, e⟩ => by
    obtain ⟨y, hy, _, e2⟩ := ent i hi
    obtain ⟨kv, hkv, _, _, r⟩ := paired_at rel hy
    have z : (kvs.map (·.2))[i]? = (ns.map V.int)[i]? := by rw [hns]
    have hi3 : i < ns.length := by omega
    rw [List.getElem?_map, List.getElem?_map, hkv, List.getElem?_eq_getElem hi3] at z
    have z2 : kv.2 = V.int ns[i] := Option.some.inj z
    rw [z2] at r
    obtain ⟨t, ht⟩ := r
    refine ⟨t, ?_⟩
    rw [e, e2, ht]
    simp [hi3]
  refine call_max_walk ?_
  obtain ⟨oI, St, hit, W, st⟩ := (KdlSrc.rawValues (r := p) (d := a) (es := es) (ep := ep)).iter X.A.in1 s (I.ok.hd hcal) ⟨vw, raw⟩
  have hal : a < s.heap.objs.size := raw.lt_size
  refine hit _ _ ⟨s.heap.objs.size, _, _, _, _, _, _, rfl, W, st, fun b hb => ?_, by omega, CmpOf.ints_gt (fun i => ns.getD i 0) hval, fun v h' tk hP hk => ?_⟩
  · show b < (s.heap.push _).objs.size
    rw [PyProof.Rows.size_push']
    rcases List.mem_cons.mp hb with z | z
    · rw [z]; exact Nat.lt_succ_self _
    · rw [List.mem_singleton.mp z]; exact Nat.lt_succ_of_lt hal
  · obtain ⟨t, rfl⟩ := hval _ _ hP
    obtain ⟨m1', m2'⟩ := PySem.argBest_gt (fun i => ns.getD i 0) (es.size - 1)
    have m1 : argBest (fun i j => decide (ns.getD i 0 > ns.getD j 0)) (es.size - 1) ≤ es.size - 1 := m1'
    have m2 : ∀ j, j ≤ es.size - 1 → ns.getD j 0 ≤ ns.getD (argBest (fun i j => decide (ns.getD i 0 > ns.getD j 0)) (es.size - 1)) 0 := m2'
    have hk2 : ∀ b o, s.heap.get? b = some o → h'.get? b = some o := fun b o e => hk b o (fun z => by rw [List.mem_singleton.mp z] at e; exact absurd (Heap.lt_size e) (Nat.lt_irrefl _)) (Heap.get?_push_of_some _ e)
    refine ⟨.int _, H, I.kept (t' := tk) hk2, ⟨t, rfl⟩, q _ (PySem.getD_mem (by omega)) fun y hy => ?_⟩
    obtain ⟨j, hj, e⟩ := List.mem_iff_getElem.mp hy
    have z := m2 j (by omega)
    have e3 : ns.getD j 0 = y := by rw [List.getD_eq_getElem?_getD, List.getElem?_eq_getElem hj, ← e] <;> rfl
    rw [e3] at z
    exact z

/-! ### d == {} -/
theorem samePairsE {nm : String} {a b : Addr} {es : Array DictEntry} {ep ep' : Nat} {prog : Program} {w : World} {A : Around} {E : Value → Shared → Prop} {s : Shared} {Q : Bool → Shared → Prop} (ha : (a == sysModules) = false) (hb : (b == sysModules) = false)
    (da : s.heap.DictRaw a es ep) (db : s.heap.DictRaw b #[] ep') (h : Q (es.size == 0) s) : wpAny (model prog w) A (Builtin.Dict.samePairs nm a b) Q E s := by
  obtain ⟨oa, hoa, _, hda⟩ := da
  obtain ⟨ob, hob, _, hdb⟩ := db
  unfold Builtin.Dict.samePairs Builtin.Dict.showsAll
  rw [if_neg (show ¬ (a == sysModules) = true by rw [ha]; exact Bool.false_ne_true), if_neg (show ¬ (b == sysModules) = true by rw [hb]; exact Bool.false_ne_true)]
  refine wpAny_bind (wpAny_pure (wpAny_bind (wpAny_pure ?_)))
  refine wpAny_bind (wpAny_dictEntries hoa hda ?_)
  dsimp only
  refine wpAny_bind (wpAny_dictEntries hob hdb ?_)
  by_cases hsz : es.size = 0
  case neg =>
    rw [if_pos (by simpa using hsz)]
    have hbf : (es.size == 0) = false := by simpa using hsz
    rw [hbf] at h
    exact wpAny_bind (wpAny_rule (wpAny_pure h))
  case pos =>
    have h' : Q true s := by simpa [hsz] using h
    rw [if_neg (by rw [hsz]; simp)]
    refine wpAny_bind (wpAny_dictEpoch hoa hda ?_)
    refine wpAny_bind ?_
    rw [Std.Legacy.Range.forIn_eq_forIn_range']
    simp only [Std.Legacy.Range.size, Nat.sub_zero, Nat.add_sub_cancel, Nat.div_one]
    rw [hsz]
    exact wpAny_pure (wpAny_pure h')
theorem rcE_dicts {a b : Addr} {es : Array DictEntry} {ep ep' : Nat} {prog : Program} {w : World} {A : Around} {E : Value → Shared → Prop} {s : Shared} {Q : Value → Shared → Prop} (ha : (a == sysModules) = false) (hb : (b == sysModules) = false)
    (da : s.heap.DictRaw a es ep) (db : s.heap.DictRaw b #[] ep') (hu : A.units < cLine) (h : Q (.bool (es.size == 0)) s) : wpAny (model prog w) A (richCompare .Eq (.ref a) (.ref b)) Q E s := by
  refine wpAny_richCompare_same_room (op := .Eq) da.typeIs db.typeIs PySem.F.slot_dict_eq (wpAny_call_entry PySem.F.slot_dict_eq da.typeIs PySem.F.entry_dict_eq ?_ (PySem.F.args_dict_eq_2 _ _)) hu
  show wpAny _ _ (Builtin.Dict.dictSlotArgs "__eq__" ⟨[.ref a, .ref b], []⟩ >>= _) _ _ s
  refine wpAny_bind ?_
  unfold Builtin.Dict.dictSlotArgs
  refine wpAny_bind (wpAny_notOrdered_dict da.typeIs ?_)
  show wpAny _ _ (pure (Value.ref a, Value.ref b)) _ _ s
  refine wpAny_pure ?_
  refine wpAny_bind (wpAny_isInstance (T := "dict") db.typeIs PySem.F.sub_dict_dict ?_)
  simp only [Bool.not_true, Bool.false_eq_true, if_false]
  refine wpAny_bind (wpAny_pure (wpAny_bind (wpAny_pure ?_)))
  refine wpAny_bind (samePairsE ha hb da db ?_)
  refine wpAny_pure ⟨_, rfl, ?_, ?_⟩
  · exact fun x => nomatch x
  · simpa using h
/-- a dict with tuple keys == an empty one -/
def rEqE : R2 := fun x y H Q => ∃ (a b : Addr) (kvs : List (List Key × V)), x = .ref a ∧ y = .ref b ∧ H a = some (.dT kvs) ∧ H b = some (.dT []) ∧ Q (.bl (kvs.length == 0)) H
theorem op_eqE (hu : X.A.units < cLine) : OpR X (richCompare .Eq) rEqE := by
  intro pins s σ H x y v u Q I rx ry h
  obtain ⟨a, b, kvs, rfl, rfl, ha, hb, q⟩ := h
  cases rx
  cases ry
  obtain ⟨es, ep, xs, hsys, hz, raw, hsz, _⟩ := Inv.dT_raw I ha
  obtain ⟨es', ep', xs', hsys', hz', raw', hsz', _⟩ := Inv.dT_raw I hb
  have e : es' = #[] := Array.eq_empty_of_size_eq_zero hsz'
  rw [e] at raw'
  refine rcE_dicts hsys hsys' raw raw' hu ⟨.bl (kvs.length == 0), H, I, ?_, q⟩
  rw [hsz]
  rfl
end
end Lk

/-! Lookscan: what runs while a generator sleeps leaves it asleep. -/
namespace Lk
open PySem PySem.Spec PyProof.Rows L2
open Sem (wp)
def noRun : Resume → Sem PySem.Fin := fun _ => .unsupported "asleep"
/-- old: the table then; a: where the sleepers can not be woken; b: the true one -/
structure Twin (old a b : Array GenState) : Prop where
  size : a.size = b.size
  slept : ∀ (i : Nat) k l c p fs cl, old[i]? = some (GenState.suspended k l c p fs cl) → a[i]? = some (GenState.suspended noRun l c p fs cl) ∧ b[i]? = some (GenState.suspended k l c p fs cl)
  same : ∀ (i : Nat), (∀ k l c p fs cl, old[i]? ≠ some (GenState.suspended k l c p fs cl)) → a[i]? = b[i]? ∧ ∀ k l c p fs cl, a[i]? = some (GenState.suspended k l c p fs cl) → splitAtGen fs = none
def awayFs (e : End) : Prop := match e with | .susp _ _ _ _ _ _ fs => splitAtGen fs = none | _ => True
theorem Twin.set {old a b : Array GenState} (t : Twin old a b) {i : Nat} {x : GenState} (hi : ∀ k l c p fs cl, old[i]? ≠ some (GenState.suspended k l c p fs cl)) (hx : ∀ k l c p fs cl, x = GenState.suspended k l c p fs cl → splitAtGen fs = none) :
    Twin old (a.setIfInBounds i x) (b.setIfInBounds i x) where
  size := by simp [t.size]
  slept := fun j k l c p fs cl h => by
    have hne : i ≠ j := fun e => hi k l c p fs cl (e ▸ h)
    rw [Array.getElem?_setIfInBounds_ne hne, Array.getElem?_setIfInBounds_ne hne]
    exact t.slept j k l c p fs cl h
  same := fun j hj => by
    by_cases hne : i = j
    · subst hne
      have hs := t.size
      by_cases hlt : i < a.size
      · have hlt2 : i < b.size := by omega
        refine ⟨by simp [hlt, hlt2], fun k l c p fs cl h => ?_⟩
        have e : (a.setIfInBounds i x)[i]? = some x := by simp [hlt]
        rw [e] at h
        exact hx k l c p fs cl (Option.some.inj h)
      · have hlt2 : ¬ i < b.size := by omega
        refine ⟨by simp [hlt, hlt2], fun k l c p fs cl h => ?_⟩
        have e : (a.setIfInBounds i x)[i]? = none := by simp [hlt]
        rw [e] at h
        cases h
    · rw [Array.getElem?_setIfInBounds_ne hne, Array.getElem?_setIfInBounds_ne hne]
      exact t.same j hj
theorem Twin.push {old a b : Array GenState} (t : Twin old a b) (ho : old.size ≤ a.size) {x : GenState} (hx : ∀ k l c p fs cl, x = GenState.suspended k l c p fs cl → splitAtGen fs = none) : Twin old (a.push x) (b.push x) where
  size := by simp [t.size]
  slept := fun j k l c p fs cl h => by
    obtain ⟨h1, h2⟩ := t.slept j k l c p fs cl h
    have l1 := (Array.getElem?_eq_some_iff.mp h1).1
    have l2 := (Array.getElem?_eq_some_iff.mp h2).1
    rw [Array.getElem?_push_lt l1, Array.getElem?_push_lt l2, ← Array.getElem?_eq_getElem l1, ← Array.getElem?_eq_getElem l2]
    exact ⟨h1, h2⟩
  same := fun j hj => by
    have hs := t.size
    have e1 : (a.push x)[j]? = if j = a.size then some x else a[j]? := Array.getElem?_push
    have e2 : (b.push x)[j]? = if j = b.size then some x else b[j]? := Array.getElem?_push
    rw [e1, e2, hs]
    by_cases hne : j = b.size
    · rw [if_pos hne, if_pos hne]
      exact ⟨rfl, fun k l c p fs cl h => hx k l c p fs cl (Option.some.inj h)⟩
    · rw [if_neg hne, if_neg hne]
      exact t.same j hj
theorem Twin.awake {old a b : Array GenState} (t : Twin old a b) {i : Nat} {x : GenState} (hg : a[i]? = some x) (hx : ∀ k l c p fs cl, x ≠ GenState.suspended k l c p fs cl) :
    (∀ k l c p fs cl, old[i]? ≠ some (GenState.suspended k l c p fs cl)) ∧ b[i]? = some x := by
  have h : ∀ k l c p fs cl, old[i]? ≠ some (GenState.suspended k l c p fs cl) := fun k l c p fs cl z => by
    rw [(t.slept _ _ _ _ _ _ _ z).1] at hg
    exact hx _ _ _ _ _ _ (Option.some.inj hg).symm
  exact ⟨h, (t.same i h).1.symm.trans hg⟩
theorem Twin.seen {old a b : Array GenState} (t : Twin old a b) {i : Nat} {x : GenState} (hg : a[i]? = some x) : ∃ y, b[i]? = some y ∧ y.seen = x.seen := by
  by_cases hz : ∃ k l c p fs cl, old[i]? = some (GenState.suspended k l c p fs cl)
  · obtain ⟨k0, l0, c0, p0, fs0, cl0, hz⟩ := hz
    obtain ⟨h1, h2⟩ := t.slept _ _ _ _ _ _ _ hz
    rw [hg] at h1
    cases h1
    exact ⟨_, h2, rfl⟩
  · obtain ⟨h1, _⟩ := t.same i fun k l c p fs cl z => hz ⟨k, l, c, p, fs, cl, z⟩
    exact ⟨_, h1.symm.trans hg, rfl⟩
theorem Twin.osize {old a b : Array GenState} (t : Twin old a b) (i : Nat) (h : a[i]? = none) : ∀ k l c p fs cl, old[i]? ≠ some (GenState.suspended k l c p fs cl) := fun k l c p fs cl z => by
  rw [(t.slept i k l c p fs cl z).1] at h
  cases h
theorem no_unsup' {M : Model} {Γ : PySem.Ctx} {p : Pos} {t : Sem PySem.Fin} {fs : List Frame} {s s' : Shared} {e : End} (h : Runs M Γ p t fs s e s') : ∀ m, t = .unsupported m → False := by
  induction h with
  | segRet h _ ih _ => exact ih
  | segGen h _ ih _ => exact ih
  | segSuspOut _ h ih => exact ih
  | segSuspGen _ h _ _ ih _ => exact ih
  | _ => exact fun m z => by cases z
theorem no_unsup {M : Model} {fs : List Frame} {Γ : PySem.Ctx} {p : Pos} {m : String} {s s' : Shared} {e : End} (h : Runs M Γ p (.unsupported m) fs s e s') : False := no_unsup' h m rfl
/-- the state with the other table -/
abbrev wg (s : Shared) (G : Array GenState) : Shared := { s with gens := G }
theorem split_append {fs gs : List Frame} (h : splitAtGen fs = none) (h' : splitAtGen gs = none) : splitAtGen (fs ++ gs) = none := by
  induction fs with
  | nil => exact h'
  | cons F fs ih =>
    cases F with
    | gen => cases h
    | ret k m g l c p kp =>
      have h1 : (splitAtGen fs).map (fun (x : List Frame × _ × List Frame) => (Frame.ret k m g l c p kp :: x.1, x.2)) = none := h
      have h2 : splitAtGen fs = none := by
        cases e : splitAtGen fs with
        | none => rfl
        | some x => rw [e] at h1; cases h1
      show (splitAtGen (fs ++ gs)).map _ = none
      rw [ih h2]
      rfl
theorem split_tail {F : Frame} {fs : List Frame} (h : splitAtGen (F :: fs) = none) : splitAtGen fs = none := by
  cases F with
  | gen => cases h
  | ret k m g l c p kp =>
    have h1 : (splitAtGen fs).map (fun (x : List Frame × _ × List Frame) => (Frame.ret k m g l c p kp :: x.1, x.2)) = none := h
    cases e : splitAtGen fs with
    | none => rfl
    | some x => rw [e] at h1; cases h1
theorem away_state {e : End} (h : awayFs e) : ∀ k l c p fs cl, e.genState = GenState.suspended k l c p fs cl → splitAtGen fs = none := fun k l c p fs cl z => by
  cases e with
  | ret r => cases z
  | susp v g l' k' c' p' fs' => cases z; exact h
theorem runs_twin {M : Model} {old : Array GenState} {Γ : PySem.Ctx} {p : Pos} {t : Sem PySem.Fin} {fs : List Frame} {s s' : Shared} {e : End} (h : Runs M Γ p t fs s e s') :
    ∀ G, splitAtGen fs = none → old.size ≤ s.gens.size → Twin old s.gens G → awayFs e ∧ old.size ≤ s'.gens.size ∧ ∃ G', Twin old s'.gens G' ∧ Runs M Γ p t fs (wg s G) e (wg s' G') := by
  induction h with
  | done => exact fun G _ ho T => ⟨True.intro, ho, G, T, .done⟩
  | raise => exact fun G _ ho T => ⟨True.intro, ho, G, T, .raise⟩
  | again hq h ih => exact fun G hf ho T => let ⟨a, b, G', T', r⟩ := ih G hf ho T; ⟨a, b, G', T', .again hq r⟩
  | rule h ih => exact fun G hf ho T => let ⟨a, b, G', T', r⟩ := ih G hf ho T; ⟨a, b, G', T', .rule r⟩
  | «at» h ih => exact fun G hf ho T => let ⟨a, b, G', T', r⟩ := ih G hf ho T; ⟨a, b, G', T', .at r⟩
  | load hl h ih => exact fun G hf ho T => let ⟨a, b, G', T', r⟩ := ih G hf ho T; ⟨a, b, G', T', .load hl r⟩
  | update hl h ih => exact fun G hf ho T => let ⟨a, b, G', T', r⟩ := ih G hf ho T; ⟨a, b, G', T', .update hl r⟩
  | loadIfAlive h ih => exact fun G hf ho T => let ⟨a, b, G', T', r⟩ := ih G hf ho T; ⟨a, b, G', T', .loadIfAlive r⟩
  | point h ih => exact fun G hf ho T => let ⟨a, b, G', T', r⟩ := ih G hf ho T; ⟨a, b, G', T', .point r⟩
  | alloc h ih => exact fun G hf ho T => let ⟨a, b, G', T', r⟩ := ih G hf ho T; ⟨a, b, G', T', .alloc r⟩
  | fresh h ih => exact fun G hf ho T => let ⟨a, b, G', T', r⟩ := ih G hf ho T; ⟨a, b, G', T', .fresh r⟩
  | ask h ih => exact fun G hf ho T => let ⟨a, b, G', T', r⟩ := ih G hf ho T; ⟨a, b, G', T', .ask r⟩
  | choose hn h ih => exact fun G hf ho T => let ⟨a, b, G', T', r⟩ := ih G hf ho T; ⟨a, b, G', T', .choose hn r⟩
  | os h ih => exact fun G hf ho T => let ⟨a, b, G', T', r⟩ := ih G hf ho T; ⟨a, b, G', T', .os r⟩
  | handled h ih => exact fun G hf ho T => let ⟨a, b, G', T', r⟩ := ih G hf ho T; ⟨a, b, G', T', .handled r⟩
  | stack h ih => exact fun G hf ho T => let ⟨a, b, G', T', r⟩ := ih G hf ho T; ⟨a, b, G', T', .stack r⟩
  | thread h ih => exact fun G hf ho T => let ⟨a, b, G', T', r⟩ := ih G hf ho T; ⟨a, b, G', T', .thread r⟩
  | genState hg h ih =>
    intro G hf ho T
    obtain ⟨a, b, G', T', r⟩ := ih G hf ho T
    obtain ⟨y, h2, e⟩ := T.seen hg
    exact ⟨a, b, G', T', Runs.genState (s := wg _ G) h2 (by rw [e]; exact r)⟩
  | @newGen Γ p k s e s' c h ih =>
    intro G hf ho T
    obtain ⟨a, b, G', T', r⟩ := ih (G.push (.fresh c)) hf (by simp; omega) (T.push ho fun _ _ _ _ _ _ z => by cases z)
    refine ⟨a, b, G', T', Runs.newGen (s := wg s G) ?_⟩
    have e : (wg s G).gens.size = s.gens.size := T.size.symm
    rw [e]
    exact r
  | @call Γ p c h g l k s r s₁ e s' h1 h2 ih1 ih2 =>
    intro G hf ho T
    obtain ⟨a1, b1, G1, T1, r1⟩ := ih1 G rfl ho T
    obtain ⟨a2, b2, G2, T2, r2⟩ := ih2 G1 rfl b1 T1
    exact ⟨a2, b2, G2, T2, .call r1 r2⟩
  | callSusp h1 ih1 =>
    intro G hf ho T
    obtain ⟨a1, b1, G1, T1, r1⟩ := ih1 G rfl ho T
    exact ⟨split_append a1 rfl, b1, G1, T1, .callSusp r1⟩
  | yield => exact fun G _ ho T => ⟨rfl, ho, G, T, .yield⟩
  | @resumeFresh Γ p g l k s c e₁ s₁ e s' hg h1 hq h2 ih1 ih2 =>
    intro G hf ho T
    have hno : ∀ k l c p fs cl, old[g]? ≠ some (GenState.suspended k l c p fs cl) := fun k l c p fs cl z => by
      rw [(T.slept _ _ _ _ _ _ _ z).1] at hg
      cases hg
    obtain ⟨h3, _⟩ := T.same g hno
    obtain ⟨a1, b1, G1, T1, r1⟩ := ih1 (G.setIfInBounds g .running) rfl (by simp [Shared.setGen]; omega) (T.set hno fun _ _ _ _ _ _ z => by cases z)
    obtain ⟨a2, b2, G2, T2, r2⟩ := ih2 (G1.setIfInBounds g e₁.genState) rfl (by simp [Shared.setGen]; omega) (T1.set hno (away_state a1))
    exact ⟨a2, b2, G2, T2, Runs.resumeFresh (s := wg s G) (h3.symm.trans hg) r1 hq r2⟩
  | @resumeSuspended Γ p g r l k s k₀ l₀ c₀ p₀ fs cl e₁ s₁ e s' hg h1 hq h2 ih1 ih2 =>
    intro G hf ho T
    have hno : ∀ k l c p fs cl, old[g]? ≠ some (GenState.suspended k l c p fs cl) := fun k l c p fs cl z => by
      have z2 := (T.slept _ _ _ _ _ _ _ z).1
      rw [hg] at z2
      cases z2
      exact no_unsup h1
    obtain ⟨h3, h4⟩ := T.same g hno
    obtain ⟨a1, b1, G1, T1, r1⟩ := ih1 (G.setIfInBounds g .running) (h4 _ _ _ _ _ _ hg) (by simp [Shared.setGen]; omega) (T.set hno fun _ _ _ _ _ _ z => by cases z)
    obtain ⟨a2, b2, G2, T2, r2⟩ := ih2 (G1.setIfInBounds g e₁.genState) rfl (by simp [Shared.setGen]; omega) (T1.set hno (away_state a1))
    exact ⟨a2, b2, G2, T2, Runs.resumeSuspended (s := wg s G) (h3.symm.trans hg) r1 hq r2⟩
  | resumeJustStarted hg hv h ih =>
    intro G hf ho T
    obtain ⟨a, b, G', T', r⟩ := ih G hf ho T
    exact ⟨a, b, G', T', Runs.resumeJustStarted (s := wg _ G) (T.awake hg fun _ _ _ _ _ _ z => by cases z).2 hv r⟩
  | resumeThrowFresh hg h ih =>
    intro G hf ho T
    obtain ⟨hno, hb⟩ := T.awake hg fun _ _ _ _ _ _ z => by cases z
    obtain ⟨a, b, G', T', r⟩ := ih (G.setIfInBounds _ .finished) hf (by simp [Shared.setGen]; omega) (T.set hno fun _ _ _ _ _ _ z => by cases z)
    exact ⟨a, b, G', T', Runs.resumeThrowFresh (s := wg _ G) hb r⟩
  | resumeRunning hg h ih =>
    intro G hf ho T
    obtain ⟨a, b, G', T', r⟩ := ih G hf ho T
    exact ⟨a, b, G', T', Runs.resumeRunning (s := wg _ G) (T.awake hg fun _ _ _ _ _ _ z => by cases z).2 r⟩
  | resumeFinished hg h ih =>
    intro G hf ho T
    obtain ⟨a, b, G', T', r⟩ := ih G hf ho T
    exact ⟨a, b, G', T', Runs.resumeFinished (s := wg _ G) (T.awake hg fun _ _ _ _ _ _ z => by cases z).2 r⟩
  | segRet h1 h2 ih1 ih2 =>
    intro G hf ho T
    obtain ⟨a1, b1, G1, T1, r1⟩ := ih1 G rfl ho T
    obtain ⟨a2, b2, G2, T2, r2⟩ := ih2 G1 (split_tail hf) b1 T1
    exact ⟨a2, b2, G2, T2, .segRet r1 r2⟩
  | segGen h1 h2 ih1 ih2 => exact fun G hf _ _ => by cases hf
  | segSuspOut hs h1 ih1 =>
    intro G hf ho T
    obtain ⟨a1, b1, G1, T1, r1⟩ := ih1 G rfl ho T
    exact ⟨split_append a1 hf, b1, G1, T1, .segSuspOut hs r1⟩
  | segSuspGen hs h1 hq h2 ih1 ih2 => exact fun G hf _ _ => by rw [hs] at hf; cases hf

theorem wakes_twin {M : Model} {old : Array GenState} {Γ : PySem.Ctx} {p : Pos} {g : Nat} {r : Resume} {s s' : Shared} {res : GenResult} (h : Wakes M Γ p g r s res s') (G : Array GenState) (ho : old.size ≤ s.gens.size) (T : Twin old s.gens G) :
    old.size ≤ s'.gens.size ∧ ∃ G', Twin old s'.gens G' ∧ Wakes M Γ p g r (wg s G) res (wg s' G') := by
  unfold Wakes at h
  cases hg : s.gens[g]? with
  | none => rw [hg] at h; exact h.elim
  | some x =>
    rw [hg] at h
    cases x with
    | fresh c =>
      obtain ⟨hno, hb⟩ := T.awake hg fun _ _ _ _ _ _ z => by cases z
      have hb : (wg s G).gens[g]? = _ := hb
      cases r with
      | send v =>
        cases v with
        | none =>
          obtain ⟨e₁, s₁, h1, hq, rfl, rfl⟩ := h
          obtain ⟨a1, b1, G1, T1, r1⟩ := runs_twin h1 (G.setIfInBounds g .running) rfl (by simp [Shared.setGen]; omega) (T.set hno fun _ _ _ _ _ _ z => by cases z)
          refine ⟨by simp [Shared.setGen]; omega, G1.setIfInBounds g e₁.genState, T1.set hno (away_state a1), ?_⟩
          unfold Wakes
          rw [hb]
          exact ⟨e₁, wg s₁ G1, r1, hq, rfl, rfl⟩
        | _ =>
          obtain ⟨rfl, rfl⟩ := h
          refine ⟨ho, G, T, ?_⟩
          unfold Wakes
          rw [hb]
          exact ⟨rfl, rfl⟩
      | throw x =>
        obtain ⟨rfl, rfl⟩ := h
        refine ⟨by simp [Shared.setGen]; omega, G.setIfInBounds g .finished, T.set hno (fun _ _ _ _ _ _ z => by cases z), ?_⟩
        unfold Wakes
        rw [hb]
        exact ⟨rfl, rfl⟩
    | suspended k₀ l₀ c₀ p₀ fs cl =>
      obtain ⟨e₁, s₁, h1, hq, rfl, rfl⟩ := h
      have hno : ∀ k l c p fs cl, old[g]? ≠ some (GenState.suspended k l c p fs cl) := fun k l c p fs cl z => by
        have z2 := (T.slept _ _ _ _ _ _ _ z).1
        rw [hg] at z2
        cases z2
        exact no_unsup h1
      obtain ⟨h3, h4⟩ := T.same g hno
      obtain ⟨a1, b1, G1, T1, r1⟩ := runs_twin h1 (G.setIfInBounds g .running) (h4 _ _ _ _ _ _ hg) (by simp [Shared.setGen]; omega) (T.set hno fun _ _ _ _ _ _ z => by cases z)
      refine ⟨by simp [Shared.setGen]; omega, G1.setIfInBounds g e₁.genState, T1.set hno (away_state a1), ?_⟩
      unfold Wakes
      rw [show (wg s G).gens[g]? = _ from h3.symm.trans hg]
      exact ⟨e₁, wg s₁ G1, r1, hq, rfl, rfl⟩
    | running =>
      obtain ⟨hno, hb⟩ := T.awake hg fun _ _ _ _ _ _ z => by cases z
      obtain ⟨rfl, rfl⟩ := h
      refine ⟨ho, G, T, ?_⟩
      unfold Wakes
      rw [show (wg s' G).gens[g]? = _ from hb]
      exact ⟨rfl, rfl⟩
    | finished =>
      obtain ⟨hno, hb⟩ := T.awake hg fun _ _ _ _ _ _ z => by cases z
      obtain ⟨rfl, rfl⟩ := h
      refine ⟨ho, G, T, ?_⟩
      unfold Wakes
      rw [show (wg s' G).gens[g]? = _ from hb]
      exact ⟨rfl, rfl⟩
theorem wp_twin {α : Type} (M : Model) (Γ : PySem.Ctx) (old : Array GenState) (t : Sem α) : ∀ (Q : α → Pos → Shared → Prop) (E : Value → Pos → Shared → Prop) (p : Pos) (s : Shared) (G : Array GenState), old.size ≤ s.gens.size → Twin old s.gens G → wp M Γ t Q E p s →
    wp M Γ t (fun a p' s' => ∃ s2 G', Q a p' s2 ∧ s' = wg s2 G' ∧ Twin old s2.gens G') (fun e p' s' => ∃ s2 G', E e p' s2 ∧ s' = wg s2 G' ∧ Twin old s2.gens G') p (wg s G) := by
  induction t with
  | pure a => intro Q E p s G ho T h; exact ⟨s, G, h, rfl, T⟩
  | raise e => intro Q E p s G ho T h; exact ⟨s, G, h, rfl, T⟩
  | unsupported _ => intro Q E p s G _ _ h; exact h
  | finish _ => intro Q E p s G _ _ h; exact h
  | rule _ k ih => intro Q E p s G ho T h; exact ih () Q E p s G ho T h
  | «at» p' k ih => intro Q E p s G ho T h; exact ih () Q E p' s G ho T h
  | load a _ k ih => intro Q E p s G ho T h; obtain ⟨o, hl, h⟩ := h; exact ⟨o, hl, ih o Q E p s G ho T h⟩
  | update a _ f k ih => intro Q E p s G ho T h; exact ⟨h.1, ih () Q E p { s with heap := s.heap.update a f } G ho T h.2⟩
  | loadIfAlive a k ih => intro Q E p s G ho T h; exact ih _ Q E p s G ho T h
  | point _ k ih => intro Q E p s G ho T h; exact ih () Q E p s G ho T h
  | register _ _ => intro Q E p s G _ _ h; exact h
  | alloc o k ih => intro Q E p s G ho T h; exact ih _ Q E p { s with heap := s.heap.push o } G ho T h
  | fresh k ih => intro Q E p s G ho T h; exact ih _ Q E p { s with toks := s.toks + 1 } G ho T h
  | ask k ih => intro Q E p s G ho T h; exact ih _ Q E p s G ho T h
  | choose src m k ih => intro Q E p s G ho T h; exact ⟨h.1, ih _ Q E p { s with drawn := s.drawn.bump src } G ho T h.2⟩
  | os q _ k ih => intro Q E p s G ho T h; exact ih _ Q E p { s with os := (Os.step s.os q).1 } G ho T h
  | call c hd _ _ k ih =>
    intro Q E p s G ho T h
    obtain ⟨r, s', hr, h⟩ := h
    obtain ⟨_, b1, G1, T1, r1⟩ := runs_twin hr G rfl ho T
    exact ⟨r, wg s' G1, r1, ih r Q E p s' G1 b1 T1 h⟩
  | handled own k ih => intro Q E p s G ho T h; exact ih _ Q E p s G ho T h
  | genState g k ih =>
    intro Q E p s G ho T h
    obtain ⟨st, hs, h⟩ := h
    obtain ⟨y, h2, e⟩ := T.seen hs
    exact ⟨y, h2, by rw [e]; exact ih _ Q E p s G ho T h⟩
  | newGen c k ih =>
    intro Q E p s G ho T h
    have hz : (wg s G).gens.size = s.gens.size := T.size.symm
    have T' : Twin old ({ s with gens := s.gens.push (.fresh c) } : Shared).gens (G.push (.fresh c)) := T.push ho fun _ _ _ _ _ _ z => by cases z
    have h2 := ih s.gens.size Q E p { s with gens := s.gens.push (.fresh c) } (G.push (.fresh c)) (by show old.size ≤ (s.gens.push (.fresh c)).size; rw [Array.size_push]; omega) T' h
    show wp M Γ (k (wg s G).gens.size) _ _ _ _
    rw [hz]
    exact h2
  | resume g r _ k ih =>
    intro Q E p s G ho T h
    obtain ⟨res, s', hw, h⟩ := h
    obtain ⟨b1, G1, T1, r1⟩ := wakes_twin hw G ho T
    exact ⟨res, wg s' G1, r1, ih res Q E p s' G1 b1 T1 h⟩
  | yield _ _ _ _ => intro Q E p s G _ _ h; exact h
  | stack k ih => intro Q E p s G ho T h; exact ih _ Q E p s G ho T h
  | fork _ _ => intro Q E p s G _ _ h; exact h
  | thread k ih => intro Q E p s G ho T h; exact ih _ Q E p s G ho T h
  | await _ _ _ _ _ => intro Q E p s G _ _ h; exact h

/-- the sleepers can not be woken -/
def asleep : GenState → GenState
  | .suspended _ l c p fs cl => .suspended noRun l c p fs cl
  | x => x
theorem twin_start (G : Array GenState) : Twin G (G.map asleep) G where
  size := by simp
  slept := fun i k l c p fs cl h => ⟨by rw [Array.getElem?_map, h]; rfl, h⟩
  same := fun i h => by
    rw [Array.getElem?_map]
    cases e : G[i]? with
    | none => exact ⟨rfl, fun k l c p fs cl z => by cases z⟩
    | some x =>
      cases x with
      | suspended k l c p fs cl => exact absurd e (h k l c p fs cl)
      | fresh c => exact ⟨rfl, fun k l c p fs cl z => by cases z⟩
      | running => exact ⟨rfl, fun k l c p fs cl z => by cases z⟩
      | finished => exact ⟨rfl, fun k l c p fs cl z => by cases z⟩
theorem bare_asleep {G : Array GenState} (h : AllBare G) : AllBare (G.map asleep) := fun y hy => by
  obtain ⟨x, hx, rfl⟩ := Array.mem_map.mp hy
  have := h x hx
  cases x <;> exact this
theorem Twin.bare {old a b : Array GenState} (t : Twin old a b) (ho : AllBare old) (h : AllBare a) : AllBare b := fun y hy => by
  obtain ⟨i, hi, e⟩ := Array.mem_iff_getElem.mp hy
  have e2 : b[i]? = some y := by rw [Array.getElem?_eq_getElem hi, e]
  by_cases hz : ∃ k l c p fs cl, old[i]? = some (GenState.suspended k l c p fs cl)
  · obtain ⟨k0, l0, c0, p0, fs0, cl0, hz⟩ := hz
    have h2 := (t.slept _ _ _ _ _ _ _ hz).2
    rw [e2] at h2
    cases h2
    exact ho _ (Array.mem_of_getElem? hz)
  · obtain ⟨h1, _⟩ := t.same i fun k l c p fs cl z => hz ⟨k, l, c, p, fs, cl, z⟩
    exact h _ (Array.mem_of_getElem? (h1.trans e2))
/-- what runs well while all who sleep can not be woken: they sleep on, as they are -/
theorem wpAny_asleep {α : Type} {M : Model} {A : Around} {t : Sem α} {Q : α → Shared → Prop} {E : Value → Shared → Prop} {s : Shared} (hb : AllBare s.gens)
    (h : wpAny M A t (fun a s' => ∀ G, (AllBare s'.gens → AllBare G) → (∀ (i : Nat) k l c p fs cl, s.gens[i]? = some (GenState.suspended k l c p fs cl) → G[i]? = some (GenState.suspended k l c p fs cl)) → Q a (wg s' G)) E (wg s (s.gens.map asleep)))
    (hE : ∀ e s' G, E e s' → E e (wg s' G)) : wpAny M A t Q E s := by
  intro Γ p hΓ
  have T := twin_start s.gens
  have z := wp_twin M Γ s.gens t _ _ p (wg s (s.gens.map asleep)) s.gens (by simp) T (h Γ p hΓ)
  exact Sem.wp_mono M Γ t (fun a p' s' ⟨s2, G', q, e, T'⟩ => by rw [e]; exact q G' (fun hb2 => T'.bare hb hb2) fun i k l c p fs cl hi => (T'.slept i k l c p fs cl hi).2) (fun e p' s' ⟨s2, G', q, e2, T'⟩ => by rw [e2]; exact hE _ _ _ q) p s z
end Lk

/-! Lookscan: a generator that is walked by a comprehension: the generator's side. -/
namespace Lk
open PySem PySem.Spec PyProof.Rows L2 Evl GenW
/-- one stretch of a generator's run -/
def Sg (M : Model) (A : Around) (Φ : End → Shared → Prop) (c : Code) (t : Sem PySem.Fin) (fs : List Frame) (s : Shared) : Prop :=
  ∀ (Γ : PySem.Ctx) (p : Pos), Γ.code = c → PySem.Ctx.Woken Γ A → ∃ e s', Runs M Γ p t fs s e s' ∧ Φ e s'
section
variable {M : Model} {A : Around} {Φ : End → Shared → Prop} {c : Code} {fs : List Frame} {s : Shared}
theorem sg_wrap {α : Type} {m : Sem α} {K : α → Sem PySem.Fin} {J : Value → Sem PySem.Fin} {gd : Bool → Bool} {lv : List Value → List Value}
    (h : wpAny M (A.over c fs) m (fun a s' => Sg M A Φ c (K a) fs s') (fun x s' => Sg M A Φ c (J x) fs s') s) : Sg M A Φ c (m.wrap K J gd lv) fs s := by
  rintro Γ p rfl hΓ
  exact runs_wrap_of_wp K J gd lv m (h (Γ.over fs) p (hΓ.over fs)) (fun a p' s' h' => h' Γ p' rfl hΓ) (fun x p' s' h' => h' Γ p' rfl hΓ)
theorem sg_bindw {α β : Type} {m : Sem α} {f : α → Sem β} {K : β → Sem PySem.Fin} {J : Value → Sem PySem.Fin} {gd : Bool → Bool} {lv : List Value → List Value}
    (h : wpAny M (A.over c fs) m (fun a s' => Sg M A Φ c ((f a).wrap K J gd lv) fs s') (fun x s' => Sg M A Φ c (J x) fs s') s) : Sg M A Φ c ((m >>= f).wrap K J gd lv) fs s := by
  rw [Sem.bind_eq_wrap', Sem.wrap_wrap]
  exact sg_wrap h
theorem sg_at {p' : Pos} {k : Unit → Sem PySem.Fin} (h : Sg M A Φ c (k ()) fs s) : Sg M A Φ c (.at p' k) fs s :=
  sg_wrap (m := standAt p') (K := k) (J := .raise) (gd := id) (lv := id) (wpAny_standAt h)
theorem sg_point {l : List Value} {k : Unit → Sem PySem.Fin} (h : Sg M A Φ c (k ()) fs s) : Sg M A Φ c (.point l k) fs s :=
  sg_wrap (m := point) (K := k) (J := .raise) (gd := id) (lv := fun _ => l) (wpAny_point h)
theorem sg_call {c' : Code} {h : Option Value} {g : Bool} {l : List Value} {k : Result → Sem PySem.Fin} (hc : ∀ p, Sg M A Φ c' (M.den c') (.ret k h g l c p [] :: fs) s) : Sg M A Φ c (.call c' h g l k) fs s := by
  rintro Γ p rfl hΓ
  obtain ⟨e, s', hr, he⟩ := hc p (Γ.goto c') p rfl (hΓ.goto c')
  exact ⟨e, s', runs_call_seg hr, he⟩
theorem sg_leaf {k : Result → Sem PySem.Fin} {h : Option Value} {g : Bool} {l : List Value} {c₁ : Code} {p₁ : Pos} {kp : List Value} (r : Result) (hk : Sg M A Φ c₁ (k r) fs s) : Sg M A Φ c (leafOf r) (.ret k h g l c₁ p₁ kp :: fs) s := by
  rintro Γ p rfl hΓ
  obtain ⟨e, s', hr, he⟩ := hk (Γ.goto c₁) p₁ rfl (hΓ.goto c₁)
  exact ⟨e, s', Runs.pop r hr, he⟩
theorem sg_again {c' : Code} (hq : c'.quiet = true) (hc : Sg M A Φ c' (M.den c') fs s) : Sg M A Φ c (.pure (.again c')) fs s := by
  rintro Γ p rfl hΓ
  obtain ⟨e, s', hr, he⟩ := hc (Γ.goto c') p rfl (hΓ.goto c')
  exact ⟨e, s', Runs.head (c₁ := c') (fun _ _ x => .again hq x) hr, he⟩
theorem sg_end (r : Result) (h : Φ (.ret r) s) : Sg M A Φ c (leafOf r) [] s := by
  rintro Γ p rfl _
  exact ⟨.ret r, s, Runs.leaf r, h⟩
theorem sg_yield {v : Value} {g : Bool} {l : List Value} {k : Resume → Sem PySem.Fin} (hfs : splitAtGen fs = none) (h : ∀ p, Φ (.susp v g l k c p fs) s) : Sg M A Φ c (.yield v g l k) fs s := by
  rintro Γ p rfl _
  exact ⟨_, s, Runs.yield' fs hfs, h p⟩
end

/-- all that is tracked stays as it is, but for the list at D -/
def ExB (D : Addr) (H H' : Hp) : Prop := ∀ b o, b ≠ D → H b = some o → H' b = some o
/-- the consumer's turn: s the state at the yield, H what is tracked then; ip: the generator's own iterators -/
structure Woke (X : Cx) (C D : Addr) (ip : List (Addr × Obj)) (H : Hp) (s : Shared) (H' : Hp) (oC : Obj) (s' : Shared) : Prop where
  os : s'.os = X.s_0.os
  bare : AllBare s'.gens
  un : Un X.fs X.ex X.H_0 H' X.s_0.heap s'.heap
  hok : HOk X.prog X.w H' s'.heap
  pin : ∀ p ∈ X.pn ++ ip, s'.heap.get? p.1 = some p.2 ∧ H' p.1 = none
  loc : ∀ o, s.heap.get? X.env.locals = some o → s'.heap.get? X.env.locals = some o
  free : H' X.env.locals = none
  C : s'.heap.get? C = some oC ∧ H' C = none ∧ ∀ v, oC.data ≠ .cell v
  ex : ExB D H H'
theorem inv_woke {X : Cx} {C D : Addr} {ip : List (Addr × Obj)} {oC oC' : Obj} {σ : L2.St} {H H' : Hp} {s s' : Shared} (hcl : ∀ x, X.env.cells.lookup x = none) (hk : ∀ x, X.env.kindOf x ≠ some .cell ∧ X.env.kindOf x ≠ some .free)
    (I : Inv X ((C, oC) :: ip) σ H s) (w : Woke X C D ip H s H' oC' s') : Inv X ((C, oC') :: ip) σ H' s' := by
  refine ⟨I.ok, w.os, w.bare, w.un, ?_, (fun x c e => by rw [hcl] at e; cases e), w.free, (fun x c e => by rw [hcl] at e; cases e), fun p hp => ?_, w.hok, I.len⟩
  · obtain ⟨m, hm, hl⟩ := I.loc
    refine ⟨m, ?_, fun i x v e1 e2 e3 => ?_⟩
    · obtain ⟨ob, es, ep, ho, r⟩ := hm
      exact ⟨ob, es, ep, w.loc _ ho, r⟩
    · obtain ⟨u, r, q⟩ := hl i x v e1 e2 e3
      refine ⟨u, r, ?_⟩
      rcases q with q | ⟨q, _⟩
      · exact .inl q
      · rcases q with q | q
        · exact absurd q (hk x).1
        · exact absurd q (hk x).2
  · rcases List.mem_append.mp hp with z | z
    · obtain ⟨_, _, h3, h4, h5⟩ := I.pin p (List.mem_append_left _ z)
      obtain ⟨h1, h2⟩ := w.pin p (List.mem_append_left _ z)
      exact ⟨h1, h2, h3, h4, h5⟩
    · rcases List.mem_cons.mp z with z | z
      · obtain ⟨_, _, h3, h4, _⟩ := I.pin (C, oC) (List.mem_append_right _ List.mem_cons_self)
        rw [z]
        exact ⟨w.C.1, w.C.2.1, h3, h4, w.C.2.2⟩
      · obtain ⟨_, _, h3, h4, h5⟩ := I.pin p (List.mem_append_right _ (List.mem_cons_of_mem _ z))
        obtain ⟨h1, h2⟩ := w.pin p (List.mem_append_right _ z)
        exact ⟨h1, h2, h3, h4, h5⟩
/-- how a stretch ends: the places still to come; what was tracked when it was woken, the consumer's frame -/
def Aft (X : Cx) (C D : Addr) (A : Around) : List (List Int) → Hp → Obj → End → Shared → Prop
  | [] => fun Hw oC e s' => e = .ret (.ok (.ret .none)) ∧ ∃ ip σ H, Inv X ((C, oC) :: ip) σ H s' ∧ Ex Hw H
  | c :: cs => fun Hw oC e s' => match e with
    | .ret _ => False
    | .susp v g l k c' p fs => (End.susp v g l k c' p fs).quiet = true ∧ ∃ x ip σ H, RelV x v ∧ Inv X ((C, oC) :: ip) σ H s' ∧ Ex Hw H ∧ Pl H x c ∧ (∀ p ∈ ip, p.1 ≠ C) ∧ ∀ H' oC' s'', Woke X C D ip H s' H' oC' s'' → Sg (model X.prog X.w) A (Aft X C D A cs H' oC') c' (k (.send .none)) fs s''
/-- what is wanted behind a statement: by the places still to come and what was tracked when it was woken -/
structure GEn where
  nx : List (List Int) → Hp → L2.St → Hp → Prop
  bk : List (List Int) → Hp → L2.St → Hp → Prop := fun _ _ _ _ => False
  ct : List (List Int) → Hp → L2.St → Hp → Prop := fun _ _ _ _ => False
def GEn.at (E : GEn) (r : List (List Int)) (Hw : Hp) : Ends := { nx := E.nx r Hw, rt := fun _ _ => False, bk := E.bk r Hw, ct := E.ct r Hw }
abbrev TGk := GEn → List (List Int) → Hp → L2.St → Hp → Prop
def GkP (X : Cx) (C : Addr) (oC : Obj) (ip : List (Addr × Obj)) (E : GEn) (r : List (List Int)) (Hw : Hp) (f : Flow) (s : Shared) : Prop := SP X ((C, oC) :: ip) (E.at r Hw) f s
structure Gc (X : Cx) (A : Around) (c : Code) (fs : List Frame) (gd : Bool → Bool) : Prop where
  over : A.over c fs = X.A
  split : splitAtGen fs = none
  guard : fs.any Frame.guarded = false
  gd : gd false = false
structure Gn (X : Cx) : Prop where
  cells : ∀ x, X.env.cells.lookup x = none
  kind : ∀ x, X.env.kindOf x ≠ some .cell ∧ X.env.kindOf x ≠ some .free
  exc : ∀ e s, X.xe e s → False
  calm : X.calm = true
def GkK (X : Cx) (C D : Addr) (A : Around) (ip : List (Addr × Obj)) (E : GEn) (c : Code) (fs : List Frame) (K : Flow → Sem PySem.Fin) : Prop :=
  ∀ r Hw oC f s, GkP X C oC ip E r Hw f s → Sg (model X.prog X.w) A (Aft X C D A r Hw oC) c (K f) fs s
structure GkS (X : Cx) (C D : Addr) (st : Stmt) (t : TGk) : Prop where
  run : ∀ (A : Around) (ip : List (Addr × Obj)) (c : Code) (fs : List Frame) (K : Flow → Sem PySem.Fin) (J : Value → Sem PySem.Fin) (gd : Bool → Bool) (lv : List Value → List Value) (r : List (List Int)) (Hw : Hp) (oC : Obj) (s : Shared) (σ : L2.St) (H : Hp) (E : GEn),
    Gc X A c fs gd → (∀ p ∈ ip, p.1 ≠ C) → GkK X C D A ip E c fs K → Inv X ((C, oC) :: ip) σ H s → t E r Hw σ H → Sg (model X.prog X.w) A (Aft X C D A r Hw oC) c ((exec st X.env).wrap K J gd lv) fs s
structure GkSs (X : Cx) (C D : Addr) (st : List Stmt) (t : TGk) : Prop where
  run : ∀ (A : Around) (ip : List (Addr × Obj)) (c : Code) (fs : List Frame) (K : Flow → Sem PySem.Fin) (J : Value → Sem PySem.Fin) (gd : Bool → Bool) (lv : List Value → List Value) (r : List (List Int)) (Hw : Hp) (oC : Obj) (s : Shared) (σ : L2.St) (H : Hp) (E : GEn),
    Gc X A c fs gd → (∀ p ∈ ip, p.1 ≠ C) → GkK X C D A ip E c fs K → Inv X ((C, oC) :: ip) σ H s → t E r Hw σ H → Sg (model X.prog X.w) A (Aft X C D A r Hw oC) c ((execs st X.env).wrap K J gd lv) fs s
section
variable {X : Cx} {C D : Addr} {st : Stmt} {rest : List Stmt}
def tgPlain (t : TS) : TGk := fun E r Hw σ H => t (E.at r Hw) σ H
theorem gk_ps {t : TS} (g : Gn X) (h : PS X st t) : GkS X C D st (tgPlain t) := by
  refine ⟨fun A ip c fs K J gd lv r Hw oC s σ H E gc gi k I ht => sg_wrap ?_⟩
  rw [gc.over]
  exact wpAny_mono (h.run _ s σ H _ I ht) (fun f s' hs => k r Hw oC f s' hs) fun x s' hx => (g.exc x s' hx).elim
theorem gks_pss {t : TS} (g : Gn X) (h : PSs X rest t) : GkSs X C D rest (tgPlain t) := by
  refine ⟨fun A ip c fs K J gd lv r Hw oC s σ H E gc gi k I ht => sg_wrap ?_⟩
  rw [gc.over]
  exact wpAny_mono (h.run _ s σ H _ I ht) (fun f s' hs => k r Hw oC f s' hs) fun x s' hx => (g.exc x s' hx).elim
def tgNil : TGk := fun E r Hw σ H => E.nx r Hw σ H
theorem gks_nil : GkSs X C D [] tgNil := ⟨fun A ip c fs K J gd lv r Hw oC s σ H E gc gi k I ht => k r Hw oC .next s ⟨σ, H, I, ht⟩⟩
def tgThen (t u : TGk) : TGk := fun E r Hw σ H => t { E with nx := fun r' Hw' σ' H' => u E r' Hw' σ' H' } r Hw σ H
theorem gks_cons {t u : TGk} (a : GkS X C D st t) (b : GkSs X C D rest u) : GkSs X C D (st :: rest) (tgThen t u) := by
  refine ⟨fun A ip c fs K J gd lv r Hw oC s σ H E gc gi k I ht => ?_⟩
  rw [execs_cons_wrap]
  refine a.run A ip c fs _ J gd lv r Hw oC s σ H { E with nx := fun r' Hw' σ' H' => u E r' Hw' σ' H' } gc gi (fun r' Hw' oC' f s' hs => ?_) I ht
  cases f with
  | next =>
    obtain ⟨σ', H', I', q⟩ := hs
    exact b.run A ip c fs K J gd lv r' Hw' oC' s' σ' H' E gc gi k I' q
  | brk => exact k r' Hw' oC' .brk s' hs
  | cont => exact k r' Hw' oC' .cont s' hs
  | ret u => exact k r' Hw' oC' (.ret u) s' hs
/-! ### yield -/
def tgYield (D : Addr) (te : TE) : TGk := fun E r Hw σ H => ∃ c cs, r = c :: cs ∧ te σ H fun x H1 => Pl H1 x c ∧ Ex Hw H1 ∧ ∀ H2, ExB D H1 H2 → E.nx cs H2 σ H2
theorem gk_yield {e : Expr} {yp pos : Pos} {te : TE} (g : Gn X) (he : PE X e te) (hco : X.env.scope.isCoroutine = false := by rfl) (hi : interactive X.env = false := by rfl) : GkS X C D (.Expr (.Yield (some e) yp) pos) (tgYield D te) := by
  refine ⟨fun A ip c fs K J gd lv r Hw oC s σ H E gc gi k I ht => ?_⟩
  obtain ⟨c0, cs, rfl, ht⟩ := ht
  rw [exec_Expr X.env _ pos hi rfl]
  have hy : ∀ v, yieldOut X.env v = yieldValue v := fun v => by simp only [yieldOut, hco, Bool.false_eq_true, if_false]
  show Sg _ A _ c (.at pos fun _ => ((eval e X.env >>= fun v => (standAt yp >>= fun _ => yieldOut X.env v)) >>= fun x => dropValue (.Yield (some e) yp) pos x).wrap K J gd lv) fs s
  simp only [hy]
  refine sg_at ?_
  rw [Sem.bind_eq_wrap', Sem.bind_eq_wrap', Sem.wrap_wrap, Sem.wrap_wrap]
  refine sg_wrap ?_
  rw [gc.over]
  refine wpAny_mono (he.run _ s σ H _ I ht) (fun v s' hv => ?_) fun x s' hx => (g.exc x s' hx).elim
  obtain ⟨x, H1, I1, rv, hx, hE, q⟩ := hv
  refine sg_at (sg_yield gc.split fun p => ?_)
  refine ⟨by simp [End.quiet, gc.gd, gc.guard], x, ip, σ, H1, rv, I1, hE, hx, gi, fun H' oC' s'' w => ?_⟩
  exact k cs H' oC' .next s'' ⟨σ, H', inv_woke g.cells g.kind I1 w, q H' w.ex⟩
/-! ### for -/
def tgFor (wi : TI) (g : TG) (tb : TGk) : TGk := fun E r Hw σ H => wi σ H fun J H1 => ∃ W : Nat → Nat → List (List Int) → Hp → L2.St → Hp → Prop, (∃ m, W 0 m r Hw σ H1) ∧ ∀ i m r Hw σ H, W i m r Hw σ H →
  (J.stop i H ∧ E.nx r Hw σ H) ∨ (J.go i H ∧ ∃ N : List (List Int) → Hp → L2.St → Hp → Prop, (∀ r' Hw' σ' H', N r' Hw' σ' H' → ∃ m', m' < m ∧ W (i + 1) m' r' Hw' σ' H') ∧
    ∀ x H', J.yld i H x H' → g x σ H' fun σ2 H2 => tb { E with nx := N, ct := N, bk := E.nx } r Hw σ2 H2)
theorem gc_in {A : Around} {c c' : Code} {fs : List Frame} {gd : Bool → Bool} {k : Result → Sem PySem.Fin} {l kp : List Value} {p : Pos} (g : Gc X A c fs gd) (hw : c'.weight = 0) (hu : c'.cUnits = 0) : Gc X A c' (.ret k none (gd false) l c p kp :: fs) id where
  over := (over_loop hw hu).trans g.over
  split := by
    show (splitAtGen fs).map _ = none
    rw [g.split]; rfl
  guard := by
    show (gd false || fs.any Frame.guarded) = false
    rw [g.gd, g.guard]; rfl
  gd := rfl
theorem gk_for {tg iter : Expr} {body : List Stmt} {pos : Pos} {wi : TI} {g : TG} {tb : TGk} (gn : Gn X) (hi : PI X tg iter wi) (hg : PG X tg g) (hb : GkSs X C D body tb)
    (hs : ∀ x, foldedSetIterable iter X.env x = pure x := by intro _; rfl) : GkS X C D (.For tg iter body [] pos) (tgFor wi g tb) := by
  refine ⟨fun A ip c fs K J gd lv r Hw oC s σ H E gc gi k I ht => ?_⟩
  rw [exec_For]
  refine sg_bindw (wpAny_standAt (sg_bindw ?_))
  rw [gc.over]
  refine wpAny_mono (hi.run _ s σ H _ I ht) (fun v s1 h1 => ?_) fun x s' hx => (gn.exc x s' hx).elim
  refine sg_bindw ?_
  refine wpAny_of_eq (hs v) (sg_bindw (wpAny_standAt (sg_bindw (wpAny_holding ?_))))
  rw [gc.over]
  refine wpAny_mono h1 (fun itv s2 h2 => ?_) fun x s' hx => (gn.exc x s' hx).elim
  obtain ⟨it, fp, tn, Jt, H2, e, I2, T, st2, f2, W, ⟨m0, w0⟩, turn⟩ := h2
  let oC0 := oC
  subst e
  refine sg_call fun p => ?_
  have stat : ∀ {oC' : Obj} {H' : Hp}, (∀ b ∈ fp, H' b = none) → ∀ b ∈ fp, FpOk X ((C, oC') :: ip) H' b := fun {oC' H'} hn b hb => by
    obtain ⟨_, f1, f2', f3, f4, f5⟩ := f2 b hb
    refine ⟨hn b hb, f1, f2', f3, f4, fun q hq => ?_⟩
    rcases List.mem_append.mp hq with z | z
    · exact f5 q (List.mem_append_left _ z)
    · rcases List.mem_cons.mp z with z | z
      · rw [z]; exact f5 (C, oC) (List.mem_append_right _ List.mem_cons_self)
      · exact f5 q (List.mem_append_right _ (List.mem_cons_of_mem _ z))
  have gl := fun (kk : Result → Sem PySem.Fin) => gc_in (k := kk) (c' := .forLoop tg (.ref it) body [] X.env) (l := lv []) (kp := []) (p := p) gc rfl rfl
  have gb := fun (kk : Result → Sem PySem.Fin) => gc_in (k := kk) (c' := .block [] X.env) (l := lv []) (kp := []) (p := p) gc rfl rfl
  have loop : ∀ (m i : Nat) (r : List (List Int)) (Hw : Hp) (oC : Obj) (s : Shared) (σ : L2.St) (H : Hp), W i m r Hw σ H → Inv X ((C, oC) :: ip) σ H s → tn i s.heap → (∀ b ∈ fp, H b = none) →
      Sg (model X.prog X.w) A (Aft X C D A r Hw oC) (.forLoop tg (.ref it) body [] X.env) ((model X.prog X.w).den (.forLoop tg (.ref it) body [] X.env))
        (.ret (fun r => ((match r with | .ok f => (.pure f : Sem Flow) | .error e => .raise e).onRaise (cameBack X.env)).wrap K J gd lv) none (gd false) (lv []) c p [] :: fs) s := by
    intro m
    induction m using Nat.strongRecOn with
    | ind m ih =>
      intro i r Hw oC s3 σ3 H3 w3 I3 st3 fr3
      show Sg _ A _ _ ((forTurn tg (.ref it) body [] X.env).onRaise (fun x => do noteFrame x X.env; theTreesLotGoes x)) _ s3
      rw [Sem.onRaise_eq_wrap]
      unfold forTurn
      refine sg_bindw (wpAny_standAt (sg_bindw (wpAny_onRaise ?_)))
      rw [(gl _).over]
      rcases turn i m r Hw σ3 H3 w3 with ⟨stop, qn⟩ | ⟨go, N, hN, step⟩
      · refine wpAny_mono (T.done X rfl rfl rfl gn.calm i _ s3 σ3 H3 X.xe I3 (stat fr3) st3 stop) (fun rr s4 ⟨hr, I4⟩ => ?_) fun x s' hx => (gn.exc x s' hx).elim
        subst hr
        show Sg _ A _ _ (.pure (.again (.block [] X.env))) _ s4
        refine sg_again rfl ?_
        show Sg _ A _ _ (((execs [] X.env).onRaise (fun x => do noteFrame x X.env; theTreesLotGoes x)) >>= fun f => pure (.done f)) _ s4
        rw [Sem.bind_eq_wrap']
        refine sg_wrap ?_
        rw [(gb _).over]
        refine wpAny_onRaise (wpAny_execs_nil ?_)
        exact sg_leaf (.ok .next) (k r Hw oC .next s4 ⟨σ3, H3, I4, qn⟩)
      · refine wpAny_mono (T.item X rfl rfl rfl gn.calm i _ s3 σ3 H3 X.xe I3 (stat fr3) st3 go) (fun rr s4 ⟨u, hr, h4⟩ => ?_) fun x s' hx => (gn.exc x s' hx).elim
        subst hr
        refine sg_bindw ?_
        rw [(gl _).over]
        refine wpAny_mono h4 (fun _ s5 ⟨x, H5, I5, r5, y5, st5, fr5⟩ => ?_) fun x s' hx => (gn.exc x s' hx).elim
        have I5' := I5.pinned (stat fr5) (T.obj _ _ st5)
        refine sg_bindw ?_
        rw [(gl _).over]
        refine wpAny_mono (hg.run _ s5 σ3 H5 x u _ I5' r5 (step x H5 y5)) (fun _ s6 ⟨σ6, H6, I6, q6⟩ => ?_) fun x s' hx => (gn.exc x s' hx).elim
        rw [Sem.bind_eq_wrap', Sem.wrap_wrap]
        refine hb.run A (ip ++ pinsAt fp s5.heap) _ _ _ _ _ _ r Hw oC s6 σ6 H6 { E with nx := N, ct := N, bk := E.nx } ⟨(gl _).over, (gl _).split, (gl _).guard, rfl⟩ (fun q hq => ?_) (fun r7 Hw7 oC7 f s7 q7 => ?_) I6 q6
        · rcases List.mem_append.mp hq with z | z
          · exact gi q z
          · obtain ⟨hb, _⟩ := of_pinsAt z
            obtain ⟨_, _, _, _, _, f5⟩ := f2 q.1 hb
            exact fun z => f5 (C, oC0) (List.mem_append_right _ List.mem_cons_self) z.symm
        have again : ∀ {σ7 : L2.St} {H7 : Hp}, Inv X ((C, oC7) :: (ip ++ pinsAt fp s5.heap)) σ7 H7 s7 → N r7 Hw7 σ7 H7 → Sg (model X.prog X.w) A (Aft X C D A r7 Hw7 oC7) (.forLoop tg (.ref it) body [] X.env) ((model X.prog X.w).den (.forLoop tg (.ref it) body [] X.env))
            (.ret (fun r => ((match r with | .ok f => (.pure f : Sem Flow) | .error e => .raise e).onRaise (cameBack X.env)).wrap K J gd lv) none (gd false) (lv []) c p [] :: fs) s7 := fun {σ7 H7} I7 n7 => by
          obtain ⟨m', hm, w7⟩ := hN r7 Hw7 σ7 H7 n7
          refine ih m' hm (i + 1) r7 Hw7 oC7 s7 σ7 H7 w7 (Inv.unpinned (pins := (C, oC7) :: ip) (pl := pinsAt fp s5.heap) I7) (T.keep _ _ _ st5 fun b hb o e => (I7.pin (b, o) (List.mem_append_right _ (List.mem_cons_of_mem _ (List.mem_append_right _ (mem_pinsAt hb e))))).1) fun b hb => ?_
          obtain ⟨o, e, d⟩ := T.obj _ _ st5 b hb
          exact (I7.pin (b, o) (List.mem_append_right _ (List.mem_cons_of_mem _ (List.mem_append_right _ (mem_pinsAt hb e))))).2.1
        cases f with
        | next => obtain ⟨σ7, H7, I7, n7⟩ := q7; exact sg_again rfl (again I7 n7)
        | cont => obtain ⟨σ7, H7, I7, n7⟩ := q7; exact sg_again rfl (again I7 n7)
        | brk =>
          obtain ⟨σ7, H7, I7, n7⟩ := q7
          exact sg_leaf (.ok .next) (k r7 Hw7 oC7 .next s7 ⟨σ7, H7, Inv.unpinned (pins := (C, oC7) :: ip) (pl := pinsAt fp s5.heap) I7, n7⟩)
        | ret v => obtain ⟨_, _, _, _, _, q⟩ := q7; exact False.elim q
  exact loop m0 0 r Hw oC s2 σ H2 w0 I2 st2 fun b hb => (f2 b hb).1
end
end Lk

/-! Lookscan: a generator def's call; its next item. -/
namespace Lk
open PySem PySem.Spec PyProof.Rows L2 Evl GenW
/-- the generator can be woken -/
def GoS (M : Model) (A : Around) (Φ : End → Shared → Prop) (gs : GenState) (s : Shared) : Prop := match gs with
  | .fresh c => Sg M A Φ c (M.den c) [] s
  | .suspended k _ c _ fs _ => Sg M A Φ c (k (.send .none)) fs s
  | _ => False
theorem wpAny_resumeS {M : Model} {A : Around} {Φ : End → Shared → Prop} {E : Value → Shared → Prop} {s : Shared} {g : Nat} {gs : GenState} {l : List Value} {α : Type} {k : GenResult → Sem α} {Q : α → Shared → Prop} (hg : s.gens[g]? = some gs)
    (hgo : GoS M A Φ gs (s.setGen g .running)) (hq : ∀ e s1, Φ e s1 → e.quiet = true) (hE : ∀ e s1, Φ e s1 → wpAny M A (k e.result) Q E (s1.setGen g e.genState)) : wpAny M A (.resume g (.send .none) l k) Q E s := by
  intro Γ p hΓ
  rw [Sem.wp_resume]
  have hB : ∀ c, PySem.Ctx.Woken (Γ.wake c p) A := fun c => hΓ.wake c p
  cases gs with
  | fresh c =>
    obtain ⟨e₁, s₁, hr, he⟩ := hgo (Γ.wake c p) p rfl (hB c)
    exact ⟨_, _, by unfold Wakes; rw [hg]; exact ⟨e₁, s₁, hr, hq e₁ s₁ he, rfl, rfl⟩, hE e₁ s₁ he Γ p hΓ⟩
  | suspended k₀ l₀ c₀ p₀ fs₀ cl =>
    obtain ⟨e₁, s₁, hr, he⟩ := hgo (Γ.wake c₀ p) p₀ rfl (hB c₀)
    exact ⟨_, _, by unfold Wakes; rw [hg]; exact ⟨e₁, s₁, hr, hq e₁ s₁ he, rfl, rfl⟩, hE e₁ s₁ he Γ p hΓ⟩
  | running => exact hgo.elim
  | finished => exact hgo.elim
theorem aft_quiet {X : Cx} {C D : Addr} {A : Around} {r : List (List Int)} {Hw : Hp} {oC : Obj} {e : End} {s1 : Shared} (h : Aft X C D A r Hw oC e s1) : e.quiet = true := by
  cases r with
  | nil => rw [h.1]; rfl
  | cons c cs =>
    cases e with
    | ret x => rfl
    | susp v g l k c' p fs => exact h.1
/-- a sleeper -/
def IsSlept (x : GenState) : Prop := ∃ k l c p fs cl, x = GenState.suspended k l c p fs cl
theorem next_sg {X : Cx} {C D : Addr} {A : Around} {E : Value → Shared → Prop} {s : Shared} {a : Addr} {g : Nat} {gs : GenState} {r : List (List Int)} {Hw : Hp} {oC : Obj} {Q : Option Value → Shared → Prop} (hh : A.handled = none)
    (hl : s.heap.NoLimit) (hroom : A.depth < recursionLimit) (hg : s.heap.IsGen a g) (hgs : s.gens[g]? = some gs) (hgo : GoS (model X.prog X.w) A.in1 (Aft X C D A.in1 r Hw oC) gs (s.setGen g .running))
    (hY : ∀ c cs, r = c :: cs → ∀ v s1 gs' x ip σ H, gs'.bare = true → IsSlept gs' → RelV x v → Inv X ((C, oC) :: ip) σ H s1 → Ex Hw H → Pl H x c → (∀ p ∈ ip, p.1 ≠ C) → (∀ H' oC' s'', Woke X C D ip H s1 H' oC' s'' → GoS (model X.prog X.w) A.in1 (Aft X C D A.in1 cs H' oC') gs' s'') → Q (some v) (s1.setGen g gs'))
    (hP : r = [] → ∀ s1 ip σ H, Inv X ((C, oC) :: ip) σ H s1 → Ex Hw H → ∀ h', (∀ b o, s1.heap.get? b = some o → h'.get? b = some o) → Q none { s1.setGen g .finished with heap := h' }) :
    wpAny (model X.prog X.w) A (pyNext (.ref a)) Q E s := by
  unfold pyNext
  refine wpAny_bind (wpAny_attempt (wpAny_callSpecial?_slot (name := Str.ofString "__next__") hg.typeIs slot_gen_next
    (wpAny_call_entry slot_gen_next hg.typeIs entry_gen_next ?_ (args_gen_next _))))
  show wpAny _ A.in1 (Builtin.Generator.genWake (.ref a) (.send .none)) _ _ s
  unfold Builtin.Generator.genWake
  refine wpAny_bind (wpAny_holding (wpAny_genNumber hg (wpAny_bind (wpAny_genState hgs ?_))))
  cases gs with
  | running => exact hgo.elim
  | finished => exact hgo.elim
  | _ =>
    refine wpAny_bind (wpAny_roomToWake hl hroom ?_)
    show wpAny _ A.in1 (.resume g (.send .none) [] _) _ _ s
    refine wpAny_resumeS hgs hgo (fun e s1 h => aft_quiet h) (fun e s1 h => ?_)
    cases r with
    | nil =>
      obtain ⟨rfl, ip, σ, H, I, hE⟩ := h
      show wpAny _ A.in1 (newExc (.type "StopIteration") [] >>= _) _ _ _
      refine wpAny_bind ?_
      simp only [newExc, newTuple]
      refine wpAny_bind (wpAny_newObj_type ?_ (by size_fits))
      refine wpAny_bind (m := firstArgMember _ _) (wpAny_of_eq (a := Value.none) (by first | rfl | (simp only [firstArgMember]; rfl)) ?_)
      refine wpAny_newObj_type ?_ (by size_fits)
      simp only [raiseNew]
      refine wpAny_bind (wpAny_bind (wpAny_handled ?_))
      first | rw [show A.in1.handled = none from hh] | rw [hh]
      refine wpAny_throw ?_
      refine wpAny_bind (wpAny_isInstance (T := "StopIteration") (b := true) ⟨_, Heap.get?_push_size _ rfl, rfl⟩ isSubtype_stop ?_)
      exact wpAny_pure (hP rfl s1 ip σ H I hE _ fun b o hb => Heap.get?_push_of_some _ (Heap.get?_push_of_some _ hb))
    | cons c cs =>
      cases e with
      | ret x => exact False.elim h
      | susp v g' l k c' p fs =>
        obtain ⟨hq, x, ip, σ, H, rv, I, hE, hx, hip, hk⟩ := h
        exact wpAny_pure ⟨v, rfl, wpAny_pure (hY c cs rfl v s1 _ x ip σ H (End.bare_of_quiet (e := .susp v g' l k c' p fs) hq) ⟨k, l, c', p, fs, _, rfl⟩ rv I hE hx hip hk)⟩

/-- a generator that has not begun, made by a call at s: it is to walk r -/
structure GkMade (P : Program) (w : World) (k : Nat) (outer : List Env) (H : Hp) (s : Shared) (r : List (List Int)) (u : Value) (s' : Shared) (a g L : Nat) (go : Obj) (c : Code) (XA : Around → Cx) : Prop where
  eq : u = .ref a
  os : s'.os = s.os
  bare : AllBare s'.gens
  lim : s'.heap.NoLimit
  keep : ∀ b o, s.heap.get? b = some o → s'.heap.get? b = some o
  here : s'.heap.get? a = some go
  isgen : ∀ h : Heap, h.get? a = some go → h.IsGen a g
  fld : ∃ vs, go.data = .fields vs
  gcl : go.cls = .type "generator"
  gens : s'.gens[g]? = some (.fresh c)
  a1 : s.heap.objs.size ≤ a
  L1 : s.heap.objs.size ≤ L
  L2 : ∃ o, s'.heap.get? L = some o ∧ ∀ v, o.data ≠ .cell v
  La : L ≠ a
  X : ∀ A, (XA A).prog = P ∧ (XA A).w = w ∧ (XA A).s_0 = s ∧ (XA A).H_0 = H ∧ (XA A).fs = frs outer ∧ (XA A).ex = [] ∧ (XA A).pn = [(a, go)] ∧ (XA A).env.locals = L
  wake : ∀ (A : Around) (C D : Addr) (s2 : Shared) (H2 : Hp) (oC : Obj), Room k A → A.frames = some outer → s'.heap.objs.size ≤ C → (∀ b o, s'.heap.get? b = some o → s2.heap.get? b = some o) → s2.heap.get? C = some oC → (∀ v, oC.data ≠ .cell v) → H2 C = none → H2 a = none → H2 L = none →
    s2.os = s.os → AllBare s2.gens → H2 D ≠ none → Ex H H2 → Un (frs outer) [] H H2 s.heap s2.heap → HOk P w H2 s2.heap → Sg (model P w) A (Aft (XA A) C D A r H2 oC) c ((model P w).den c) [] s2
theorem gk_made {P : Program} {w : World} {K : PySem.W.Frag} {mg : Str → Option Value} {base : Heap} {k : Nat} {f : Addr} {name qual : Str} {params : Arguments} {body : List Stmt} {scope : Scope} {dV kV doc pm cdv ct oc : Value} {an od : Option Addr}
    {osl : Array (Option Value)} {N ps : List Str} (lk : K.lookup f = some ⟨oc, od, .func (PySem.W.fnOf name qual params body scope dV kV doc pm an cdv ct), osl⟩) (hcd : PySem.W.codeIn K cdv qual = true) (S : GScope N ps scope) (hnc : ∀ y ∈ scope.names, y.2 ≠ .cell)
    {A : Around} {outer : List Env} {s : Shared} {H : Hp} {args : Args} {us : List Value} {vs : List V} {r0 : List (List Int)} (hr : Room k A) (e0 : Env0 P w K mg base A outer s H) (hb : BindsTo s (PySem.W.fnOf name qual params body scope dV kV doc pm an cdv ct) args (ps.zip us)) (r : Vals vs us) (hl : vs.length = ps.length)
    (hbody : ∀ (A : Around) (C D : Addr) (pn : List (Addr × Obj)), Room k A → ∃ t, GkSs (gcxOf P w K mg base N qual scope f cdv A outer s H (fun _ _ _ => False) pn).nox C D body t ∧ ∀ H2, H2 D ≠ none → Ex H H2 → t { nx := fun r' Hw σ' H' => r' = [] ∧ Ex Hw H' } r0 H2 (start N vs) H2) :
    codeAny (model P w) A (.call (.ref f) args) (fun res s' => match res with | .ok (.ret u) => ∃ a g L go c XA, GkMade P w k outer H s r0 u s' a g L go c XA | _ => False) s := by
  have KX : K.In s.heap := e0.mod.kin.keeps fun b o e => (e0.bs b o e).1
  have lim : s.heap.NoLimit := e0.mod.nolimit.keeps fun b o e => (e0.bs b o e).1
  have hkind : ∀ y ∈ ps.zip us, scope.names.lookup y.1 = some .local ∨ (scope.names.lookup y.1 = some .cell ∧ ((cellsFrom (s.heap.objs.size + 1) scope.names []).lookup y.1).isSome = true) := fun ⟨n, v⟩ hy => by
    rcases S.par n (List.of_mem_zip hy).1 with q | q
    · exact .inl q
    · exact .inr ⟨q, PySem.W.cellsFrom_some _ _ _ (.inl q)⟩
  have nocells : ∀ (names : List (Str × NameKind)) (n : Nat), (∀ y ∈ names, y.2 ≠ .cell) → cellsFrom n names [] = [] := fun names => by
    induction names with
    | nil => intro n _; rfl
    | cons y ys ih =>
      intro n h
      obtain ⟨x, kd⟩ := y
      have h1 : kd ≠ .cell := h (x, kd) List.mem_cons_self
      unfold cellsFrom
      rw [if_neg (by simpa using h1)]
      exact ih n fun z hz => h z (List.mem_cons_of_mem _ hz)
  refine codeAny_call_generator hr.depth (KX _ _ lk) rfl S.co S.gen rfl (PySem.W.codeRec_of KX hcd) (hb _ _ _ _ ?_)
  refine wpAny_newFunctionEnv_cells S.kind hkind fun env he s1 x => ?_
  subst he
  have lim1 : s1.heap.NoLimit := lim.keeps x.toInCall.keep
  refine ⟨lim1, ?_⟩
  obtain ⟨h1, tk, es1, hk1⟩ := x.done
  have os1 : s1.os = s.os := by rw [es1]
  have gen1 : s1.gens = s.gens := by rw [es1]
  have lt1 : s.heap.objs.size < s1.heap.objs.size := x.toInCall.ns.lt
  have kp1 : ∀ b o, s.heap.get? b = some o → s1.heap.get? b = some o := x.toInCall.keep
  have hL : ∃ o, s1.heap.get? s.heap.objs.size = some o ∧ ∀ v, o.data ≠ .cell v := by
    obtain ⟨ob, es, ep, ho, hd, _⟩ := x.toInCall.ns
    exact ⟨ob, ho, fun v q => by rw [hd] at q; cases q⟩
  have main : ∀ (go : Obj) (nm qn : Value) (tk2 : Nat), go.cls = .type "generator" → go.data = .fields #[.int s1.gens.size 0, nm, qn] → go.slots = #[] → (∀ h : Heap, (h.push go).get? h.objs.size = some go) →
      GkMade P w k outer H s r0 (.ref s1.heap.objs.size) { s1 with gens := s1.gens.push (.fresh (.func body (envOfC qual scope s.heap.objs.size f cdv))), toks := tk2, heap := s1.heap.push go } s1.heap.objs.size s1.gens.size s.heap.objs.size go (.func body (envOfC qual scope s.heap.objs.size f cdv))
        (fun A => (gcxOf P w K mg base N qual scope f cdv A outer s H (fun _ _ _ => False) [(s1.heap.objs.size, go)]).nox) := by
    intro go nm qn tk2 hgc hgd0 hgs hgp
    have hpushed : (s1.heap.push go).get? s1.heap.objs.size = some go := hgp _
    have hgd : ∀ v, go.data ≠ .cell v := fun v q => by rw [hgd0] at q; cases q
    refine ⟨rfl, os1, AllBare.push (by rw [gen1]; exact e0.bare) rfl, lim1.keeps fun b o e => Heap.get?_push_of_some _ e, fun b o e => Heap.get?_push_of_some _ (kp1 b o e), hpushed, fun h e => ⟨go, nm, qn, e, hgc, hgd0, hgs⟩, ⟨_, hgd0⟩, hgc, Array.getElem?_push_size .., Nat.le_of_lt lt1, Nat.le_refl _,
      (let ⟨o, ho, hd⟩ := hL; ⟨o, Heap.get?_push_of_some _ ho, hd⟩), Nat.ne_of_lt lt1, fun A => ⟨rfl, rfl, rfl, rfl, rfl, rfl, rfl, rfl⟩, ?_⟩
    intro Aw C D s2 H2 oC hrw hfr hC hk2 hoC hoCd nC na nL hos hba hDn hex un hok
    have e0w : Env0 P w K mg base Aw outer s H := ⟨hfr, e0.mod, e0.bs, e0.bsz, e0.funs, e0.frf, e0.hok, e0.bare⟩
    obtain ⟨t, ht, hq⟩ := hbody Aw C D [(s1.heap.objs.size, go)] hrw
    have I1 : Inv (gcxOf P w K mg base N qual scope f cdv Aw outer s H (fun _ _ _ => False) []) [] (start N vs) H s1 := inv_startG S hrw.hd e0w hl r x
    have kp2 : ∀ b o, s1.heap.get? b = some o → s2.heap.get? b = some o := fun b o e => hk2 b o (Heap.get?_push_of_some _ e)
    have hcl : ∀ x, (envOfC qual scope s.heap.objs.size f cdv).cells.lookup x = none := fun x => by
      show (cellsFrom (s.heap.objs.size + 1) scope.names []).lookup x = none
      rw [nocells _ _ hnc]; rfl
    have hkd : ∀ x, (envOfC qual scope s.heap.objs.size f cdv).kindOf x ≠ some .cell ∧ (envOfC qual scope s.heap.objs.size f cdv).kindOf x ≠ some .free := fun x => by
      refine ⟨fun z => ?_, fun z => ?_⟩
      · exact hnc _ (PySem.mem_of_lookup (show scope.names.lookup x = some .cell from z)) rfl
      · exact S.nofree _ (PySem.mem_of_lookup (show scope.names.lookup x = some .free from z)) rfl
    have nofs : ∀ b, s.heap.objs.size ≤ b → b ∉ frs outer := fun b hb hm => by
      obtain ⟨_, o, ho, _⟩ := e0.funs.mem hm
      exact absurd (Nat.lt_of_lt_of_le (Heap.lt_size ho) hb) (Nat.lt_irrefl _)
    have hC' : s1.heap.objs.size < C := by
      have hC2 : (s1.heap.push go).objs.size ≤ C := hC
      rw [Heap.size_push] at hC2
      exact hC2
    have I2 : Inv (gcxOf P w K mg base N qual scope f cdv Aw outer s H (fun _ _ _ => False) [(s1.heap.objs.size, go)]).nox [(C, oC)] (start N vs) H2 s2 := by
      refine ⟨⟨I1.ok.mod, I1.ok.kind, I1.ok.glob, I1.ok.blt, I1.ok.above, I1.ok.inj, I1.ok.has, I1.ok.cab, I1.ok.hd, I1.ok.frames, I1.ok.stk, I1.ok.exf, I1.ok.bs, I1.ok.bsz, I1.ok.noex, I1.ok.exfs, I1.ok.funs, I1.ok.frf⟩,
        hos, hba, un, ?_, (fun x c e => by rw [show (gcxOf P w K mg base N qual scope f cdv Aw outer s H (fun _ _ _ => False) [(s1.heap.objs.size, go)]).nox.env.cells.lookup x = none from hcl x] at e; cases e), nL, (fun x c e => by rw [show (gcxOf P w K mg base N qual scope f cdv Aw outer s H (fun _ _ _ => False) [(s1.heap.objs.size, go)]).nox.env.cells.lookup x = none from hcl x] at e; cases e), fun p hp => ?_, hok, I1.len⟩
      · obtain ⟨m, hm, hl2⟩ := I1.loc
        refine ⟨m, ?_, fun i x v e1 e2 e3 => ?_⟩
        · obtain ⟨ob, es, ep, ho, q⟩ := hm
          exact ⟨ob, es, ep, kp2 _ _ ho, q⟩
        · obtain ⟨u, ru, q⟩ := hl2 i x v e1 e2 e3
          refine ⟨u, ru, ?_⟩
          rcases q with q | ⟨q, _⟩
          · exact .inl q
          · rcases q with q | q
            · exact absurd q (hkd x).1
            · exact absurd q (hkd x).2
      · rcases List.mem_append.mp hp with z | z
        · rw [List.mem_singleton.mp z]
          exact ⟨hk2 _ _ hpushed, na, Nat.ne_of_gt lt1, nofs _ (Nat.le_of_lt lt1), hgd⟩
        · rw [List.mem_singleton.mp z]
          exact ⟨hoC, nC, Nat.ne_of_gt (Nat.lt_trans lt1 hC'), nofs _ (Nat.le_of_lt (Nat.lt_trans lt1 hC')), hoCd⟩
    show Sg _ Aw _ _ (.point [] fun _ => ((execs body (envOfC qual scope s.heap.objs.size f cdv)).onRaise (leaving (envOfC qual scope s.heap.objs.size f cdv))) >>= _) [] s2
    refine sg_point ?_
    rw [Sem.onRaise_eq_wrap, Sem.bind_eq_wrap', Sem.wrap_wrap]
    refine ht.run Aw [] _ [] _ _ _ _ r0 H2 oC s2 (start N vs) H2 _ ⟨over_func, rfl, rfl, rfl⟩ (fun p hp => (by simp at hp)) (fun r' Hw oC' f' s' hs => ?_) I2 (hq H2 hDn hex)
    cases f' with
    | next =>
      obtain ⟨σ', H', I', er, hE⟩ := hs
      subst er
      exact sg_end (.ok (.ret .none)) ⟨rfl, [], σ', H', I', hE⟩
    | brk => obtain ⟨_, _, _, q⟩ := hs; exact False.elim q
    | cont => obtain ⟨_, _, _, q⟩ := hs; exact False.elim q
    | ret u => obtain ⟨_, _, _, _, _, q⟩ := hs; exact False.elim q
  exact ⟨_, _, _, _, _, _, main _ _ _ _ rfl rfl rfl fun h => Heap.get?_push_size _ rfl⟩
end Lk

/-! Lookscan: a list comprehension over a generator. -/
namespace Lk
open PySem PySem.Spec PyProof.Rows L2 Evl GenW
abbrev TGr := L2.St → Hp → (List (List Int) → Hp → Prop) → Prop
structure PGk (X : Cx) (k : Nat) (e : Expr) (tg : TGr) : Prop where
  run : ∀ (pins : List (Addr × Obj)) (s : Shared) (σ : L2.St) (H : Hp) (cont : List (List Int) → Hp → Prop), Inv X pins σ H s → tg σ H cont → wpAny (model X.prog X.w) X.A (eval e X.env)
    (fun u s' => ∃ H1 sc r a g L go c XA, Inv X pins σ H1 sc ∧ GkMade X.prog X.w k X.stack H1 sc r u s' a g L go c XA ∧ cont r H1) X.xe s
def tLg (wi : TGr) (g : TG) (te : TE) (vs : List Nat) : TE := fun σ H Q => wi σ H fun r H1 => ∀ D, H1 D = none → ∃ W : List (List Int) → Hp → Prop, W r (upd H1 D (.lst [])) ∧ (∀ H H', W [] H → Ex H H' → Q (.ref D) H') ∧
  ∀ c cs H, W (c :: cs) H → ∀ x H', Ex H H' → Pl H' x c → g x (wipe σ vs) H' fun σ2 H2 => wipe σ2 vs = wipe σ vs ∧ te σ2 H2 fun y H4 => ∃ acc, H4 D = some (.lst acc) ∧ acc.length < sizeLine ∧ ExB D H' (upd H4 D (.lst (acc ++ [y]))) ∧ W cs (upd H4 D (.lst (acc ++ [y])))
/-- the table of generators is another one -/
theorem inv_gens {X : Cx} {pins : List (Addr × Obj)} {σ : L2.St} {H : Hp} {s : Shared} (I : Inv X pins σ H s) {G : Array GenState} (hG : AllBare G) : Inv X pins σ H (wg s G) :=
  ⟨I.ok, I.os, hG, I.base, I.loc, I.cell, I.free, I.freeC, I.pin, I.hok, I.len⟩
/-- an older start -/
theorem Inv.rebase {X : Cx} {pinsX : List (Addr × Obj)} {σX σ : L2.St} {H0 H3 H : Hp} {s0 s3 s : Shared} {scope : Scope} {ce : Env} (I0 : Inv X pinsX σX H0 s0) (un : Un (frs X.stack) [] H0 H3 s0.heap s3.heap) (os : s3.os = s0.os) (hle : s0.heap.objs.size ≤ s3.heap.objs.size)
    (I : Inv (X.blk s3 H3 scope ce []) [] σ H s) : Inv (X.blk s0 H0 scope ce []) [] σ H s := by
  have e0 := I0.env0
  exact ⟨⟨I.ok.mod, I.ok.kind, I.ok.glob, I.ok.blt, Nat.le_trans hle I.ok.above, I.ok.inj, I.ok.has, fun x c h1 h2 => Nat.le_trans hle (I.ok.cab x c h1 h2), I.ok.hd, I.ok.frames, I.ok.stk, fun b hb => (by simp at hb), e0.bs, e0.bsz, fun b o _ hb => (by simp at hb), fun b hb => (by simp at hb), e0.funs, e0.frf⟩,
    I.os.trans os, I.bare, Un.trans un I.base, I.loc, I.cell, I.free, I.freeC, I.pin, I.hok, I.len⟩
section
variable {X : Cx} {pins : List (Addr × Obj)} {σ : L2.St} {H : Hp} {s : Shared}
/-- the block again, behind a stretch of the generator's run -/
theorem inv_back {X Xg : Cx} {pinsX : List (Addr × Obj)} {σX σ σg : L2.St} {H0 Hw H : Hp} {s0 s5 s1 : Shared} {scope : Scope} {ce : Env} {oC : Obj} {ip : List (Addr × Obj)} (I0 : Inv X pinsX σX H0 s0) (hP : Xg.prog = X.prog ∧ Xg.w = X.w ∧ Xg.s_0 = s0 ∧ Xg.H_0 = H0 ∧ Xg.fs = frs X.stack ∧ Xg.ex = [])
    (hcl : ∀ x c, ce.cells.lookup x = some c → ∃ o, s0.heap.get? c = some o ∧ H0 c = none)
    (Ib : Inv (X.blk s0 H0 scope ce []) [] σ Hw s5) (hC : s5.heap.get? ce.locals = some oC) (Ig : Inv Xg ((ce.locals, oC) :: ip) σg H s1) : Inv (X.blk s0 H0 scope ce []) [] σ H s1 := by
  obtain ⟨p1, p2, p3, p4, p5, p6⟩ := hP
  have hpC := Ig.pin (ce.locals, oC) (List.mem_append_right _ List.mem_cons_self)
  have un1 : Un (frs X.stack) [] H0 H s0.heap s1.heap := by
    have z := Ig.base
    rw [p3, p4, p6] at z
    have p5' : frs Xg.outer = frs X.stack := p5
    rw [show Xg.fs = frs X.stack from p5] at z
    exact z
  have un5 : Un (frs X.stack) [] H0 Hw s0.heap s5.heap := Ib.base
  have same : ∀ x c, ce.cells.lookup x = some c → ∀ v, s5.heap.IsCell c v → s1.heap.IsCell c v := fun x c e v ⟨o, ho, hd⟩ => by
    obtain ⟨o0, h1, h2⟩ := hcl x c e
    obtain ⟨sl5, e5⟩ := un5.any h1 h2 (by simp)
    rw [ho] at e5
    cases e5
    obtain ⟨sl1, e1⟩ := un1.any h1 h2 (by simp)
    exact ⟨_, e1, hd⟩
  refine ⟨Ib.ok, ?_, Ig.bare, un1, ?_, fun x c e => ?_, hpC.2.1, fun x c e => ?_, fun p hp => absurd (show p ∈ ([] : List (Addr × Obj)) ++ [] from hp) (by simp), ?_, Ib.len⟩
  · have z := Ig.os
    rw [p3] at z
    exact z
  · obtain ⟨m, hm, hl⟩ := Ib.loc
    refine ⟨m, ?_, fun i x v e1 e2 e3 => ?_⟩
    · obtain ⟨ob, es, ep, ho, q⟩ := hm
      have ho : s5.heap.get? ce.locals = some ob := ho
      rw [hC] at ho
      cases ho
      exact ⟨oC, es, ep, hpC.1, q⟩
    · obtain ⟨u, ru, q⟩ := hl i x v e1 e2 e3
      refine ⟨u, ru, ?_⟩
      rcases q with q | ⟨q, c, ec, hcell⟩
      · exact .inl q
      · exact .inr ⟨q, c, ec, same x c ec _ hcell⟩
  · obtain ⟨v, hcell⟩ := Ib.cell x c e
    exact ⟨v, same x c e v hcell⟩
  · obtain ⟨o0, h1, h2⟩ := hcl x c e
    exact un1.free c o0 h1 h2 (by simp)
  · have z := Ig.hok
    rw [p1, p2] at z
    exact z
/-- a step while the generator sleeps -/
theorem asleepQ {α : Type} {M : Model} {A : Around} {t : Sem α} {Q Q' : α → Shared → Prop} {E : Value → Shared → Prop} {s : Shared} {g : Nat} {gs : GenState} (hb : AllBare s.gens) (hg : s.gens[g]? = some gs) (hs : IsSlept gs)
    (h : AllBare (s.gens.map asleep) → wpAny M A t Q (fun _ _ => False) (wg s (s.gens.map asleep))) (hQ : ∀ a s', Q a s' → ∀ G, (AllBare s'.gens → AllBare G) → G[g]? = some gs → Q' a (wg s' G)) : wpAny M A t Q' E s := by
  obtain ⟨k, l, c, p, fs, cl, rfl⟩ := hs
  refine thnF (wpAny_asleep (Q := Q') (E := fun _ _ => False) hb (wpAny_mono (h (bare_asleep hb)) (fun a s' q G h1 h2 => hQ a s' q G h1 (h2 g k l c p fs cl hg)) fun _ _ z => z) fun _ _ _ z => z) fun _ _ z => z
theorem nocells : ∀ (names : List (Str × NameKind)) (n : Nat) (acc : List (Str × Addr)), (∀ y ∈ names, y.2 ≠ .cell) → cellsFrom n names acc = acc
  | [], _, _, _ => rfl
  | (x, kd) :: ys, n, acc, h => by
    have h1 : kd ≠ .cell := h (x, kd) List.mem_cons_self
    unfold cellsFrom
    rw [if_neg (by simpa using h1)]
    exact nocells ys n acc fun z hz => h z (List.mem_cons_of_mem _ hz)
theorem pe_lg {k : Nat} {elt tg iter : Expr} {scope : Scope} {own : List (Str × Nat)} {pos : Pos} {wi : TGr} {g : TG} {te : TE} (hc : X.calm = true) (hN : X.N.Nodup) (hr : Room (k + 1) X.A) (hi : PGk X k iter wi) (ok : BlkOk X.N X.env.scope scope own) (hnc : ∀ y ∈ scope.names, y.2 ≠ .cell)
    (hg : ∀ (s : Shared) (H : Hp) (C : Addr) (cl : List (Str × Addr)) (fp : List Addr), PG (X.blk s H scope (compEnvC scope cl C X.env) fp) tg g)
    (he : ∀ (s : Shared) (H : Hp) (C : Addr) (cl : List (Str × Addr)) (fp : List Addr), PE (X.blk s H scope (compEnvC scope cl C X.env) fp) elt te) (hs : ∀ x, foldedSetIterable iter X.env x = pure x := by intro _; rfl) :
    PE X (.ListComp elt [⟨tg, iter, [], 0⟩] scope pos) (tLg wi g te (own.map (·.2))) := by
  refine ⟨fun pins s σ H Q I h => ?_⟩
  rw [eval_ListComp]
  have hfree : ∀ y ∈ scope.names, y.2 = .free → ∃ c, X.env.cells.lookup y.1 = some c := fun y hy e => by
    rcases ok.free y hy e with k | k
    · exact I.ok.has _ (.inl k)
    · exact I.ok.has _ (.inr k)
  refine wpAny_comprehension_free (use := none) rfl hs (closure_ok hfree) ok.kind (fun y hy e => by rw [ok.uniq y hy, e]) (thn (hi.run pins s σ H _ I h) fun u s1 h1 => ?_)
  obtain ⟨H1, sc, r, a, gi, L, go, cc, XA, I0, M, hq⟩ := h1
  obtain rfl := M.eq
  refine wpAny_pyIter_gen (M.isgen _ M.here) ?_
  refine wpAny_newObj_type (newEnv_comp ?_) (by show 0 ≤ sizeLine; decide)
  generalize hD : s1.heap.objs.size = D
  have hle0 : sc.heap.objs.size ≤ s1.heap.objs.size := Nat.le_trans M.a1 (Nat.le_of_lt (Heap.lt_size M.here))
  have hDn : H1 D = none := I0.hok.fresh (by rw [← hD]; exact hle0)
  have I1 : Inv X pins σ H1 s1 := I0.call' (ch := []) M.os (Un.kept M.keep) (I0.hok.kept M.keep) M.bare fun b z => by simp at z
  obtain ⟨W, w0, wend, turn⟩ := hq D hDn
  generalize hs3 : ({ s1 with heap := s1.heap.push { cls := .type "list", data := .seq ([] : List Value).toArray } } : Shared) = s3
  have h3 : s3.heap = s1.heap.push { cls := .type "list", data := .seq ([] : List Value).toArray } := by rw [← hs3]
  have kp3 : ∀ b o, s1.heap.get? b = some o → s3.heap.get? b = some o := fun b o e => by rw [h3]; exact Heap.get?_push_of_some _ e
  have I3 : Inv X pins σ (upd H1 D (.lst [])) s3 := by
    rw [← hs3]
    refine I1.laid (t' := s1.toks) (fun b o e => Heap.get?_push_of_some _ e) (Nat.le_of_eq hD) ⟨Nat.zero_le _, [], 0, .nil, ?_⟩
    rw [← hD]
    exact Heap.get?_push_size _ rfl
  have un3 : Un (frs X.stack) [] H1 (upd H1 D (.lst [])) sc.heap s3.heap := Un.laid (fun b o e => kp3 b o (M.keep b o e)) (by rw [← hD]; exact hle0) hDn
  have I4 := block_start I3 ok hN (fp := []) fun b hb => by simp at hb
  have pg := hg sc H1 s3.heap.objs.size (cellsFrom (s3.heap.objs.size + 1) scope.names (cloFrom X.env.cells scope.names [])) []
  have pe := he sc H1 s3.heap.objs.size (cellsFrom (s3.heap.objs.size + 1) scope.names (cloFrom X.env.cells scope.names [])) []
  show codeAny _ _ (.compStart (.ListComp elt [⟨tg, iter, [], 0⟩] scope pos) 0 (.ref a) (.ref D) (compEnvC scope (cellsFrom (s3.heap.objs.size + 1) scope.names (cloFrom X.env.cells scope.names [])) s3.heap.objs.size X.env)) (compPost (model X.prog X.w) X.A X.xe none _ (.ref D) s3.heap.objs.size) { s3 with heap := pushCells (s3.heap.push { cls := .type "dict", data := .dict #[] }) scope.names }
  have hcl : ∀ x c, (compEnvC scope (cellsFrom (s3.heap.objs.size + 1) scope.names (cloFrom X.env.cells scope.names [])) s3.heap.objs.size X.env).cells.lookup x = some c → ∃ o, sc.heap.get? c = some o ∧ H1 c = none := fun x c e => by
    have e : (cellsFrom (s3.heap.objs.size + 1) scope.names (cloFrom X.env.cells scope.names [])).lookup x = some c := e
    rw [nocells _ _ _ hnc] at e
    rcases cloFrom_mem (PySem.mem_of_lookup e) with hm | ⟨h1, h2⟩
    · cases hm
    · obtain ⟨c', hc'⟩ := hfree _ h1 rfl
      rw [hc'] at h2
      have h2 : c = c' := h2
      subst h2
      obtain ⟨v, o, ho, _⟩ := I0.cell _ _ hc'
      exact ⟨o, ho, I0.freeC _ _ hc'⟩
  generalize hce : compEnvC scope (cellsFrom (s3.heap.objs.size + 1) scope.names (cloFrom X.env.cells scope.names [])) s3.heap.objs.size X.env = ce at I4 pg pe hcl ⊢
  have cL : ce.locals = s3.heap.objs.size := by subst hce; rfl
  have I4 : Inv (X.blk sc H1 scope ce []) [] (wipe σ (own.map (·.2))) (upd H1 D (.lst [])) _ := Inv.rebase I0 un3 (by rw [← hs3]; exact M.os) (by rw [h3, Heap.size_push]; exact Nat.le_succ_of_le hle0) I4
  generalize hs4 : ({ s3 with heap := pushCells (s3.heap.push { cls := .type "dict", data := .dict #[] }) scope.names } : Shared) = s4 at I4 ⊢
  have kp4 : ∀ b o, s1.heap.get? b = some o → s4.heap.get? b = some o := fun b o e => by rw [← hs4]; exact pushCells_keeps _ _ _ _ (Heap.get?_push_of_some _ (kp3 b o e))
  obtain ⟨p1, p2, p3, p4, p5, p6, p7, p8⟩ := M.X X.A.in1
  generalize hXg : XA X.A.in1 = Xg at p1 p2 p3 p4 p5 p6 p7 p8
  obtain ⟨oL0, hoL0, hoLd0⟩ := M.L2
  have ltD : ∀ b o, s1.heap.get? b = some o → b ≠ D := fun b o e => by rw [← hD]; exact Nat.ne_of_lt (Heap.lt_size e)
  have ltC : ∀ b o, s1.heap.get? b = some o → b ≠ ce.locals := fun b o e => by
    rw [cL, h3, Heap.size_push]
    exact Nat.ne_of_lt (Nat.lt_succ_of_lt (Heap.lt_size e))
  have nofs : ∀ b, sc.heap.objs.size ≤ b → b ∉ frs X.stack := fun b hb hm => by
    obtain ⟨_, o, ho, _⟩ := I0.stack.mem hm
    exact absurd (Nat.lt_of_lt_of_le (Heap.lt_size ho) hb) (Nat.lt_irrefl _)
  have frameC : ∀ {σ' : L2.St} {H' : Hp} {s' : Shared} {pins' : List (Addr × Obj)}, Inv (X.blk sc H1 scope ce []) pins' σ' H' s' → ∃ oC, s'.heap.get? ce.locals = some oC ∧ ∀ v, oC.data ≠ .cell v := fun {σ' H' s' pins'} I' => by
    obtain ⟨m, ⟨ob, es, ep, ho, hd, _⟩, _⟩ := I'.loc
    exact ⟨ob, ho, fun v q => by rw [hd] at q; cases q⟩
  have wake0 : ∃ oC, s4.heap.get? ce.locals = some oC ∧ GoS (model Xg.prog Xg.w) X.A.in1 (Aft Xg ce.locals D X.A.in1 r (upd H1 D (.lst [])) oC) (.fresh cc) (s4.setGen gi .running) := by
    obtain ⟨oC, hoC, hoCd⟩ := frameC I4
    refine ⟨oC, hoC, ?_⟩
    rw [p1, p2, ← hXg]
    refine M.wake X.A.in1 ce.locals D (s4.setGen gi .running) _ oC hr.in1 I0.ok.frames (by rw [cL, h3, Heap.size_push]; exact Nat.le_succ _) kp4 hoC hoCd I4.free ?_ ?_ (I4.os.trans rfl) (allBare_setGen I4.bare rfl) (by rw [upd_same]; exact fun z => by cases z) (Ex.new hDn) I4.base I4.hok
    · rw [upd_ne (ltD a _ M.here)]; exact I0.hok.fresh M.a1
    · rw [upd_ne (ltD L _ hoL0)]; exact I0.hok.fresh M.L1
  have loop : codeAny (model X.prog X.w) X.A (.compLoop (.ListComp elt [⟨tg, iter, [], 0⟩] scope pos) 0 (.ref a) (.ref D) ce) (compPost (model X.prog X.w) X.A X.xe none (EP X pins σ Q) (.ref D) s3.heap.objs.size) s4 := by
    refine compLoop_any (fun n s5 => ∃ r H5 gs oC oL, n = r.length ∧ Inv (X.blk sc H1 scope ce []) [] (wipe σ (own.map (·.2))) H5 s5 ∧ W r H5 ∧ s5.gens[gi]? = some gs ∧ s5.heap.get? ce.locals = some oC ∧ s5.heap.get? a = some go ∧ s5.heap.get? L = some oL ∧ (∀ v, oL.data ≠ .cell v) ∧ H5 a = none ∧ H5 L = none ∧
      GoS (model Xg.prog Xg.w) X.A.in1 (Aft Xg ce.locals D X.A.in1 r H5 oC) gs (s5.setGen gi .running)) ?_ r.length ?_
    · rintro n s5 ⟨r, H5, gs, oC, oL, rfl, I5, w5, hgs, hoC, hoa, hoL, hoLd, na, nL, hgo⟩
      have conv : ∀ (Q : Option Value → Shared → Prop) (E : Value → Shared → Prop), wpAny (model Xg.prog Xg.w) X.A (pyNext (.ref a)) Q E s5 → wpAny (model X.prog X.w) X.A (pyNext (.ref a)) Q E s5 := fun Q E h => by rw [p1, p2] at h; exact h
      have hP : Xg.prog = X.prog ∧ Xg.w = X.w ∧ Xg.s_0 = sc ∧ Xg.H_0 = H1 ∧ Xg.fs = frs X.stack ∧ Xg.ex = [] := ⟨p1, p2, p3, p4, p5, p6⟩
      refine conv _ _ (wpAny_gsz (n := gi + 1) (Array.getElem?_eq_some_iff.mp hgs).1 (next_sg (X := Xg) (I0.ok.hd hc) I5.nolimit hr.depth (M.isgen _ hoa) hgs hgo ?_ ?_))
      · rintro c cs rfl v s6 gs' x ip σg H6 hbare hslept rv Ig hE hx hip hk hsz
        have I6 : Inv (X.blk sc H1 scope ce []) [] (wipe σ (own.map (·.2))) H6 s6 := inv_back I0 hP hcl I5 hoC Ig
        obtain ⟨oL', hoL', hoLd'⟩ : ∃ o, s6.heap.get? L = some o ∧ ∀ v, o.data ≠ .cell v := by
          obtain ⟨m, ⟨ob, es, ep, ho, hd, _⟩, _⟩ := Ig.loc
          rw [p8] at ho
          exact ⟨ob, ho, fun v q => by rw [hd] at q; cases q⟩
        have nL6 : H6 L = none := by have z := Ig.free; rw [p8] at z; exact z
        have ha6 := Ig.pin (a, go) (List.mem_append_left _ (by rw [p7]; exact List.mem_singleton.mpr rfl))
        have I7 : Inv (X.blk sc H1 scope ce []) ((L, oL') :: (a, go) :: ip) (wipe σ (own.map (·.2))) H6 (s6.setGen gi gs') := by
          refine Inv.pins_of (inv_gens I6 (G := (s6.setGen gi gs').gens) (allBare_setGen I6.bare hbare)) fun p hp => ?_
          rcases List.mem_cons.mp hp with rfl | hp
          · exact ⟨hoL', nL6, ltC L _ hoL0, nofs L M.L1, hoLd'⟩
          rcases List.mem_cons.mp hp with rfl | hp
          · exact ⟨ha6.1, ha6.2.1, ltC a _ M.here, nofs a M.a1, ha6.2.2.2.2⟩
          · obtain ⟨q1, q2, q3, q4, q5⟩ := Ig.pin p (List.mem_append_right _ (List.mem_cons_of_mem _ hp))
            exact ⟨q1, q2, hip p hp, (by have q4 : p.1 ∉ Xg.fs := q4; rw [p5] at q4; exact q4), q5⟩
        have hg7 : (s6.setGen gi gs').gens[gi]? = some gs' := setGen_at (by rw [setGen_size] at hsz; exact hsz)
        obtain ⟨vsf, hfd⟩ := M.fld
        show wpAny _ _ (letOwnedTupleGo tg (.ref a) v) _ _ (s6.setGen gi gs')
        refine go_of (s := s6.setGen gi gs') ha6.1 M.gcl hfd (by decide) ?_
        refine asleepQ I7.bare hg7 hslept (fun hb => pg.run _ _ _ H6 x v _ (inv_gens I7 hb) rv (turn c cs H5 w5 x H6 hE hx)) fun _ s8 ⟨σ8, H8, I8, hw8, q8⟩ G8 hG8 hg8 => ?_
        have I8 := inv_gens I8 (hG8 I8.bare)
        refine wpAny_tests_nil ?_
        rw [if_pos rfl]
        refine asleepQ I8.bare hg8 hslept (fun hb => pe.run _ _ σ8 H8 _ (inv_gens I8 hb) q8) fun z s9 ⟨yv, H9, I9, r9, acc, hD9, hz9, hEB, w9⟩ G9 hG9 hg9 => ?_
        have I9 := inv_gens I9 (hG9 I9.bare)
        refine asleepQ (g := gi) (gs := gs') I9.bare hg9 hslept (fun hb => app_ok (X := X.blk sc H1 scope ce []) (Q := fun _ s' => Inv (X.blk sc H1 scope ce []) ((L, oL') :: (a, go) :: ip) σ8 (upd H9 D (.lst (acc ++ [yv]))) s') (inv_gens I9 hb) hD9 hz9 r9 fun s' I' => I') fun _ s10 I10 G10 hG10 hg10 => ?_
        have I10 := inv_gens I10 (hG10 I10.bare)
        obtain ⟨oC', hoC', hoCd'⟩ := frameC I10
        have pL := I10.pin (L, oL') (List.mem_append_right _ List.mem_cons_self)
        have pa := I10.pin (a, go) (List.mem_append_right _ (List.mem_cons_of_mem _ List.mem_cons_self))
        have hlw : (wipe σ (own.map (·.2))).length = σ8.length := by rw [← hw8, wipe_length]
        refine ⟨cs.length, Nat.lt_succ_self _, cs, upd H9 D (.lst (acc ++ [yv])), gs', oC', oL', rfl, (I10.pins_of fun p hp => by simp at hp).weak hlw (fun j v e => ?_), w9, hg10, hoC', pa.1, pL.1, hoLd', pa.2.1, pL.2.1, hk _ oC' _ ?_⟩
        · rw [← hw8] at e
          exact (wipe_some e).1
        · refine ⟨?_, allBare_setGen I10.bare rfl, ?_, ?_, fun p hp => ?_, fun o ho => ?_, ?_, ⟨hoC', I10.free, hoCd'⟩, hEB⟩
          · rw [p3]; exact I10.os
          · have z : Un (frs X.stack) [] H1 (upd H9 D (.lst (acc ++ [yv]))) sc.heap (wg s10 G10).heap := I10.base
            rw [show Xg.fs = frs X.stack from p5, p6, p4, p3]
            exact z
          · rw [p1, p2]; exact I10.hok
          · rcases List.mem_append.mp hp with z | z
            · rw [p7] at z
              rw [List.mem_singleton.mp z]
              exact ⟨pa.1, pa.2.1⟩
            · obtain ⟨q1, q2, _⟩ := I10.pin p (List.mem_append_right _ (List.mem_cons_of_mem _ (List.mem_cons_of_mem _ z)))
              exact ⟨q1, q2⟩
          · rw [p8] at ho ⊢
            rw [hoL'] at ho
            cases ho
            exact pL.1
          · rw [p8]; exact pL.2.1
      · rintro rfl s6 ip σg H6 Ig hE h' hk' _
        have I6 : Inv (X.blk sc H1 scope ce []) [] (wipe σ (own.map (·.2))) H6 s6 := inv_back I0 hP hcl I5 hoC Ig
        have I7 : Inv (X.blk sc H1 scope ce []) [] (wipe σ (own.map (·.2))) H6 { s6.setGen gi .finished with heap := h' } := Inv.kept (inv_gens I6 (G := (s6.setGen gi .finished).gens) (allBare_setGen I6.bare rfl)) (t' := s6.toks) hk'
        have I8 : Inv X pins σ H6 { s6.setGen gi .finished with heap := h' } := I0.call' (ch := []) I7.os I7.base I7.hok I7.bare fun b z => by simp at z
        obtain ⟨m, hn, _⟩ := I7.loc
        have hn : Heap.Ns h' ce.locals m := hn
        have nC : H6 ce.locals = none := I7.free
        rw [cL] at hn nC
        obtain ⟨f0, f1, f2, f3, f4, f5⟩ := I3.fpOk (Nat.le_refl _) nC
        exact ⟨m, hn, fun h'' sb => ⟨.ref D, H6, I8.turned (t' := s6.toks) (fun b o hb e => (sb.2 b hb).trans e) f0 f1 f3 f4 f5, rfl, wend H5 H6 w5 hE⟩⟩
    · obtain ⟨oC, hoC, hgo⟩ := wake0
      refine ⟨r, upd H1 D (.lst []), .fresh cc, oC, oL0, rfl, I4, w0, ?_, hoC, kp4 _ _ M.here, kp4 _ _ hoL0, hoLd0, ?_, ?_, hgo⟩
      · rw [← hs4, ← hs3]; exact M.gens
      · rw [upd_ne (ltD a _ M.here)]; exact I0.hok.fresh M.a1
      · rw [upd_ne (ltD L _ hoL0)]; exact I0.hok.fresh M.L1
  exact codeAny_compStart_list loop (wpAny_pyIter_gen (M.isgen _ (kp4 _ _ M.here)) loop)
end
end Lk

/-! Lookscan: a generator def's promise. -/
namespace Lk
open PySem PySem.Spec PyProof.Rows L2 Evl GenW
/-- a generator def keeps the promise sp: what it walks -/
def OkG (P : Program) (w : World) (K : PySem.W.Frag) (mg : Str → Option Value) (base : Heap) (k : Nat) (x : Str) (ps : List Str) (sp : List V → Hp → List (List Int) → Prop) : Prop :=
  ∃ f fd, mg x = some (.ref f) ∧ PySem.W.keepIn K (.ref f) = true ∧ Binds K fd ps [] ∧ (∀ vs H r, sp vs H r → vs.length = ps.length) ∧ ∀ (A : Around) (outer : List Env) (s : Shared) (H : Hp) (args : Args) (us : List Value) (vs : List V) (r : List (List Int)), Room k A → Env0 P w K mg base A outer s H →
    BindsTo s fd args (ps.zip us) → Vals vs us → sp vs H r → codeAny (model P w) A (.call (.ref f) args) (fun res s' => match res with | .ok (.ret u) => ∃ a g L go c XA, GkMade P w k outer H s r u s' a g L go c XA | _ => False) s
theorem pgk_call {X : Cx} {k : Nat} {x : Str} {ps : List Str} {sp : List V → Hp → List (List Int) → Prop} {e : Expr} {es : List Expr} {t : TA} {p pos' : Pos} (h : OkG X.prog X.w X.K X.mg X.base k x ps sp) (hr : Room k X.A) (hg : Gl X x) (ha : PA X (e :: es) t)
    (hdb : (x == ("__debug__" : Str)) = false := by decide) (he : starEach (e :: es) X.env = (false, eval e X.env) :: starEach es X.env := by rfl) (hpl : (backTo pos' (starEach es X.env)).any (·.1) = false := by rfl) :
    PGk X k (.Call (.Name x p) (e :: es) [] pos') (fun σ H cont => t σ H fun vs H1 => ∃ r, sp vs H1 r ∧ cont r H1) := by
  obtain ⟨f, fd, g, kp, b, len, run⟩ := h
  refine ⟨fun pins s σ H cont I h => ?_⟩
  refine wpAny_Call_Name_kw (ld_glob I hg g ?_ hdb)
  refine PySem.W.callWith_K (h₀ := X.base) I.ok.mod.kin kp (thn (ha.run pos' pins s σ H _ I h) fun us s1 ⟨vs, H1, I1, rv, r, hsp, hq⟩ => ⟨I1.kIn, ?_⟩) he hpl
  have hl2 : (us ++ []).length = ps.length := by rw [List.append_nil, ← rv.length]; exact len _ _ _ hsp
  have hb := b s1 us I1.kIn hl2
  rw [List.append_nil] at hb
  refine wpAny_call (codeAny_mono (run X.A X.stack s1 H1 ⟨us, []⟩ us vs r hr I1.env0 hb rv hsp) fun res s' hq' => ?_)
  cases res with
  | error e => exact False.elim hq'
  | ok fl =>
    cases fl with
    | ret u =>
      obtain ⟨a, g, L, go, c, XA, M⟩ := hq'
      exact ⟨H1, s1, r, a, g, L, go, c, XA, I1, M, hq⟩
    | next => exact False.elim hq'
    | brk => exact False.elim hq'
    | cont => exact False.elim hq'
theorem okg_of {P : Program} {w : World} {K : PySem.W.Frag} {mg : Str → Option Value} {base : Heap} {x : Str} {st : Stmt} {N ps : List Str} {k : Nat} {sp : List V → Hp → List (List Int) → Prop} (D : Df K mg x st) (S : GScope N ps (defScope st)) (hnc : ∀ y ∈ (defScope st).names, y.2 ≠ .cell)
    (len : ∀ vs H r, sp vs H r → vs.length = ps.length)
    (hb : ∀ (dV kV doc pm : Value) (an : Option Addr) (cdv ct : Value) (us : List Value), us.length = ps.length → dV = .none → bindArgs (PySem.W.fnOf x x (defArgs st) (defBody st) (defScope st) dV kV doc pm an cdv ct) ⟨us, []⟩ = pure (ps.zip us))
    (hbody : ∀ (f : Addr) (cdv : Value) (A : Around) (outer : List Env) (s : Shared) (H : Hp) (vs : List V) (r : List (List Int)) (C Dl : Addr) (pn : List (Addr × Obj)), Room k (A.deeper (envOfC x (defScope st) s.heap.objs.size f cdv)) → sp vs H r →
      ∃ t, GkSs (gcxOf P w K mg base N x (defScope st) f cdv A outer s H (fun _ _ _ => False) pn).nox C Dl (defBody st) t ∧ ∀ H2, H2 Dl ≠ none → Ex H H2 → t { nx := fun r' Hw σ' H' => r' = [] ∧ Ex Hw H' } r H2 (start N vs) H2) : OkG P w K mg base (k + 1) x ps sp := by
  obtain ⟨f, fd, F, g⟩ := D
  obtain ⟨oc, od, dV, kV, doc, pm, an, cdv, ct, osl, rfl, lk, hcd, hD, hK⟩ := F.ex
  refine ⟨f, PySem.W.fnOf x x (defArgs st) (defBody st) (defScope st) dV kV doc pm an cdv ct, g, F.kp, ?_, len, fun A outer s H args us vs r hr e0 hbd rv hsp => ?_⟩
  · rcases hD with ⟨_, rfl⟩ | ⟨z, _⟩
    · exact .all fun us hl => hb _ _ _ _ _ _ _ us hl rfl
    · exact absurd rfl z
  · exact gk_made lk hcd S hnc hr e0 hbd rv (len _ _ _ hsp) fun A' C Dl pn hr' => hbody f cdv A' outer s H vs r C Dl pn (hr'.deeper _) hsp
theorem gn_of {P : Program} {w : World} {K : PySem.W.Frag} {mg : Str → Option Value} {base : Heap} {N ps : List Str} {qual : Str} {scope : Scope} {f : Addr} {cd : Value} {A : Around} {outer : List Env} {s : Shared} {H : Hp} {E : XK} {pn : List (Addr × Obj)} (S : GScope N ps scope) (hnc : ∀ y ∈ scope.names, y.2 ≠ .cell) : Gn (gcxOf P w K mg base N qual scope f cd A outer s H E pn).nox where
  cells := fun x => by
    show (cellsFrom (s.heap.objs.size + 1) scope.names []).lookup x = none
    rw [nocells _ _ _ hnc]
    rfl
  kind := fun x => ⟨fun z => hnc _ (PySem.mem_of_lookup (show scope.names.lookup x = some .cell from z)) rfl, fun z => S.nofree _ (PySem.mem_of_lookup (show scope.names.lookup x = some .free from z)) rfl⟩
  exc := fun _ _ h => h
  calm := rfl
/-- for x in range(n), in a generator -/
theorem gfor_range {n : Nat} {g : TG} {tb : TGk} {E : GEn} {r : List (List Int)} {Hw : Hp} {σ : L2.St} {H : Hp} (Pv : Nat → List (List Int) → Hp → L2.St → Hp → Prop) (h0 : Pv 0 r Hw σ H)
    (hs : ∀ i r Hw σ H, i < n → Pv i r Hw σ H → g (.int (0 + (i : Nat))) σ H fun σ2 H2 => tb { E with nx := Pv (i + 1), ct := Pv (i + 1), bk := E.nx } r Hw σ2 H2) (hd : ∀ r Hw σ H, Pv n r Hw σ H → E.nx r Hw σ H) :
    ∃ W : Nat → Nat → List (List Int) → Hp → L2.St → Hp → Prop, (∃ m, W 0 m r Hw σ H) ∧ ∀ i m r Hw σ H, W i m r Hw σ H →
      ((Itr 0 n).stop i H ∧ E.nx r Hw σ H) ∨ ((Itr 0 n).go i H ∧ ∃ N : List (List Int) → Hp → L2.St → Hp → Prop, (∀ r' Hw' σ' H', N r' Hw' σ' H' → ∃ m', m' < m ∧ W (i + 1) m' r' Hw' σ' H') ∧
        ∀ x H', (Itr 0 n).yld i H x H' → g x σ H' fun σ2 H2 => tb { E with nx := N, ct := N, bk := E.nx } r Hw σ2 H2) := by
  refine ⟨fun i m r Hw σ H => m = n - i ∧ i ≤ n ∧ Pv i r Hw σ H, ⟨n, rfl, Nat.zero_le _, h0⟩, ?_⟩
  rintro i m r Hw σ H ⟨rfl, hi, p⟩
  by_cases hlt : i < n
  · refine .inr ⟨hlt, Pv (i + 1), fun r' Hw' σ' H' p' => ⟨n - (i + 1), by omega, rfl, hlt, p'⟩, fun x H' y => ?_⟩
    obtain ⟨e, y⟩ := y
    subst e y
    exact hs i r Hw σ _ hlt p
  · have e : i = n := by omega
    subst e
    exact .inl ⟨Nat.le_refl _, hd r Hw σ H p⟩
end Lk

/-! Lookscan: numbers, looks, places. -/
namespace Lk
open PySem PySem.Spec PyProof.Rows L2 Evl
structure Cs (mg : Str → Option Value) : Prop where
  maxLooks : ∃ t, mg "MAX_LOOKS" = some (.int 4 t)
  maxReach : ∃ t, mg "MAX_REACH" = some (.int 9 t)
  maxDirections : ∃ t, mg "MAX_DIRECTIONS" = some (.int 3 t)
  maxClasses : ∃ t, mg "MAX_CLASSES" = some (.int 12 t)
  maxCells : ∃ t, mg "MAX_CELLS" = some (.int 2000 t)
  maxDepth : ∃ t, mg "MAX_DEPTH" = some (.int 20 t)
  maxNodes : ∃ t, mg "MAX_NODES" = some (.int 200 t)
section
variable {P : Program} {w : World} {K : PySem.W.Frag} {mg : Str → Option Value} {base : Heap}

/-! ### is_number -/
abbrev sIsNumber : Stmt := top 11
theorem scIsNumber : FnScope ["value"] ["value"] (defScope sIsNumber) := ⟨rfl, rfl, rfl, by decide +kernel, rfl, by decide +kernel, by decide +kernel⟩
/-- the value is an int -/
def spIsNumber : Sp := fun vs H Q _ => ∃ i : Int, vs = [.int i] ∧ Q (.bl true) H
theorem ok_is_number (B : Bt mg) (F : Df K mg "is_number" sIsNumber) : Ok P w K mg base 1 "is_number" ["value"] spIsNumber := by
  refine ok_of F scIsNumber (fun vs H Q E h => by obtain ⟨i, rfl, _⟩ := h; rfl) (fun dV _ _ _ _ _ _ us hl e => by subst e; exact match us, hl with | [_], _ => rfl) fun f cdv A outer s H vs Q E hr h => ?_
  obtain ⟨i, rfl, k⟩ := h
  refine ⟨_, (pss_one (ps_ret (pe_and (pe_callB call_isi rfl B.isinstance (by decide +kernel) (pa_cons (pv 0) (pa_cons (pe_bltn rfl B.int (by decide +kernel) (v := .ty "int") rfl) pa_nil))) (pe_one (pe_not (pe_callB call_isi rfl B.isinstance (by decide +kernel) (pa_cons (pv 0) (pa_cons (pe_bltn rfl B.bool (by decide +kernel) (v := .ty "bool") rfl) pa_nil)))))))), ?_⟩
  refine ⟨_, rfl, _, _, _, _, true, rfl, .ty "int", .base (.int i), kit_ty (by decide +kernel), true, rfl, ?_⟩
  refine ⟨_, rfl, _, _, _, _, false, rfl, .ty "bool", .base (.int i), kit_ty (by decide +kernel), false, rfl, ?_⟩
  exact k
theorem ev_is_number {σ : L2.St} {H : Hp} {te : TE} {i : Int} (h : Ev te σ H (.int i)) : Ev (tCall spIsNumber [] E0 (tCons te tNil)) σ H (.bl true) := fun H1 e Q q => h H1 e _ fun H2 e2 => ⟨i, rfl, q H2 e2⟩

/-! ### are_numbers -/
abbrev sAreNumbers : Stmt := top 12
theorem scAreNumbers : FnScope ["value", "many", "one"] ["value", "many"] (defScope sAreNumbers) := ⟨rfl, rfl, rfl, by decide +kernel, rfl, by decide +kernel, by decide +kernel⟩
def spAreNumbers : Sp := fun vs H Q _ => ∃ x p, vs = [x, .int (p.length : Nat)] ∧ Pl H x p ∧ p.length ≤ 1000 ∧ ∀ H', Ex H H' → Q (.bl true) H'
theorem ok_are_numbers (B : Bt mg) (F : Df K mg "are_numbers" sAreNumbers) (h_is_number : Ok P w K mg base 1 "is_number" ["value"] spIsNumber) : Ok P w K mg base 2 "are_numbers" ["value", "many"] spAreNumbers := by
  refine ok_of F scAreNumbers (fun vs H Q E h => by obtain ⟨x, p, rfl, _⟩ := h; rfl) (fun dV _ _ _ _ _ _ us hl e => by subst e; exact match us, hl with | [_, _], _ => rfl) fun f cdv A outer s H vs Q E hr h => ?_
  obtain ⟨x, p, rfl, hx, hz, k⟩ := h
  refine ⟨_, (pss_one (ps_ret (pe_and (pe_callB call_isi rfl B.isinstance (by decide +kernel) (pa_cons (pv 0) (pa_cons (pe_bltn rfl B.tuple (by decide +kernel) (v := .ty "tuple") rfl) pa_nil))) (pe_and (pe_cmpR op_eq (pe_callB call_len_seq rfl B.len PySem.boot_len (pa_cons (pv 0) pa_nil)) (pv 1) (nomark _)) (pe_one (pe_callB (cr_all rfl) rfl B.all (by decide +kernel) (pa_cons (pe_lc (own := [("one", 2)]) (g := (gName 2)) (tt := tYes) (te := (tCall spIsNumber [] E0 (tCons (tVar 2) tNil))) rfl scAreNumbers.nd (pi_tup (pv 0)) (blkOk_by (own := [("one", 2)]) (N := ["value", "many", "one"]) (sc := defScope sAreNumbers) (by decide +kernel)) (fun _ _ _ _ _ => (pg_name (i := 2) scAreNumbers.nd rfl (Or.inl rfl) (Or.inr rfl))) (fun _ _ _ _ _ => pts_nil) (fun _ _ _ _ _ => (pe_do h_is_number hr rfl (pa_cons (pv 2) pa_nil)))) pa_nil))))))), ?_⟩
  refine s_ret (ev_andV (ev_isT (ev_var rfl) hx) fun _ => ev_andV (ev_eqI (ev_lenT (ev_var rfl) hx) (ev_var rfl)) fun _ => ev_all (bs := p.map fun _ => true) ?_) fun H1 e => ?_
  · rw [List.map_map]
    exact el_lcT (fun _ => V.bl true) (ev_var rfl) hx (by omega) fun i _ H1 _ => ev_is_number (ev_var rfl)
  · simp only [List.length_map, decide_true, Bool.true_and]
    rw [show (p.map fun _ => true).all id = true by simp]
    exact k H1 e
theorem ev_are_numbers {σ : L2.St} {H : Hp} {ta : TA} {x : V} {p : List Int} {n : Int} (h : EvA ta σ H [x, .int n]) (hx : Pl H x p) (hn : n = p.length) (hz : p.length ≤ 1000) : Ev (tCall spAreNumbers [] E0 ta) σ H (.bl true) := fun H1 e Q q => h H1 e _ fun H2 e2 =>
  ⟨x, p, by rw [hn]; rfl, hx.tx (tx_of (e.trans e2)), hz, fun H3 e3 => q H3 (e2.trans e3)⟩

/-! ### plus, minus, times -/
def addP (p q : List Int) : List Int := List.zipWith (fun a b => a + b) p q
def subP (p q : List Int) : List Int := List.zipWith (fun a b => a - b) p q
def dotP (p q : List Int) : Int := (List.zipWith (fun a b => a * b) p q).sum
/-- two tuples of as many ints: a new one -/
def sp2 (f : List Int → List Int → List Int) : Sp := fun vs H Q _ => ∃ x y p q, vs = [x, y] ∧ Pl H x p ∧ Pl H y q ∧ p.length = q.length ∧ p.length ≤ 1000 ∧ ∀ v H', Ex H H' → Pl H' v (f p q) → Q v H'
theorem ex_sp2 {f : List Int → List Int → List Int} {σ : L2.St} {H : Hp} {ta : TA} {x y : V} {p q : List Int} (h : EvA ta σ H [x, y]) (hx : Pl H x p) (hy : Pl H y q) (hl : p.length = q.length) (hz : p.length ≤ 1000) : EvX (tCall (sp2 f) [] E0 ta) σ H (fun v H2 => Pl H2 v (f p q)) := fun H1 e Q k => h H1 e _ fun H2 e2 =>
  ⟨x, y, p, q, rfl, hx.tx (tx_of (e.trans e2)), hy.tx (tx_of (e.trans e2)), hl, hz, fun v H3 e3 hv => k v H3 (e2.trans e3) hv⟩
abbrev sPlus : Stmt := top 13
theorem scPlus : FnScope ["one", "other", "a", "b"] ["one", "other"] (defScope sPlus) := ⟨rfl, rfl, rfl, by decide +kernel, rfl, by decide +kernel, by decide +kernel⟩
theorem zipV (g : Int → Int → Int) : ∀ p q : List Int, List.zipWith (fun a b => V.int (g a b)) p q = (List.zipWith g p q).map V.int
  | [], _ => rfl
  | _ :: _, [] => rfl
  | _ :: p, _ :: q => by
    show _ :: _ = _ :: _
    rw [zipV g p q]
theorem ok_plus (B : Bt mg) (F : Df K mg "plus" sPlus) : Ok P w K mg base 1 "plus" ["one", "other"] (sp2 addP) := by
  refine ok_of F scPlus (fun vs H Q E h => by obtain ⟨x, y, p, q, rfl, _⟩ := h; rfl) (fun dV _ _ _ _ _ _ us hl e => by subst e; exact match us, hl with | [_, _], _ => rfl) fun f cdv A outer s H vs Q E hr h => ?_
  obtain ⟨x, y, p, q, rfl, hx, hy, hl, hz, k⟩ := h
  refine ⟨_, (pss_one (ps_ret (pe_tupleOf rfl B.tuple (pe_lc (own := [("a", 2), ("b", 3)]) (g := (gTup K 2 (gCons (gName 2) (gCons (gName 3) gNil)))) (tt := tYes) (te := (tOp (rI0 fun i j => .int (i + j)) (tVar 2) (tVar 3))) rfl scPlus.nd (RZ.pi_zipA rfl B.zip (pa_cons (pv 0) (pa_cons (pv 1) pa_nil))) (blkOk_by (own := [("a", 2), ("b", 3)]) (N := ["one", "other", "a", "b"]) (sc := defScope sPlus) (by decide +kernel)) (fun _ _ _ _ _ => (pg_tup rfl (pgs_cons (pg_name (i := 2) scPlus.nd rfl (Or.inl rfl) (Or.inr rfl)) (pgs_cons (pg_name (i := 3) scPlus.nd rfl (Or.inl rfl) (Or.inr rfl)) pgs_nil)))) (fun _ _ _ _ _ => pts_nil) (fun _ _ _ _ _ => (pe_op op_add (pv 2) (pv 3))))))), ?_⟩
  refine s_retU (xs := (addP p q).map V.int) (eu_tup ?_) fun a H1 _ e h1 => k _ H1 e ⟨a, rfl, h1⟩
  unfold addP
  rw [← zipV]
  exact el_lcZ (by decide) (fun a b => V.int (a + b)) (ea2 (ev_var rfl) (ev_var rfl)) hx hy hl (by omega) fun a b _ _ H1 _ => ev_i0 (ev_var rfl) (ev_var rfl)
abbrev sMinus : Stmt := top 14
theorem scMinus : FnScope ["one", "other", "a", "b"] ["one", "other"] (defScope sMinus) := ⟨rfl, rfl, rfl, by decide +kernel, rfl, by decide +kernel, by decide +kernel⟩
theorem ok_minus (B : Bt mg) (F : Df K mg "minus" sMinus) : Ok P w K mg base 1 "minus" ["one", "other"] (sp2 subP) := by
  refine ok_of F scMinus (fun vs H Q E h => by obtain ⟨x, y, p, q, rfl, _⟩ := h; rfl) (fun dV _ _ _ _ _ _ us hl e => by subst e; exact match us, hl with | [_, _], _ => rfl) fun f cdv A outer s H vs Q E hr h => ?_
  obtain ⟨x, y, p, q, rfl, hx, hy, hl, hz, k⟩ := h
  refine ⟨_, (pss_one (ps_ret (pe_tupleOf rfl B.tuple (pe_lc (own := [("a", 2), ("b", 3)]) (g := (gTup K 2 (gCons (gName 2) (gCons (gName 3) gNil)))) (tt := tYes) (te := (tOp (rI0 fun i j => .int (i - j)) (tVar 2) (tVar 3))) rfl scMinus.nd (RZ.pi_zipA rfl B.zip (pa_cons (pv 0) (pa_cons (pv 1) pa_nil))) (blkOk_by (own := [("a", 2), ("b", 3)]) (N := ["one", "other", "a", "b"]) (sc := defScope sMinus) (by decide +kernel)) (fun _ _ _ _ _ => (pg_tup rfl (pgs_cons (pg_name (i := 2) scMinus.nd rfl (Or.inl rfl) (Or.inr rfl)) (pgs_cons (pg_name (i := 3) scMinus.nd rfl (Or.inl rfl) (Or.inr rfl)) pgs_nil)))) (fun _ _ _ _ _ => pts_nil) (fun _ _ _ _ _ => (pe_op op_sub (pv 2) (pv 3))))))), ?_⟩
  refine s_retU (xs := (subP p q).map V.int) (eu_tup ?_) fun a H1 _ e h1 => k _ H1 e ⟨a, rfl, h1⟩
  unfold subP
  rw [← zipV]
  exact el_lcZ (by decide) (fun a b => V.int (a - b)) (ea2 (ev_var rfl) (ev_var rfl)) hx hy hl (by omega) fun a b _ _ H1 _ => ev_i0 (ev_var rfl) (ev_var rfl)
abbrev sTimes : Stmt := top 15
theorem scTimes : FnScope ["one", "other", "a", "b"] ["one", "other"] (defScope sTimes) := ⟨rfl, rfl, rfl, by decide +kernel, rfl, by decide +kernel, by decide +kernel⟩
def Sm (i : Int) : Prop := -(2 ^ 64) < i ∧ i < 2 ^ 64
def spTimes : Sp := fun vs H Q _ => ∃ x y p q, vs = [x, y] ∧ Pl H x p ∧ Pl H y q ∧ p.length = q.length ∧ p.length ≤ 1000 ∧ (∀ b ∈ q, Sm b) ∧ ∀ H', Ex H H' → Q (.int (dotP p q)) H'
theorem ev_times {σ : L2.St} {H : Hp} {ta : TA} {x y : V} {p q : List Int} (h : EvA ta σ H [x, y]) (hx : Pl H x p) (hy : Pl H y q) (hl : p.length = q.length) (hz : p.length ≤ 1000) (hs : ∀ b ∈ q, Sm b) : Ev (tCall spTimes [] E0 ta) σ H (.int (dotP p q)) := fun H1 e Q k => h H1 e _ fun H2 e2 =>
  ⟨x, y, p, q, rfl, hx.tx (tx_of (e.trans e2)), hy.tx (tx_of (e.trans e2)), hl, hz, hs, fun H3 e3 => k H3 (e2.trans e3)⟩
theorem ok_times (B : Bt mg) (F : Df K mg "times" sTimes) : Ok P w K mg base 1 "times" ["one", "other"] spTimes := by
  refine ok_of F scTimes (fun vs H Q E h => by obtain ⟨x, y, p, q, rfl, _⟩ := h; rfl) (fun dV _ _ _ _ _ _ us hl e => by subst e; exact match us, hl with | [_, _], _ => rfl) fun f cdv A outer s H vs Q E hr h => ?_
  obtain ⟨x, y, p, q, rfl, hx, hy, hl, hz, hs, k⟩ := h
  refine ⟨_, (pss_one (ps_ret (pe_callB (cr_sum rfl) rfl B.sum (by decide +kernel) (pa_cons (pe_lc (own := [("a", 2), ("b", 3)]) (g := (gTup K 2 (gCons (gName 2) (gCons (gName 3) gNil)))) (tt := tYes) (te := (tOp (rI CMul fun i j => .int (i * j)) (tVar 2) (tVar 3))) rfl scTimes.nd (RZ.pi_zipA rfl B.zip (pa_cons (pv 0) (pa_cons (pv 1) pa_nil))) (blkOk_by (own := [("a", 2), ("b", 3)]) (N := ["one", "other", "a", "b"]) (sc := defScope sTimes) (by decide +kernel)) (fun _ _ _ _ _ => (pg_tup rfl (pgs_cons (pg_name (i := 2) scTimes.nd rfl (Or.inl rfl) (Or.inr rfl)) (pgs_cons (pg_name (i := 3) scTimes.nd rfl (Or.inl rfl) (Or.inr rfl)) pgs_nil)))) (fun _ _ _ _ _ => pts_nil) (fun _ _ _ _ _ => (pe_op op_mul (pv 2) (pv 3)))) pa_nil)))), ?_⟩
  refine s_ret (ev_sum (ns := List.zipWith (fun a b => a * b) p q) ?_) k
  rw [← zipV]
  exact el_lcZ (by decide) (fun a b => V.int (a * b)) (ea2 (ev_var rfl) (ev_var rfl)) hx hy hl (by omega) fun a b _ hb H1 _ => ev_iC (.inr (hs b hb)) (ev_var rfl) (ev_var rfl)

/-! ### looks -/
abbrev sIsLook : Stmt := top 19
theorem scIsLook : FnScope ["value", "directions", "one"] ["value", "directions"] (defScope sIsLook) := ⟨rfl, rfl, rfl, by decide +kernel, rfl, by decide +kernel, by decide +kernel⟩
def IsLook (d : Nat) (p : List Int) : Prop := p.length = d ∧ p ≠ List.replicate d 0 ∧ ∀ i ∈ p, -9 ≤ i ∧ i ≤ 9
def spIsLook : Sp := fun vs H Q _ => ∃ x p d, vs = [x, .int (d : Nat)] ∧ Pl H x p ∧ d ≤ 3 ∧ IsLook d p ∧ ∀ H', Ex H H' → Q (.bl true) H'
theorem ev_is_look {σ : L2.St} {H : Hp} {ta : TA} {x : V} {p : List Int} {d : Nat} (h : EvA ta σ H [x, .int (d : Nat)]) (hx : Pl H x p) (hd : d ≤ 3) (hp : IsLook d p) : Ev (tCall spIsLook [] E0 ta) σ H (.bl true) := fun H1 e Q k => h H1 e _ fun H2 e2 =>
  ⟨x, p, d, rfl, hx.tx (tx_of (e.trans e2)), hd, hp, fun H3 e3 => k H3 (e2.trans e3)⟩
theorem ok_is_look (B : Bt mg) (C : Cs mg) (F : Df K mg "is_look" sIsLook) (h_are_numbers : Ok P w K mg base 2 "are_numbers" ["value", "many"] spAreNumbers) : Ok P w K mg base 3 "is_look" ["value", "directions"] spIsLook := by
  refine ok_of F scIsLook (fun vs H Q E h => by obtain ⟨x, p, d, rfl, _⟩ := h; rfl) (fun dV _ _ _ _ _ _ us hl e => by subst e; exact match us, hl with | [_, _], _ => rfl) fun f cdv A outer s H vs Q E hr h => ?_
  obtain ⟨x, p, d, rfl, hx, hd, ⟨hl, hz, ha⟩, k⟩ := h
  refine ⟨_, (pss_cons (ps_if (PW.pt (pw_or (pt_not (pt_val (pe_do h_are_numbers hr rfl (pa_cons (pv 0) (pa_cons (pv 1) pa_nil))))) (pw_or1 (pt_cmpR (op_eqD hr.units) (pv 0) (pe_op op_repK (pe_tup (pa_cons pe_int pa_nil)) (pv 1)) (nomark _))))) (pss_one (ps_ret pe_bl)) pss_nil)
      (pss_one (ps_ret (pe_callB (cr_all rfl) rfl B.all (by decide +kernel) (pa_cons (pe_lc (own := [("one", 2)]) (g := (gName 2)) (tt := tYes) (te := (tOp (rI0 fun i j => .bl (decide (i ≤ j))) (tCB (rAbs) (tCons (tVar 2) tNil)) (tC (.int 9)))) rfl scIsLook.nd (pi_tup (pv 0)) (blkOk_by (own := [("one", 2)]) (N := ["value", "directions", "one"]) (sc := defScope sIsLook) (by decide +kernel)) (fun _ _ _ _ _ => (pg_name (i := 2) scIsLook.nd rfl (Or.inl rfl) (Or.inr rfl))) (fun _ _ _ _ _ => pts_nil) (fun _ _ _ _ _ => (pe_cmpR op_le (pe_callB call_abs rfl B.abs (by decide +kernel) (pa_cons (pv 2) pa_nil)) (pe_cint rfl C.maxReach) (nomark _)))) pa_nil))))), ?_⟩
  refine (q_when (b := false) (fun H1 e1 Q1 k1 => ?_) (fun z => by cases z) fun _ H1 e1 => ?_)
  · refine ev_are_numbers (ea2 (ev_var rfl) (ev_var rfl)) hx (by rw [hl]) (by omega) H1 e1 _ fun H2 e2 => ⟨true, rfl, ?_⟩
    refine ⟨_, rfl, sz_of (by simp), fun a haN => ⟨_, rfl, a, (d : Int), [.int 0], rfl, rfl, upd_same, by simp, by omega, by omega, by simp, fun v H3 e3 hv => ?_⟩⟩
    have eV : (List.replicate ((d : Int)).toNat [V.int 0]).flatten = (List.replicate d (0 : Int)).map V.int := by
      simp [List.flatten_replicate_singleton]
    rw [eV] at hv
    have eH := (e1.trans e2).trans ((Ex.new haN).trans e3)
    refine ⟨_, _, dp_pl (hx.tx (tx_of eH)), dp_pl (p := List.replicate d 0) hv, shaped_ints _, shaped_ints _, _, rfl, ?_⟩
    rw [show PyData.eqv (.tuple (p.map .int)) (.tuple ((List.replicate d (0 : Int)).map .int)) = decide (p = List.replicate d 0) from eqvAll_ints _ _, decide_eq_false hz]
    exact k1 H3 (e2.trans ((Ex.new haN).trans e3))
  · refine s_ret (ev_all (bs := p.map fun _ => true) ?_) fun H2 e2 => ?_
    · rw [List.map_map]
      refine el_lcT (fun _ => V.bl true) (ev_var rfl) (hx.tx (tx_of e1)) (by omega) fun i hi H2 _ => ?_
      have z := ha i hi
      intro H3 e3 Q3 k3
      refine ⟨_, rfl, _, rfl, _, _, rfl, rfl, ?_⟩
      show Q3 (.bl (decide ((if i < 0 then -i else i) ≤ 9))) H3
      rw [show decide ((if i < 0 then -i else i) ≤ 9) = true from decide_eq_true (by split <;> omega)]
      exact k3 H3 (Ex.refl _)
    · rw [show (p.map fun _ => true).all id = true by simp]
      exact k H2 (e1.trans e2)

abbrev sNeedLooks : Stmt := top 20
theorem scNeedLooks : FnScope ["looks", "directions", "index", "look"] ["looks", "directions"] (defScope sNeedLooks) := ⟨rfl, rfl, rfl, by decide +kernel, rfl, by decide +kernel, by decide +kernel⟩
def LooksOk (d : Nat) (ps : List (List Int)) : Prop := 1 ≤ ps.length ∧ ps.length ≤ 4 ∧ ps.Nodup ∧ ∀ p ∈ ps, IsLook d p
/-- a list of tuples of ints -/
def Ls (H : Hp) (v : V) (ps : List (List Int)) : Prop := ∃ xs, Lp H v xs ∧ Paired (fun x p => Pl H x p) xs ps
theorem Ls.ex {H H' : Hp} {v : V} {ps : List (List Int)} (e : Ex H H') (h : Ls H v ps) : Ls H' v ps := by
  obtain ⟨xs, h1, h2⟩ := h
  exact ⟨xs, h1.ex e, Paired.mapP h2 fun _ _ z => z.tx (tx_of e)⟩
theorem paired_take {α β : Type} {F : α → β → Prop} : ∀ {l : List α} {m : List β} (n : Nat), Paired F l m → Paired F (l.take n) (m.take n)
  | _, _, 0, _ => by rw [List.take_zero, List.take_zero]; exact .nil
  | _, _, n + 1, .nil => by rw [List.take_nil, List.take_nil]; exact .nil
  | _, _, n + 1, .cons a t => by rw [List.take_succ_cons, List.take_succ_cons]; exact .cons a (paired_take n t)
theorem paired_getL {α β : Type} {F : α → β → Prop} : ∀ {l : List α} {m : List β}, Paired F l m → ∀ {i : Nat} {x : α}, l[i]? = some x → ∃ y, m[i]? = some y ∧ F x y
  | _, _, .nil, i, y, h => by simp at h
  | _, _, .cons r t, 0, y, h => by
    simp only [List.getElem?_cons_zero, Option.some.injEq] at h
    exact ⟨_, rfl, h ▸ r⟩
  | _, _, .cons r t, i + 1, y, h => by
    simp only [List.getElem?_cons_succ] at h ⊢
    exact paired_getL t h
theorem cutV_take (xs : List V) {i : Nat} (h : i ≤ xs.length) : cutV xs none (some (i : Int)) = xs.take i := by
  have e1 : HT.sIx xs.length 0 none = 0 := rfl
  have e2 : HT.sIx xs.length xs.length (some (i : Int)) = i := by
    rw [HT.sIx_nat]
    omega
  unfold cutV
  rw [e1, e2]
  simp
def spNeedLooks : Sp := fun vs H Q _ => ∃ l ps d, vs = [l, .int (d : Nat)] ∧ Ls H l ps ∧ d ≤ 3 ∧ LooksOk d ps ∧ ∀ H', Ex H H' → Q .non H'
theorem ok_need_looks (B : Bt mg) (C : Cs mg) (F : Df K mg "need_looks" sNeedLooks) (h_is_look : Ok P w K mg base 3 "is_look" ["value", "directions"] spIsLook) : Ok P w K mg base 4 "need_looks" ["looks", "directions"] spNeedLooks := by
  refine ok_of F scNeedLooks (fun vs H Q E h => by obtain ⟨x, p, d, rfl, _⟩ := h; rfl) (fun dV _ _ _ _ _ _ us hl e => by subst e; exact match us, hl with | [_, _], _ => rfl) fun f cdv A outer s H vs Q E hr h => ?_
  obtain ⟨l, ps, d, rfl, ⟨xs, ⟨a, rfl, ha⟩, hp⟩, hd, ⟨l1, l4, nd, lk⟩, k⟩ := h
  have hlen : xs.length = ps.length := hp.length
  refine ⟨_, (pss_cons (ps_for PassesOwn.never rfl (pi_enum rfl B.enumerate (pa_cons (pv 0) pa_nil)) (pg_tup rfl (pgs_cons (pg_name (i := 2) scNeedLooks.nd rfl (Or.inl rfl)) (pgs_cons (pg_name (i := 3) scNeedLooks.nd rfl (Or.inl rfl)) pgs_nil)))
      (pss_one (ps_if (PW.pt (pw_or (pt_not (pt_val (pe_do h_is_look hr rfl (pa_cons (pv 3) (pa_cons (pv 1) pa_nil))))) (pw_or1 (pt_cmpR (op_inD (hu65 hr)) (pv 3) (pe_slice sl_list (pv 0) po_none (po_some (pv 2))) (by with_unfolding_all rfl))))) (pss_one ps_never) pss_nil)))
      (pss_one (ps_if (pt_not (pt_chain op_le op_le pe_int (pe_callB call_len_seq rfl B.len PySem.boot_len (pa_cons (pv 0) pa_nil)) (pe_cint rfl C.maxLooks))) (pss_one ps_never) pss_nil))), ?_⟩
  refine ⟨_, rfl, a, xs, rfl, SqL.of ha, for_feeds (H0 := H) (feeds_enum (SqL.of ha)) (fun i σ H' => Ex H H' ∧ ∃ u v, σ = [some (.ref a), some (.int (d : Nat)), u, v]) ⟨Ex.refl _, _, _, rfl⟩ (fun i σ H' h => h.1) ?_ ?_⟩
  · rintro i x σ H1 H2 hi ⟨e1, u, v, rfl⟩ e2 ⟨y, ⟨T, rfl, hT⟩, hy⟩
    obtain ⟨p, hpi, hyp⟩ := paired_getL hp hy
    refine ⟨T, _, rfl, SqT.of hT, rfl, _, _, rfl, _, _, rfl, rfl, ?_⟩
    have e12 := e1.trans e2
    refine s_if (b := false) (fun H3 e3 Q3 k3 => ?_) (fun z => by cases z) fun _ H3 e3 => ⟨e12.trans e3, _, _, rfl⟩
    refine ev_is_look (ea2 (ev_var rfl) (ev_var rfl)) (hyp.tx (tx_of e12)) hd (lk p (List.mem_of_getElem? hpi)) H3 e3 _ fun H4 e4 => ⟨true, rfl, ?_⟩
    have e14 := (e12.trans e3).trans e4
    refine ⟨_, rfl, _, rfl, _, rfl, _, rfl, a, xs, rfl, SqL.of (e14 a _ ha), fun b hb => ?_⟩
    have e5 : Ex H4 (upd H4 b (.lst (cutV xs none (some (i : Int))))) := Ex.new hb
    rw [cutV_take xs (by omega)] at e5 ⊢
    refine ⟨_, _, dp_pl (hyp.tx (tx_of (e14.trans e5))), .lst (SqL.of upd_same) (dpAll_pls (paired_take i (Paired.mapP hp fun _ _ z => z.tx (tx_of (e14.trans e5))))), shaped_ints _, shaped_pls _, _, rfl, ?_⟩
    rw [any_pls, decide_eq_false]
    · exact k3 _ (e4.trans e5)
    · intro hm
      obtain ⟨j, hj, ej⟩ := List.mem_iff_getElem.mp hm
      rw [List.length_take] at hj
      rw [List.getElem_take] at ej
      have hi2 : i < ps.length := by omega
      rw [List.getElem?_eq_getElem hi2] at hpi
      have ei := Option.some.inj hpi
      have := (List.getElem_inj nd).mp (ej.trans ei.symm)
      omega
  · rintro σ H1 ⟨e1, u, v, rfl⟩
    dsimp only
    refine s_if (b := false) (fun H3 e3 Q3 k3 => ?_) (fun z => by cases z) fun _ H3 e3 => ?_
    rotate_left
    · exact k H3 (e1.trans e3)
    refine ⟨_, rfl, a, xs, rfl, .inl (SqL.of ((e1.trans e3) a _ ha)), _, _, rfl, rfl, _, rfl, ?_⟩
    rw [show decide ((1 : Int) ≤ (xs.length : Nat)) = true from decide_eq_true (by omega), if_pos rfl]
    refine ⟨_, _, rfl, rfl, _, rfl, ?_⟩
    show Q3 (!decide ((xs.length : Int) ≤ 4)) H3
    rw [show decide ((xs.length : Int) ≤ 4) = true from decide_eq_true (by omega)]
    exact k3 H3 (Ex.refl _)

/-! ### places -/
abbrev sNeedPlace : Stmt := top 25
theorem scNeedPlace : FnScope ["value", "many"] ["value", "many"] (defScope sNeedPlace) := ⟨rfl, rfl, rfl, by decide +kernel, rfl, by decide +kernel, by decide +kernel⟩
def spNeedPlace : Sp := fun vs H Q _ => ∃ x p, vs = [x, .int (p.length : Nat)] ∧ Pl H x p ∧ p.length ≤ 1000 ∧ ∀ H', Ex H H' → Q .non H'
theorem ev_need_place {σ : L2.St} {H : Hp} {ta : TA} {x : V} {p : List Int} {n : Int} (h : EvA ta σ H [x, .int n]) (hx : Pl H x p) (hn : n = p.length) (hz : p.length ≤ 1000) : Ev (tCall spNeedPlace [] E0 ta) σ H .non := fun H1 e Q q => h H1 e _ fun H2 e2 =>
  ⟨x, p, by rw [hn]; rfl, hx.tx (tx_of (e.trans e2)), hz, fun H3 e3 => q H3 (e2.trans e3)⟩
theorem ok_need_place (B : Bt mg) (F : Df K mg "need_place" sNeedPlace) (h_are_numbers : Ok P w K mg base 2 "are_numbers" ["value", "many"] spAreNumbers) : Ok P w K mg base 3 "need_place" ["value", "many"] spNeedPlace := by
  refine ok_of F scNeedPlace (fun vs H Q E h => by obtain ⟨x, p, rfl, _⟩ := h; rfl) (fun dV _ _ _ _ _ _ us hl e => by subst e; exact match us, hl with | [_, _], _ => rfl) fun f cdv A outer s H vs Q E hr h => ?_
  obtain ⟨x, p, rfl, hx, hz, k⟩ := h
  refine ⟨_, (pss_one (ps_if (pt_not (pt_val (pe_do h_are_numbers hr rfl (pa_cons (pv 0) (pa_cons (pv 1) pa_nil))))) (pss_one ps_never) pss_nil)), ?_⟩
  refine s_if (b := false) (fun H1 e1 Q1 k1 => ?_) (fun z => by cases z) fun _ H1 e1 => k H1 e1
  exact ev_are_numbers (ea2 (ev_var rfl) (ev_var rfl)) hx rfl hz H1 e1 _ fun H2 e2 => ⟨true, rfl, k1 H2 e2⟩
abbrev sNeedBox : Stmt := top 26
theorem scNeedBox : FnScope ["value", "many", "side"] ["value", "many"] (defScope sNeedBox) := ⟨rfl, rfl, rfl, by decide +kernel, rfl, by decide +kernel, by decide +kernel⟩
def spNeedBox : Sp := fun vs H Q _ => ∃ x p, vs = [x, .int (p.length : Nat)] ∧ Pl H x p ∧ p.length ≤ 1000 ∧ (∀ i ∈ p, 0 ≤ i) ∧ ∀ H', Ex H H' → Q .non H'
theorem ok_need_box (B : Bt mg) (F : Df K mg "need_box" sNeedBox) (h_are_numbers : Ok P w K mg base 2 "are_numbers" ["value", "many"] spAreNumbers) : Ok P w K mg base 3 "need_box" ["value", "many"] spNeedBox := by
  refine ok_of F scNeedBox (fun vs H Q E h => by obtain ⟨x, p, rfl, _⟩ := h; rfl) (fun dV _ _ _ _ _ _ us hl e => by subst e; exact match us, hl with | [_, _], _ => rfl) fun f cdv A outer s H vs Q E hr h => ?_
  obtain ⟨x, p, rfl, hx, hz, h0, k⟩ := h
  refine ⟨_, (pss_one (ps_if (PW.pt (pw_or (pt_not (pt_val (pe_do h_are_numbers hr rfl (pa_cons (pv 0) (pa_cons (pv 1) pa_nil))))) (pw_or1 (pt_val (pe_callB (cr_any rfl) rfl B.any (by decide +kernel) (pa_cons (pe_lc (own := [("side", 2)]) (g := (gName 2)) (tt := tYes) (te := (tOp (rI0 fun i j => .bl (decide (i < j))) (tVar 2) (tC (.int 0)))) rfl scNeedBox.nd (pi_tup (pv 0)) (blkOk_by (own := [("side", 2)]) (N := ["value", "many", "side"]) (sc := defScope sNeedBox) (by decide +kernel)) (fun _ _ _ _ _ => (pg_name (i := 2) scNeedBox.nd rfl (Or.inl rfl) (Or.inr rfl))) (fun _ _ _ _ _ => pts_nil) (fun _ _ _ _ _ => (pe_cmpR op_lt (pv 2) pe_int (nomark _)))) pa_nil)))))) (pss_one ps_never) pss_nil)), ?_⟩
  refine s_if (b := false) (fun H1 e1 Q1 k1 => ?_) (fun z => by cases z) fun _ H1 e1 => k H1 e1
  refine ev_are_numbers (ea2 (ev_var rfl) (ev_var rfl)) hx rfl hz H1 e1 _ fun H2 e2 => ⟨true, rfl, ?_⟩
  have z : Ev (tCB (rAny K) (tCons (tLc (iTup K (tVar 0)) (gName 2) tYes (tOp (rI0 fun i j => .bl (decide (i < j))) (tVar 2) (tC (.int 0))) [2]) tNil)) (start ["value", "many", "side"] [x, .int (p.length : Nat)]) H (.bl ((p.map fun _ => false).any id)) := by
    refine ev_any ?_
    rw [List.map_map]
    refine el_lcT (fun _ => V.bl false) (ev_var rfl) hx (by omega) fun i hi H2 _ => ?_
    have z := ev_i0 (f := fun i j => V.bl (decide (i < j))) (i := i) (j := 0) (σ := ((wipe (start ["value", "many", "side"] [x, .int (p.length : Nat)]) [2]).set 2 (some (.int i)))) (H := H2) (ta := tVar 2) (tb := tC (.int 0)) (ev_var rfl) ev_c
    rw [show decide (i < 0) = false from decide_eq_false (by have := h0 i hi; omega)] at z
    exact z
  refine z H2 (e1.trans e2) _ fun H3 e3 => ⟨_, rfl, ?_⟩
  rw [show (p.map fun _ => false).any id = false by simp]
  exact k1 H3 (e2.trans e3)
abbrev sCellCount : Stmt := top 27
theorem scCellCount : FnScope ["box", "found", "side"] ["box"] (defScope sCellCount) := ⟨rfl, rfl, rfl, by decide +kernel, rfl, by decide +kernel, by decide +kernel⟩
def prodP (p : List Int) : Int := p.foldl (fun a b => a * b) 1
def spCellCount : Sp := fun vs H Q _ => ∃ x p, vs = [x] ∧ Pl H x p ∧ p.length ≤ 1000 ∧ (∀ i ∈ p, Sm i) ∧ ∀ H', Ex H H' → Q (.int (prodP p)) H'
theorem ev_cell_count {σ : L2.St} {H : Hp} {ta : TA} {x : V} {p : List Int} (h : EvA ta σ H [x]) (hx : Pl H x p) (hz : p.length ≤ 1000) (hs : ∀ i ∈ p, Sm i) : Ev (tCall spCellCount [] E0 ta) σ H (.int (prodP p)) := fun H1 e Q q => h H1 e _ fun H2 e2 =>
  ⟨x, p, rfl, hx.tx (tx_of (e.trans e2)), hz, hs, fun H3 e3 => q H3 (e2.trans e3)⟩
theorem fold_take {α β : Type} (f : β → α → β) (b : β) (l : List α) {i : Nat} {x : α} (h : l[i]? = some x) : (l.take (i + 1)).foldl f b = f ((l.take i).foldl f b) x := by
  rw [List.take_add_one, h, List.foldl_append]
  rfl
theorem ok_cell_count (B : Bt mg) (F : Df K mg "cell_count" sCellCount) : Ok P w K mg base 1 "cell_count" ["box"] spCellCount := by
  refine ok_of F scCellCount (fun vs H Q E h => by obtain ⟨x, p, rfl, _⟩ := h; rfl) (fun dV _ _ _ _ _ _ us hl e => by subst e; exact match us, hl with | [_], _ => rfl) fun f cdv A outer s H vs Q E hr h => ?_
  obtain ⟨x, p, rfl, ⟨a, rfl, ha⟩, hz, hs, k⟩ := h
  refine ⟨_, (pss_cons (ps_set (i := 1) scCellCount.nd rfl (Or.inl rfl) pe_int)
      (pss_cons (ps_for PassesOwn.never rfl (pi_tup (pv 0)) (pg_name (i := 2) scCellCount.nd rfl (Or.inl rfl))
      (pss_one (ps_aug (i := 1) scCellCount.nd rfl (Or.inl rfl) (pv 2) iop_mul)))
      (pss_one (ps_ret (pv 1))))), ?_⟩
  refine ⟨_, rfl, a, rfl, ⟨_, SqT.of ha⟩, for_feeds (H0 := H) (feeds_tup (SqT.of ha)) (fun i σ H' => Ex H H' ∧ ∃ u, σ = [some (.ref a), some (.int (prodP (p.take i))), u]) ⟨Ex.refl _, _, rfl⟩ (fun i σ H' h => h.1) ?_ ?_⟩
  · rintro i x σ H1 H2 hi ⟨e1, u, rfl⟩ e2 hx
    rw [List.getElem?_map] at hx
    cases hq : p[i]? with
    | none => rw [hq] at hx; cases hx
    | some y =>
      rw [hq] at hx
      cases hx
      refine ⟨_, rfl, _, rfl, _, _, rfl, rfl, .inr (hs y (List.mem_of_getElem? hq)), e1.trans e2, some (.int y), ?_⟩
      unfold prodP
      rw [fold_take _ _ _ hq]
      rfl
  · rintro σ H1 ⟨e1, u, rfl⟩
    refine ⟨_, rfl, ?_⟩
    rw [List.length_map, List.take_length]
    exact k H1 e1
abbrev sNeedCells : Stmt := top 28
theorem scNeedCells : FnScope ["box", "many"] ["box", "many"] (defScope sNeedCells) := ⟨rfl, rfl, rfl, by decide +kernel, rfl, by decide +kernel, by decide +kernel⟩
def spNeedCells : Sp := fun vs H Q _ => ∃ x p, vs = [x, .int (p.length : Nat)] ∧ Pl H x p ∧ p.length ≤ 1000 ∧ (∀ i ∈ p, 0 ≤ i ∧ Sm i) ∧ prodP p ≤ 2000 ∧ ∀ H', Ex H H' → Q .non H'
theorem ok_need_cells (B : Bt mg) (C : Cs mg) (F : Df K mg "need_cells" sNeedCells) (h_need_box : Ok P w K mg base 3 "need_box" ["value", "many"] spNeedBox) (h_cell_count : Ok P w K mg base 3 "cell_count" ["box"] spCellCount) : Ok P w K mg base 4 "need_cells" ["box", "many"] spNeedCells := by
  refine ok_of F scNeedCells (fun vs H Q E h => by obtain ⟨x, p, rfl, _⟩ := h; rfl) (fun dV _ _ _ _ _ _ us hl e => by subst e; exact match us, hl with | [_, _], _ => rfl) fun f cdv A outer s H vs Q E hr h => ?_
  obtain ⟨x, p, rfl, hx, hz, hs, hc, k⟩ := h
  refine ⟨_, (pss_cons (ps_expr (pe_do h_need_box hr rfl (pa_cons (pv 0) (pa_cons (pv 1) pa_nil))))
      (pss_one (ps_if (pt_cmpR op_gt (pe_do h_cell_count hr rfl (pa_cons (pv 0) pa_nil)) (pe_cint rfl C.maxCells) (nomark _)) (pss_one ps_never) pss_nil))), ?_⟩
  refine ⟨_, rfl, _, rfl, x, p, rfl, hx, hz, fun i hi => (hs i hi).1, fun H1 e1 => ?_⟩
  dsimp only
  refine s_if (b := false) (fun H2 e2 Q1 k1 => ?_) (fun z => by cases z) fun _ H2 e2 => ?_
  rotate_left
  · exact k H2 (e1.trans e2)
  refine ev_cell_count (ea1 (ev_var rfl)) (hx.tx (tx_of e1)) hz (fun i hi => (hs i hi).2) H2 e2 _ fun H3 e3 => ⟨_, _, rfl, rfl, _, rfl, ?_⟩
  rw [show decide ((2000 : Int) < prodP p) = false from decide_eq_false (by omega)]
  exact k1 H3 e3
end
end Lk


/-! Lookscan: places, classes. -/
namespace Lk
open PySem PySem.Spec PyProof.Rows L2 Evl
section
variable {P : Program} {w : World} {K : PySem.W.Frag} {mg : Str → Option Value} {base : Heap}
abbrev sIsIn : Stmt := top 29
theorem scIsIn : FnScope ["box", "place", "at", "side"] ["box", "place"] (defScope sIsIn) := ⟨rfl, rfl, rfl, by decide +kernel, rfl, by decide +kernel, by decide +kernel⟩
def inB (b p : List Int) : Bool := (List.zipWith (fun a s => decide (0 ≤ a) && decide (a < s)) p b).all id
def spIsIn : Sp := fun vs H Q _ => ∃ x y b p, vs = [x, y] ∧ Pl H x b ∧ Pl H y p ∧ p.length = b.length ∧ p.length ≤ 1000 ∧ ∀ H', Ex H H' → Q (.bl (inB b p)) H'
theorem ev_is_in {σ : L2.St} {H : Hp} {ta : TA} {x y : V} {b p : List Int} (h : EvA ta σ H [x, y]) (hx : Pl H x b) (hy : Pl H y p) (hl : p.length = b.length) (hz : p.length ≤ 1000) : Ev (tCall spIsIn [] E0 ta) σ H (.bl (inB b p)) := fun H1 e Q q => h H1 e _ fun H2 e2 =>
  ⟨x, y, b, p, rfl, hx.tx (tx_of (e.trans e2)), hy.tx (tx_of (e.trans e2)), hl, hz, fun H3 e3 => q H3 (e2.trans e3)⟩
theorem zipB (g : Int → Int → Bool) : ∀ p q : List Int, List.zipWith (fun a b => V.bl (g a b)) p q = (List.zipWith g p q).map V.bl
  | [], _ => rfl
  | _ :: _, [] => rfl
  | _ :: p, _ :: q => by
    show _ :: _ = _ :: _
    rw [zipB g p q]
theorem ok_is_in (B : Bt mg) (F : Df K mg "is_in" sIsIn) : Ok P w K mg base 1 "is_in" ["box", "place"] spIsIn := by
  refine ok_of F scIsIn (fun vs H Q E h => by obtain ⟨x, y, b, p, rfl, _⟩ := h; rfl) (fun dV _ _ _ _ _ _ us hl e => by subst e; exact match us, hl with | [_, _], _ => rfl) fun f cdv A outer s H vs Q E hr h => ?_
  obtain ⟨x, y, b, p, rfl, hx, hy, hl, hz, k⟩ := h
  refine ⟨_, (pss_one (ps_ret (pe_callB (cr_all rfl) rfl B.all (by decide +kernel) (pa_cons (pe_lc (own := [("at", 2), ("side", 3)]) (g := (gTup K 2 (gCons (gName 2) (gCons (gName 3) gNil)))) (tt := tYes) (te := (tChain (rI0 fun i j => .bl (decide (i ≤ j))) (rI0 fun i j => .bl (decide (i < j))) (tC (.int 0)) (tVar 2) (tVar 3))) rfl scIsIn.nd (RZ.pi_zipA rfl B.zip (pa_cons (pv 1) (pa_cons (pv 0) pa_nil))) (blkOk_by (own := [("at", 2), ("side", 3)]) (N := ["box", "place", "at", "side"]) (sc := defScope sIsIn) (by decide +kernel)) (fun _ _ _ _ _ => (pg_tup rfl (pgs_cons (pg_name (i := 2) scIsIn.nd rfl (Or.inl rfl) (Or.inr rfl)) (pgs_cons (pg_name (i := 3) scIsIn.nd rfl (Or.inl rfl) (Or.inr rfl)) pgs_nil)))) (fun _ _ _ _ _ => pts_nil) (fun _ _ _ _ _ => (pe_chain op_le op_lt pe_int (pv 2) (pv 3)))) pa_nil)))), ?_⟩
  refine s_ret (ev_all (bs := List.zipWith (fun a s => decide (0 ≤ a) && decide (a < s)) p b) ?_) k
  rw [← zipB]
  refine el_lcZ (by decide) (fun a s => V.bl (decide (0 ≤ a) && decide (a < s))) (ea2 (ev_var rfl) (ev_var rfl)) hy hx hl (by omega) fun a s _ _ H1 _ H2 _ Q q => ?_
  refine ⟨_, rfl, _, _, rfl, rfl, _, rfl, ?_⟩
  by_cases h0 : (0 : Int) ≤ a
  · rw [decide_eq_true h0, if_pos rfl]
    rw [decide_eq_true h0] at q
    exact ⟨_, rfl, _, _, rfl, rfl, q H2 (Ex.refl _)⟩
  · rw [decide_eq_false h0, if_neg Bool.false_ne_true]
    rw [decide_eq_false h0] at q
    exact q H2 (Ex.refl _)
abbrev sClassCount : Stmt := top 31
theorem scClassCount : FnScope ["divisors", "one", "found"] ["divisors"] (defScope sClassCount) := ⟨rfl, rfl, rfl, by decide +kernel, rfl, by decide +kernel, by decide +kernel⟩
/-- divisors: one to three, positive, at most twelve classes -/
structure DivOk (ds : List Int) : Prop where
  one : 1 ≤ ds.length
  three : ds.length ≤ 3
  pos : ∀ d ∈ ds, 1 ≤ d ∧ d ≤ 12
  few : prodP ds ≤ 12
theorem DivOk.sm {ds : List Int} (h : DivOk ds) : ∀ d ∈ ds, Sm d := fun d hd => ⟨by have := h.pos d hd; omega, by have := h.pos d hd; omega⟩
def spClassCount : Sp := fun vs H Q _ => ∃ x ds, vs = [x] ∧ Pl H x ds ∧ DivOk ds ∧ ∀ H', Ex H H' → Q (.int (prodP ds)) H'
theorem ok_class_count (B : Bt mg) (C : Cs mg) (F : Df K mg "class_count" sClassCount) (h_is_number : Ok P w K mg base 1 "is_number" ["value"] spIsNumber) (h_cell_count : Ok P w K mg base 1 "cell_count" ["box"] spCellCount) : Ok P w K mg base 2 "class_count" ["divisors"] spClassCount := by
  refine ok_of F scClassCount (fun vs H Q E h => by obtain ⟨x, p, rfl, _⟩ := h; rfl) (fun dV _ _ _ _ _ _ us hl e => by subst e; exact match us, hl with | [_], _ => rfl) fun f cdv A outer s H vs Q E hr h => ?_
  obtain ⟨x, ds, rfl, hx, hd, k⟩ := h
  have o1 := hd.one
  have o3 := hd.three
  refine ⟨_, (pss_cons (ps_if (PW.pt (pw_or (pt_not (pt_val (pe_callB call_isi rfl B.isinstance (by decide +kernel) (pa_cons (pv 0) (pa_cons (pe_bltn rfl B.tuple (by decide +kernel) (v := .ty "tuple") rfl) pa_nil))))) (pw_or1 (pt_not (pt_chain op_le op_le pe_int (pe_callB call_len_seq rfl B.len PySem.boot_len (pa_cons (pv 0) pa_nil)) (pe_cint rfl C.maxDirections)))))) (pss_one ps_never) pss_nil)
      (pss_cons (ps_if (pt_not (pt_val (pe_callB (cr_all rfl) rfl B.all (by decide +kernel) (pa_cons (pe_lc (own := [("one", 1)]) (g := (gName 1)) (tt := tYes) (te := (tAndV (tCall spIsNumber [] E0 (tCons (tVar 1) tNil)) (tOp (rI0 fun i j => .bl (decide (j < i))) (tVar 1) (tC (.int 0))))) rfl scClassCount.nd (pi_tup (pv 0)) (blkOk_by (own := [("one", 1)]) (N := ["divisors", "one", "found"]) (sc := defScope sClassCount) (by decide +kernel)) (fun _ _ _ _ _ => (pg_name (i := 1) scClassCount.nd rfl (Or.inl rfl) (Or.inr rfl))) (fun _ _ _ _ _ => pts_nil) (fun _ _ _ _ _ => (pe_and (pe_do h_is_number hr rfl (pa_cons (pv 1) pa_nil)) (pe_one (pe_cmpR op_gt (pv 1) pe_int (nomark _)))))) pa_nil)))) (pss_one ps_never) pss_nil)
      (pss_cons (ps_set (i := 2) scClassCount.nd rfl (Or.inl rfl) (pe_do h_cell_count hr rfl (pa_cons (pv 0) pa_nil)))
      (pss_cons (ps_if (pt_cmpR op_gt (pv 2) (pe_cint rfl C.maxClasses) (nomark _)) (pss_one ps_never) pss_nil)
      (pss_one (ps_ret (pv 2))))))), ?_⟩
  refine q_when (b := false) (fun H1 e1 Q1 k1 => ?_) (fun z => by cases z) fun _ H1 e1 => ?_
  · have z := ev_isT (K := K) (σ := start ["divisors", "one", "found"] [x]) (ta := tVar 0) (ev_var rfl) hx
    have z2 := ev_lenT (K := K) (σ := start ["divisors", "one", "found"] [x]) (ta := tVar 0) (ev_var rfl) hx
    refine z H1 e1 _ fun H2 e2 => ⟨true, rfl, ?_⟩
    obtain ⟨a, rfl, ha⟩ := id hx
    refine ⟨_, rfl, a, _, rfl, .inr (SqT.of ((e1.trans e2) a _ ha)), _, _, rfl, rfl, _, rfl, ?_⟩
    rw [List.length_map, decide_eq_true (show (1 : Int) ≤ (ds.length : Nat) by omega), if_pos rfl]
    refine ⟨_, _, rfl, rfl, _, rfl, ?_⟩
    show Q1 (!decide (((ds.length : Nat) : Int) ≤ 3)) H2
    rw [decide_eq_true (show ((ds.length : Nat) : Int) ≤ 3 by omega)]
    exact k1 H2 e2
  refine q_when (b := false) (fun H2 e2 Q1 k1 => ?_) (fun z => by cases z) fun _ H2 e2 => ?_
  · have z : Ev (tCB (rAll K) (tCons (tLc (iTup K (tVar 0)) (gName 1) tYes (tAndV (tCall spIsNumber [] E0 (tCons (tVar 1) tNil)) (tOp (rI0 fun i j => .bl (decide (j < i))) (tVar 1) (tC (.int 0)))) [1]) tNil)) (start ["divisors", "one", "found"] [x]) H (.bl ((ds.map fun _ => true).all id)) := by
      refine ev_all ?_
      rw [List.map_map]
      refine el_lcT (fun _ => V.bl true) (ev_var rfl) hx (by omega) fun i hi H2 _ => ?_
      intro H3 e3 Q3 q3
      refine ev_is_number (i := i) (ev_var rfl) H3 e3 _ fun H4 e4 => ⟨true, rfl, _, rfl, _, _, rfl, rfl, ?_⟩
      have z := q3 H4 e4
      show Q3 (.bl (decide ((0 : Int) < i))) H4
      rw [decide_eq_true (show (0 : Int) < i by have := hd.pos i hi; omega)]
      exact z
    refine z H2 (e1.trans e2) _ fun H3 e3 => ⟨_, rfl, ?_⟩
    rw [show (ds.map fun _ => true).all id = true by simp]
    exact k1 H3 e3
  refine q_asg (ev_cell_count (ea1 (ev_var rfl)) (hx.tx (tx_of (e1.trans e2))) (by omega) hd.sm) fun H3 e3 => ?_
  refine q_when (b := false) (fun H4 e4 Q1 k1 => ?_) (fun z => by cases z) fun _ H4 e4 => ?_
  · refine ⟨_, rfl, _, _, rfl, rfl, _, rfl, ?_⟩
    rw [decide_eq_false (show ¬ (12 : Int) < prodP ds by have := hd.few; omega)]
    exact k1 H4 (Ex.refl _)
  · exact ⟨_, rfl, k H4 (((e1.trans e2).trans e3).trans e4)⟩
abbrev sClassAt : Stmt := top 32
theorem scClassAt : FnScope ["divisors", "place", "found", "one", "divisor"] ["divisors", "place"] (defScope sClassAt) := ⟨rfl, rfl, rfl, by decide +kernel, rfl, by decide +kernel, by decide +kernel⟩
def classAt : List Int → List Int → Int → Int
  | o :: p, d :: ds, f => classAt p ds (f * d + o % d)
  | _, _, f => f
def spClassAt : Sp := fun vs H Q _ => ∃ x y ds p, vs = [x, y] ∧ Pl H x ds ∧ Pl H y p ∧ p.length = ds.length ∧ p.length ≤ 1000 ∧ (∀ d ∈ ds, 1 ≤ d ∧ d ≤ 12) ∧ ∀ H', Ex H H' → Q (.int (classAt p ds 0)) H'
theorem ev_class_at {σ : L2.St} {H : Hp} {ta : TA} {x y : V} {ds p : List Int} (h : EvA ta σ H [x, y]) (hx : Pl H x ds) (hy : Pl H y p) (hl : p.length = ds.length) (hz : p.length ≤ 1000) (hd : ∀ d ∈ ds, 1 ≤ d ∧ d ≤ 12) : Ev (tCall spClassAt [] E0 ta) σ H (.int (classAt p ds 0)) := fun H1 e Q q => h H1 e _ fun H2 e2 =>
  ⟨x, y, ds, p, rfl, hx.tx (tx_of (e.trans e2)), hy.tx (tx_of (e.trans e2)), hl, hz, hd, fun H3 e3 => q H3 (e2.trans e3)⟩
theorem classAt_step (p ds : List Int) : ∀ (i : Nat) (f : Int) (hp : i < p.length) (hd : i < ds.length), classAt (p.drop i) (ds.drop i) f = classAt (p.drop (i + 1)) (ds.drop (i + 1)) (f * ds[i] + p[i] % ds[i]) := fun i f hp hd => by
  rw [List.drop_eq_getElem_cons hp, List.drop_eq_getElem_cons hd]
  rfl
theorem ok_class_at (B : Bt mg) (F : Df K mg "class_at" sClassAt) : Ok P w K mg base 1 "class_at" ["divisors", "place"] spClassAt := by
  refine ok_of F scClassAt (fun vs H Q E h => by obtain ⟨x, y, b, p, rfl, _⟩ := h; rfl) (fun dV _ _ _ _ _ _ us hl e => by subst e; exact match us, hl with | [_, _], _ => rfl) fun f cdv A outer s H vs Q E hr h => ?_
  obtain ⟨x, y, ds, p, rfl, ⟨a, rfl, ha⟩, ⟨b, rfl, hb⟩, hl, hz, hd, k⟩ := h
  refine ⟨_, (pss_cons (ps_set (i := 2) scClassAt.nd rfl (Or.inl rfl) pe_int)
      (pss_cons (ps_for PassesOwn.never rfl (RZ.pi_zipA rfl B.zip (pa_cons (pv 1) (pa_cons (pv 0) pa_nil))) (pg_tup rfl (pgs_cons (pg_name (i := 3) scClassAt.nd rfl (Or.inl rfl)) (pgs_cons (pg_name (i := 4) scClassAt.nd rfl (Or.inl rfl)) pgs_nil)))
      (pss_one (ps_set (i := 2) scClassAt.nd rfl (Or.inl rfl) (pe_op op_add (pe_op op_mul (pv 2) (pv 4)) (pe_op op_mod (pv 3) (pv 4))))))
      (pss_one (ps_ret (pv 2))))), ?_⟩
  refine ⟨_, rfl, _, rfl, b, a, _, _, rfl, .inr ⟨SqT.of hb, SqT.of ha, ?_⟩⟩
  refine for_feeds (H0 := H) (feeds_zipT (SqT.of hb) (SqT.of ha) (by simp [hl])) (fun i σ H' => Ex H H' ∧ ∃ g u v, σ = [some (.ref a), some (.ref b), some (.int g), u, v] ∧ classAt (p.drop i) (ds.drop i) g = classAt p ds 0) ⟨Ex.refl _, 0, _, _, rfl, rfl⟩ (fun i σ H' h => h.1) ?_ ?_
  · rintro i x σ H1 H2 hi ⟨e1, g, u, v, rfl, hg⟩ e2 ⟨y, z, ⟨T, rfl, hT⟩, hy, hz⟩
    rw [List.length_map] at hi
    have hi2 : i < ds.length := by omega
    rw [List.getElem?_map, List.getElem?_eq_getElem hi] at hy
    rw [List.getElem?_map, List.getElem?_eq_getElem hi2] at hz
    cases hy
    cases hz
    have hdi := hd ds[i] (List.getElem_mem hi2)
    refine ⟨T, _, rfl, SqT.of hT, rfl, _, _, rfl, _, _, rfl, rfl, ?_⟩
    refine ⟨_, rfl, _, rfl, _, _, rfl, rfl, .inr ⟨by omega, by omega⟩, _, rfl, _, rfl, _, _, rfl, rfl, by omega, _, _, rfl, rfl, e1.trans e2, _, _, _, rfl, ?_⟩
    rw [← hg, classAt_step p ds i g hi hi2]
  · rintro σ H1 ⟨e1, g, u, v, rfl, hg⟩
    refine ⟨_, rfl, ?_⟩
    rw [List.length_map, List.drop_length] at hg
    have hg : g = classAt p ds 0 := by
      rw [← hg]
      cases ds.drop p.length <;> rfl
    rw [hg]
    exact k H1 e1
end
end Lk


/-! Lookscan: trees. -/
namespace Lk
open PySem PySem.Spec PyProof.Rows L2 Evl
mutual
inductive Tr where
  | leaf : Tr
  | key (row hts : List Int) (t : Tr) : Tr
  | fork (gs : Gs) : Tr
inductive Gs where
  | nil : Gs
  | cons (part : List Int) (t : Tr) (gs : Gs) : Gs
end
mutual
/-- the tree stands at v -/
def TrAt (H : Hp) : Tr → V → Prop
  | .leaf, v => Tp H v [.str "places"]
  | .key row hts t, v => ∃ r h x, Tp H v [.str "key", r, h, x] ∧ Pl H r row ∧ Pl H h hts ∧ TrAt H t x
  | .fork gs, v => ∃ g xs, Tp H v [.str "fork", g] ∧ Tp H g xs ∧ GsAt H gs xs
def GsAt (H : Hp) : Gs → List V → Prop
  | .nil, xs => xs = []
  | .cons part t gs, xs => ∃ x r y z, xs = x :: r ∧ Tp H x [y, z] ∧ Pl H y part ∧ TrAt H t z ∧ GsAt H gs r
end
mutual
theorem TrAt.tx {H H' : Hp} (e : Tx H H') : ∀ {T : Tr} {v : V}, TrAt H T v → TrAt H' T v
  | .leaf, _, h => by
    unfold TrAt at h ⊢
    exact h.tx e
  | .key row hts t, _, h => by
    unfold TrAt at h ⊢
    obtain ⟨r, x, y, h1, h2, h3, h4⟩ := h
    exact ⟨r, x, y, h1.tx e, h2.tx e, h3.tx e, TrAt.tx e h4⟩
  | .fork gs, _, h => by
    unfold TrAt at h ⊢
    obtain ⟨g, xs, h1, h2, h3⟩ := h
    exact ⟨g, xs, h1.tx e, h2.tx e, GsAt.tx e h3⟩
theorem GsAt.tx {H H' : Hp} (e : Tx H H') : ∀ {gs : Gs} {xs : List V}, GsAt H gs xs → GsAt H' gs xs
  | .nil, _, h => by
    unfold GsAt at h ⊢
    exact h
  | .cons part t gs, _, h => by
    unfold GsAt at h ⊢
    obtain ⟨x, r, y, z, h0, h1, h2, h3, h4⟩ := h
    exact ⟨x, r, y, z, h0, h1.tx e, h2.tx e, TrAt.tx e h3, GsAt.tx e h4⟩
end
def Gs.trees : Gs → List Tr
  | .nil => []
  | .cons _ t gs => t :: gs.trees
def Gs.parts : Gs → List (List Int)
  | .nil => []
  | .cons p _ gs => p :: gs.parts
def Tr.kids : Tr → List Tr
  | .leaf => []
  | .key _ _ t => [t]
  | .fork gs => gs.trees
/-- a group -/
def GrAt (H : Hp) (x : V) (g : List Int × Tr) : Prop := ∃ y z, Tp H x [y, z] ∧ Pl H y g.1 ∧ TrAt H g.2 z
def Gs.list : Gs → List (List Int × Tr)
  | .nil => []
  | .cons p t gs => (p, t) :: gs.list
theorem Gs.list_parts : ∀ gs : Gs, gs.list.map (·.1) = gs.parts
  | .nil => rfl
  | .cons p t gs => by
    show _ :: _ = _ :: _
    rw [gs.list_parts]
theorem Gs.list_trees : ∀ gs : Gs, gs.list.map (·.2) = gs.trees
  | .nil => rfl
  | .cons p t gs => by
    show _ :: _ = _ :: _
    rw [gs.list_trees]
theorem GsAt.each {H : Hp} : ∀ {gs : Gs} {xs : List V}, GsAt H gs xs → Paired (fun x g => GrAt H x g) xs gs.list
  | .nil, _, h => by
    unfold GsAt at h
    subst h
    exact .nil
  | .cons part t gs, _, h => by
    unfold GsAt at h
    obtain ⟨x, r, y, z, rfl, h1, h2, h3, h4⟩ := h
    exact .cons ⟨y, z, h1, h2, h3⟩ h4.each
theorem gsAt_of {H : Hp} : ∀ {gs : Gs} {xs : List V}, Paired (fun x g => GrAt H x g) xs gs.list → GsAt H gs xs
  | .nil, xs, h => by
    unfold GsAt
    have h' : Paired (fun x g => GrAt H x g) xs [] := h
    cases h'
    rfl
  | .cons part t gs, xs, h => by
    unfold GsAt
    have h' : Paired (fun x g => GrAt H x g) xs ((part, t) :: gs.list) := h
    cases h' with
    | cons a b =>
      obtain ⟨y, z, h1, h2, h3⟩ := a
      exact ⟨_, _, y, z, rfl, h1, h2, h3, gsAt_of b⟩
theorem GrAt.tx {H H' : Hp} (e : Tx H H') {x : V} {g : List Int × Tr} (h : GrAt H x g) : GrAt H' x g := by
  obtain ⟨y, z, h1, h2, h3⟩ := h
  exact ⟨y, z, h1.tx e, h2.tx e, h3.tx e⟩
mutual
def Tr.ht : Tr → Nat
  | .leaf => 0
  | .key _ _ t => t.ht + 1
  | .fork gs => gs.ht + 1
def Gs.ht : Gs → Nat
  | .nil => 0
  | .cons _ t gs => max t.ht gs.ht
end
/-- the parts part 0 .. n-1 -/
structure PartOk (n : Nat) (ps : List (List Int)) : Prop where
  ne : ps ≠ []
  each : ∀ p ∈ ps, p ≠ [] ∧ p.Pairwise (· ≤ ·)
  all : ps.flatten.Perm ((List.range n).map fun i => ((i : Nat) : Int))
def Sb (i : Int) : Prop := -(2 ^ 62) ≤ i ∧ i < 2 ^ 62
mutual
/-- well formed: d directions, n classes -/
def TrOk (d n : Nat) : Tr → Prop
  | .leaf => True
  | .key row hts t => row.length = d ∧ hts.length = n ∧ TrOk d n t
  | .fork gs => PartOk n gs.parts ∧ GsOk d n gs
def GsOk (d n : Nat) : Gs → Prop
  | .nil => True
  | .cons _ t gs => TrOk d n t ∧ GsOk d n gs
end
theorem GsOk.mem {d n : Nat} : ∀ {gs : Gs}, GsOk d n gs → ∀ t ∈ gs.trees, TrOk d n t
  | .nil, _, t, h => by cases h
  | .cons p t gs, h, u, hu => by
    unfold GsOk at h
    rcases List.mem_cons.mp hu with rfl | hu
    · exact h.1
    · exact GsOk.mem h.2 u hu
theorem Gs.ht_mem : ∀ {gs : Gs} {t : Tr}, t ∈ gs.trees → t.ht ≤ gs.ht
  | .nil, t, h => by cases h
  | .cons p u gs, t, h => by
    unfold Gs.ht
    rcases List.mem_cons.mp h with rfl | h
    · exact Nat.le_max_left _ _
    · exact Nat.le_trans (Gs.ht_mem h) (Nat.le_max_right _ _)
theorem TrOk.kids {d n : Nat} {T : Tr} (h : TrOk d n T) : ∀ t ∈ T.kids, TrOk d n t := by
  cases T with
  | leaf => intro t ht; cases ht
  | key row hts u =>
    unfold TrOk at h
    intro t ht
    rw [List.mem_singleton.mp ht]
    exact h.2.2
  | fork gs =>
    unfold TrOk at h
    exact fun t ht => h.2.mem t ht
theorem Tr.ht_kids {T : Tr} : ∀ t ∈ T.kids, t.ht + 1 ≤ T.ht := by
  cases T with
  | leaf => intro t ht; cases ht
  | key row hts u =>
    intro t ht
    rw [List.mem_singleton.mp ht]
    have e : (Tr.key row hts u).ht = u.ht + 1 := by rw [Tr.ht]
    rw [e]
    exact Nat.le_refl _
  | fork gs =>
    intro t ht
    have e : (Tr.fork gs).ht = gs.ht + 1 := by rw [Tr.ht]
    rw [e]
    exact Nat.succ_le_succ (Gs.ht_mem ht)
theorem PartOk.few {n : Nat} {ps : List (List Int)} (h : PartOk n ps) : ps.length ≤ n := by
  have e := h.all.length_eq
  rw [List.length_map, List.length_range] at e
  rw [← e]
  have : ∀ ps : List (List Int), (∀ p ∈ ps, p ≠ []) → ps.length ≤ ps.flatten.length := fun ps => by
    induction ps with
    | nil => intro _; exact Nat.le_refl _
    | cons p ps ih =>
      intro hp
      have h1 := ih fun q hq => hp q (List.mem_cons_of_mem _ hq)
      have h2 : 1 ≤ p.length := by
        have := hp p List.mem_cons_self
        cases p with
        | nil => exact absurd rfl this
        | cons a b => simp
      simp only [List.length_cons, List.flatten_cons, List.length_append]
      omega
  exact this ps fun p hp => (h.each p hp).1
theorem Gs.len_parts : ∀ gs : Gs, gs.parts.length = gs.trees.length
  | .nil => rfl
  | .cons p t gs => by
    show _ + 1 = _ + 1
    rw [gs.len_parts]
theorem TrOk.few {d n : Nat} {T : Tr} (h : TrOk d n T) (hn : 1 ≤ n) : T.kids.length ≤ n := by
  cases T with
  | leaf => exact Nat.zero_le _
  | key row hts u => exact hn
  | fork gs =>
    unfold TrOk at h
    show gs.trees.length ≤ n
    rw [← gs.len_parts]
    exact h.1.few
/-! ### as data -/
mutual
def trD : Tr → PyData
  | .leaf => .tuple [.str "places"]
  | .key row hts t => .tuple [.str "key", dI row, dI hts, trD t]
  | .fork gs => .tuple [.str "fork", .tuple (gsD gs)]
def gsD : Gs → List PyData
  | .nil => []
  | .cons p t gs => .tuple [dI p, trD t] :: gsD gs
end
mutual
theorem dp_tr {K : PySem.W.Frag} {H : Hp} : ∀ {T : Tr} {v : V}, TrAt H T v → Dp K H v (trD T)
  | .leaf, _, h => by
    unfold TrAt at h
    unfold trD
    obtain ⟨a, rfl, ha⟩ := h
    exact .tup (SqT.of ha) (.cons (.str _) .nil)
  | .key row hts t, _, h => by
    unfold TrAt at h
    unfold trD
    obtain ⟨r, x, y, ⟨a, rfl, ha⟩, h2, h3, h4⟩ := h
    exact .tup (SqT.of ha) (.cons (.str _) (.cons (dp_pl h2) (.cons (dp_pl h3) (.cons (dp_tr h4) .nil))))
  | .fork gs, _, h => by
    unfold TrAt at h
    unfold trD
    obtain ⟨g, xs, ⟨a, rfl, ha⟩, ⟨b, rfl, hb⟩, h3⟩ := h
    exact .tup (SqT.of ha) (.cons (.str _) (.cons (.tup (SqT.of hb) (dp_gs h3)) .nil))
theorem dp_gs {K : PySem.W.Frag} {H : Hp} : ∀ {gs : Gs} {xs : List V}, GsAt H gs xs → DpAll K H xs (gsD gs)
  | .nil, _, h => by
    unfold GsAt at h
    unfold gsD
    subst h
    exact .nil
  | .cons part t gs, _, h => by
    unfold GsAt at h
    unfold gsD
    obtain ⟨x, r, y, z, rfl, ⟨a, rfl, ha⟩, h2, h3, h4⟩ := h
    exact .cons (.tup (SqT.of ha) (.cons (dp_pl h2) (.cons (dp_tr h3) .nil))) (dp_gs h4)
end
theorem canLay_dI (p : List Int) : PyData.canLay0 (dI p) = true := by
  show PyData.canLayAll0 (p.map .int) = true
  exact canLay_ints p
mutual
theorem canLay_tr : ∀ T : Tr, PyData.canLay0 (trD T) = true
  | .leaf => by unfold trD; decide +kernel
  | .key row hts t => by
    unfold trD
    simp only [PyData.canLay0, PyData.canLayAll0, canLay_ints, canLay_tr t]
    decide +kernel
  | .fork gs => by
    unfold trD
    simp only [PyData.canLay0, PyData.canLayAll0, canLay_gs gs]
    decide +kernel
theorem canLay_gs : ∀ gs : Gs, PyData.canLayAll0 (gsD gs) = true
  | .nil => rfl
  | .cons p t gs => by
    unfold gsD
    simp only [PyData.canLay0, PyData.canLayAll0, canLay_ints, canLay_tr t, canLay_gs gs]
    decide +kernel
end
theorem depth_dI1 (p : List Int) : (dI p).depth = 1 := by
  unfold dI PyData.depth
  rw [PySem.W.depth_ints]
mutual
theorem depth_tr : ∀ T : Tr, (trD T).depth ≤ 3 * T.ht + 1
  | .leaf => by unfold trD Tr.ht; decide +kernel
  | .key row hts t => by
    have h := depth_tr t
    have h1 := depth_dI1 row
    have h2 := depth_dI1 hts
    unfold trD Tr.ht
    simp only [PyData.depth, PyData.depthAll] at h1 h2 ⊢
    omega
  | .fork gs => by
    have h := depth_gs gs
    unfold trD Tr.ht
    simp only [PyData.depth, PyData.depthAll]
    omega
theorem depth_gs : ∀ gs : Gs, PyData.depthAll (gsD gs) ≤ 3 * gs.ht + 2
  | .nil => by unfold gsD; simp [PyData.depthAll]
  | .cons p t gs => by
    have h := depth_tr t
    have h1 := depth_dI1 p
    have h2 := depth_gs gs
    unfold gsD Gs.ht
    simp only [PyData.depth, PyData.depthAll] at h1 ⊢
    omega
end
theorem shaped_tr {T : Tr} (h : T.ht ≤ 10) : SeqAt.shaped (trD T) = true := by
  unfold SeqAt.shaped
  rw [canLay_tr, Bool.true_and]
  have := depth_tr T
  exact decide_eq_true (by omega)
theorem shaped_trs (Ts : List Tr) (h : ∀ T ∈ Ts, T.ht ≤ 10) : SeqAt.shaped (.list (Ts.map trD)) = true := by
  have h1 : ∀ Ts : List Tr, PyData.canLayAll0 (Ts.map trD) = true := fun Ts => by
    induction Ts with
    | nil => rfl
    | cons p ps ih =>
      show (PyData.canLay0 (trD p) && _) = true
      rw [ih, canLay_tr]
      rfl
  have h2 : ∀ Ts : List Tr, (∀ T ∈ Ts, T.ht ≤ 10) → PyData.depthAll (Ts.map trD) ≤ 31 := fun Ts => by
    induction Ts with
    | nil => intro _; simp [PyData.depthAll]
    | cons p ps ih =>
      intro hp
      show PyData.depthAll (trD p :: _) ≤ 31
      rw [PyData.depthAll]
      have := depth_tr p
      have := hp p List.mem_cons_self
      exact Nat.max_le.mpr ⟨by omega, ih fun T hT => hp T (List.mem_cons_of_mem _ hT)⟩
  unfold SeqAt.shaped
  simp only [PyData.canLay0, h1, PyData.depth, Bool.true_and]
  have := h2 Ts h
  exact decide_eq_true (by omega)
theorem eqv_leaf : ∀ T : Tr, PyData.eqv (trD T) (trD .leaf) = (match T with | .leaf => true | _ => false)
  | .leaf => by decide +kernel
  | .key row hts t => by
    unfold trD
    simp [PyData.eqv, PyData.eqvAll]
  | .fork gs => by
    unfold trD
    simp [PyData.eqv, PyData.eqvAll]
theorem eqv_nil_tr : ∀ T : Tr, PyData.eqv (trD T) (.tuple []) = false
  | .leaf => by unfold trD; rfl
  | .key row hts t => by unfold trD; rfl
  | .fork gs => by unfold trD; rfl
theorem dpAll_trs {K : PySem.W.Frag} {H : Hp} : ∀ {xs : List V} {Ts : List Tr}, Paired (fun x T => TrAt H T x) xs Ts → DpAll K H xs (Ts.map trD)
  | _, _, .nil => .nil
  | _, _, .cons h t => .cons (dp_tr h) (dpAll_trs t)
theorem hu_in {k : Nat} {A : Around} (hr : Room k A) : A.in1.units + 10 < cLine := by
  have := hr.un
  show A.units + 1 + 10 < _
  omega
end Lk

/-! Lookscan: the defs on trees. -/
namespace Lk
open PySem PySem.Spec PyProof.Rows L2 Evl
section
variable {K : PySem.W.Frag} {σ : L2.St} {H H' : Hp} {ta tb te tl : TE}
theorem ev_ixT {x v : V} {xs : List V} {i : Int} (j : Nat) (h : Ev ta σ H x) (hx : Tp H x xs) (hi : Ev tb σ H (.int i)) (hij : i = (j : Nat)) (hv : xs[j]? = some v) : Ev (tOp (rIxT K) ta tb) σ H v := fun H1 e Q q => h H1 e _ fun H2 e2 => hi H2 (e.trans e2) _ fun H3 e3 => by
  obtain ⟨a, rfl, ha⟩ := hx
  subst hij
  exact ⟨a, xs, _, v, rfl, rfl, SqT.of (((e.trans e2).trans e3) a _ ha), atI_nat hv, q H3 (e2.trans e3)⟩
theorem ev_ixL {x v : V} {xs : List V} {i : Int} (j : Nat) (h : Ev ta σ H x) (hx : Lp H x xs) (hi : Ev tb σ H (.int i)) (hij : i = (j : Nat)) (hv : xs[j]? = some v) : Ev (tOp (rIxL K) ta tb) σ H v := fun H1 e Q q => h H1 e _ fun H2 e2 => hi H2 (e.trans e2) _ fun H3 e3 => by
  obtain ⟨a, rfl, ha⟩ := hx
  subst hij
  exact ⟨a, xs, _, v, rfl, rfl, SqL.of (((e.trans e2).trans e3) a _ ha), atI_nat hv, q H3 (e2.trans e3)⟩
theorem ev_eqS {a b : Str} (h : Ev ta σ H (.str a)) (h2 : Ev tb σ H (.str b)) : Ev (tOp rEq ta tb) σ H (.bl (decide (V.str a = V.str b))) := fun H1 e Q q => h H1 e _ fun H2 e2 => h2 H2 (e.trans e2) _ fun H3 e3 => ⟨rfl, q H3 (e2.trans e3)⟩
theorem ev_eqD {x y : V} {d f : PyData} (h : Ev ta σ H x) (h2 : Ev tb σ H y) (hx : ∀ H1, Ex H H1 → Dp K H1 x d) (hy : ∀ H1, Ex H H1 → Dp K H1 y f) (sd : SeqAt.shaped d = true) (sf : SeqAt.shaped f = true) : Ev (tOp (rEqD K) ta tb) σ H (.bl (PyData.eqv d f)) := fun H1 e Q q => h H1 e _ fun H2 e2 => h2 H2 (e.trans e2) _ fun H3 e3 =>
  ⟨d, f, hx H3 ((e.trans e2).trans e3), hy H3 ((e.trans e2).trans e3), sd, sf, q H3 (e2.trans e3)⟩
theorem ev_neD {x y : V} {d f : PyData} (h : Ev ta σ H x) (h2 : Ev tb σ H y) (hx : ∀ H1, Ex H H1 → Dp K H1 x d) (hy : ∀ H1, Ex H H1 → Dp K H1 y f) (sd : SeqAt.shaped d = true) (sf : SeqAt.shaped f = true) : Ev (tOp (rNeD K) ta tb) σ H (.bl (!PyData.eqv d f)) := fun H1 e Q q => h H1 e _ fun H2 e2 => h2 H2 (e.trans e2) _ fun H3 e3 =>
  ⟨d, f, hx H3 ((e.trans e2).trans e3), hy H3 ((e.trans e2).trans e3), sd, sf, q H3 (e2.trans e3)⟩
/-- x == () -/
theorem ev_eqU0 {x : V} {d : PyData} (h : Ev ta σ H x) (hx : ∀ H1, Ex H H1 → Dp K H1 x d) (sd : SeqAt.shaped d = true) : Ev (tOp (rEqD K) ta (tTup tNil)) σ H (.bl (PyData.eqv d (.tuple []))) := fun H1 e Q q => h H1 e _ fun H2 e2 => ⟨by decide, fun p hp =>
  ⟨d, .tuple [], hx _ ((e.trans e2).trans (Ex.new hp)), .tup (SqT.of upd_same) .nil, sd, by decide +kernel, q _ (e2.trans (Ex.new hp))⟩⟩
/-- x == [] -/
theorem ev_eqL0 {x : V} {d : PyData} (h : Ev ta σ H x) (hx : ∀ H1, Ex H H1 → Dp K H1 x d) (sd : SeqAt.shaped d = true) : Ev (tOp (rEqD K) ta (tLst tNil)) σ H (.bl (PyData.eqv d (.list []))) := fun H1 e Q q => h H1 e _ fun H2 e2 => ⟨by decide, fun p hp =>
  ⟨d, .list [], hx _ ((e.trans e2).trans (Ex.new hp)), .lst (SqL.of upd_same) .nil, sd, by decide +kernel, q _ (e2.trans (Ex.new hp))⟩⟩
end
/-- a new list whose items have P -/
def EvLs (te : TE) (σ : L2.St) (H : Hp) (P : List V → Hp → Prop) : Prop := ∀ H1, Ex H H1 → ∀ Q : VK, (∀ D ys H2, H1 D = none → Ex H1 H2 → H2 D = some (.lst ys) → P ys H2 → Q (.ref D) H2) → te σ H1 Q
/-- [e for x in t] over a tuple: told by a predicate -/
theorem lc_tupR {K : PySem.W.Frag} {σ : L2.St} {H : Hp} {te tl : TE} {x : V} {xs : List V} {j : Nat} (R : V → V → Hp → Prop) (hR : ∀ y v H H', Tx H H' → R y v H → R y v H') (h : Ev tl σ H x) (hx : Tp H x xs) (hz : xs.length ≤ 100000)
    (he : ∀ y ∈ xs, ∀ H1, Ex H H1 → EvX te ((wipe σ [j]).set j (some y)) H1 (fun v H2 => R y v H2)) : EvLs (tLc (iTup K tl) (gName j) tYes te [j]) σ H (fun ys H2 => Paired (fun v y => R y v H2) ys xs) := fun H0 e Q q => h H0 e _ fun H1 e1 => by
  obtain ⟨a, rfl, ha⟩ := hx
  have ha1 := (e.trans e1) a _ ha
  refine ⟨a, rfl, ⟨_, SqT.of ha1⟩, ?_⟩
  refine lc_feeds (fun _ => true) (fun i v H2 => ∀ y, xs[i]? = some y → R y v H2) (feeds_tup (SqT.of ha1)) (Nat.lt_of_le_of_lt hz (by decide)) (fun i v H H' t z y hy => hR y v H H' t (z y hy)) ?_ ?_
  · intro i v H2 hi e2 hv Q2 k2
    refine k2 _ H2 (Ex.refl _) wipe1 evB_yes fun _ H3 e3 Q3 k3 => ?_
    refine he v (List.mem_of_getElem? hv) H3 (((e.trans e1).trans e2).trans e3) H3 (Ex.refl _) _ fun u H4 e4 hu => k3 u H4 e4 fun y hy => ?_
    rw [hv] at hy
    cases hy
    exact hu
  · intro D ys H2 hD e2 hy each
    rw [filter_yes] at each
    refine q D ys H2 (fresh_back e1 hD) (e1.trans e2) hy ?_
    have hl : ys.length = xs.length := by rw [each.length, List.length_range]
    have key : ∀ (ys : List V) (ns : List Nat) (zs : List V), Paired (fun v i => ∀ y, xs[i]? = some y → R y v H2) ys ns → ns.length = zs.length → (∀ k : Nat, ∀ i, ns[k]? = some i → xs[i]? = zs[k]?) → Paired (fun v y => R y v H2) ys zs := by
      intro ys ns zs h
      induction h generalizing zs with
      | nil =>
        intro hl _
        cases zs with
        | nil => exact .nil
        | cons => simp at hl
      | cons a b ih =>
        intro hl hk
        cases zs with
        | nil => simp at hl
        | cons z zs =>
          refine .cons (a z ?_) (ih zs (by simpa using hl) fun k i hi => ?_)
          · exact hk 0 _ rfl
          · exact hk (k + 1) i (by simpa using hi)
    refine key ys _ xs each (by rw [List.length_range]) fun k i hi => ?_
    have hk : k < xs.length := by
      have := (List.getElem?_eq_some_iff.mp hi).1
      rw [List.length_range] at this
      exact this
    rw [List.getElem?_range hk] at hi
    cases hi
    rfl
section
variable {P : Program} {w : World} {K : PySem.W.Frag} {mg : Str → Option Value} {base : Heap} {leaf : Addr}
theorem paired_map {α β γ : Type} {F : α → γ → Prop} {f : β → γ} : ∀ {l : List α} {m : List β}, Paired (fun a b => F a (f b)) l m → Paired F l (m.map f)
  | _, _, .nil => .nil
  | _, _, .cons a t => .cons a (paired_map t)
theorem paired_comp {α β γ : Type} {F : α → β → Prop} {G : β → γ → Prop} {R : α → γ → Prop} (h : ∀ a b c, F a b → G b c → R a c) : ∀ {l : List α} {m : List β} {n : List γ}, Paired F l m → Paired G m n → Paired R l n
  | _, _, _, .nil, .nil => .nil
  | _, _, _, .cons a t, .cons b u => .cons (h _ _ _ a b) (paired_comp h t u)
theorem TrAt.tup {H : Hp} : ∀ {T : Tr} {v : V}, TrAt H T v → ∃ xs, Tp H v xs ∧ xs[0]? = some (V.str (match T with | .leaf => "places" | .key _ _ _ => "key" | .fork _ => "fork"))
  | .leaf, _, h => by unfold TrAt at h; exact ⟨_, h, rfl⟩
  | .key row hts t, _, h => by unfold TrAt at h; obtain ⟨r, x, y, h1, _⟩ := h; exact ⟨_, h1, rfl⟩
  | .fork gs, _, h => by unfold TrAt at h; obtain ⟨g, xs, h1, _⟩ := h; exact ⟨_, h1, rfl⟩
/-! ### below -/
abbrev sBelow : Stmt := top 47
theorem scBelow : FnScope ["node", "group"] ["node"] (defScope sBelow) := ⟨rfl, rfl, rfl, by decide +kernel, rfl, by decide +kernel, by decide +kernel⟩
/-- a list of trees -/
def TsAt (H : Hp) (v : V) (Ts : List Tr) : Prop := ∃ xs, Lp H v xs ∧ Paired (fun x T => TrAt H T x) xs Ts
theorem TsAt.ex {H H' : Hp} (e : Ex H H') {v : V} {Ts : List Tr} (h : TsAt H v Ts) : TsAt H' v Ts := by
  obtain ⟨xs, h1, h2⟩ := h
  exact ⟨xs, h1.ex e, Paired.mapP h2 fun _ _ z => z.tx (tx_of e)⟩
def spBelow : Sp := fun vs H Q _ => ∃ x T, vs = [x] ∧ TrAt H T x ∧ T.kids.length ≤ 1000 ∧ ∀ D xs H', H D = none → Ex H H' → H' D = some (.lst xs) → Paired (fun x T => TrAt H' T x) xs T.kids → Q (.ref D) H'
theorem ex_below {σ : L2.St} {H : Hp} {ta : TA} {x : V} {T : Tr} (h : EvA ta σ H [x]) (hx : TrAt H T x) (hz : T.kids.length ≤ 1000) : EvLs (tCall spBelow [] E0 ta) σ H (fun xs H2 => Paired (fun x T => TrAt H2 T x) xs T.kids) := fun H1 e Q k => h H1 e _ fun H2 e2 =>
  ⟨x, T, rfl, hx.tx (tx_of (e.trans e2)), hz, fun D xs H3 hD e3 hv hp => k D xs H3 (fresh_back e2 hD) (e2.trans e3) hv hp⟩
theorem ok_below (B : Bt mg) (F : Df K mg "below" sBelow) : Ok P w K mg base 1 "below" ["node"] spBelow := by
  refine ok_of F scBelow (fun vs H Q E h => by obtain ⟨x, T, rfl, _⟩ := h; rfl) (fun dV _ _ _ _ _ _ us hl e => by subst e; exact match us, hl with | [_], _ => rfl) fun f cdv A outer s H vs Q E hr h => ?_
  obtain ⟨x, T, rfl, hx, hz, k⟩ := h
  refine ⟨_, (pss_cons (ps_if (pt_cmpR op_eq (pe_ix ix_tup (pv 0) pe_int (fun _ _ => rfl)) pe_str (nomark _)) (pss_one (ps_ret (pe_lst (pa_cons (pe_ix ix_tup (pv 0) pe_int (fun _ _ => rfl)) pa_nil)))) pss_nil)
      (pss_one (ps_ret (pe_ifExp (pt_cmpR op_eq (pe_ix ix_tup (pv 0) pe_int (fun _ _ => rfl)) pe_str (nomark _)) (pe_lc (own := [("group", 1)]) (g := (gName 1)) (tt := tYes) (te := (tOp (rIxT K) (tVar 1) (tC (.int 1)))) rfl scBelow.nd (pi_tup (pe_ix ix_tup (pv 0) pe_int (fun _ _ => rfl))) (blkOk_by (own := [("group", 1)]) (N := ["node", "group"]) (sc := defScope sBelow) (by decide +kernel)) (fun _ _ _ _ _ => (pg_name (i := 1) scBelow.nd rfl (Or.inl rfl) (Or.inr rfl))) (fun _ _ _ _ _ => pts_nil) (fun _ _ _ _ _ => (pe_ix ix_tup (pv 1) pe_int (fun _ _ => rfl)))) (pe_lst pa_nil))))), ?_⟩
  obtain ⟨xs, hxs, h0⟩ := hx.tup
  have z0 : ∀ H1, Ex H H1 → Ev (tOp (rIxT K) (tVar 0) (tC (.int 0))) (start ["node", "group"] [x]) H1 _ := fun H1 e => ev_ixT 0 (ev_var rfl) (hxs.tx (tx_of e)) ev_c rfl h0
  cases T with
  | leaf =>
    refine q_when (b := false) (et_test (ev_eqS (z0 H (Ex.refl H)) ev_c)) (fun z => by cases z) fun _ H1 e1 => ?_
    refine (et_test (ev_eqS (z0 H1 e1) ev_c)) H1 (Ex.refl _) _ fun H2 e2 => ?_
    rw [if_neg (by decide)]
    exact ⟨by decide, fun p hp => k p [] _ (fresh_back (e1.trans e2) hp) ((e1.trans e2).trans (Ex.new hp)) upd_same .nil⟩
  | key row hts t =>
    refine q_when (b := true) (et_test (ev_eqS (z0 H (Ex.refl H)) ev_c)) (fun _ H1 e1 => ?_) (fun z => by cases z)
    unfold TrAt at hx
    obtain ⟨r, y, u, h1, _, _, h4⟩ := hx
    refine (ev_ixT (K := K) 3 (ev_var rfl) (h1.tx (tx_of e1)) ev_c rfl rfl : Ev (tOp (rIxT K) (tVar 0) (tC (.int 3))) (start ["node", "group"] [x]) H1 u) H1 (Ex.refl _) _ fun H2 e2 => ⟨sz_of (by simp), fun p hp => ?_⟩
    have e3 := (e1.trans e2).trans (Ex.new (o := .lst [u]) hp)
    exact k p [u] _ (fresh_back (e1.trans e2) hp) e3 upd_same (.cons (h4.tx (tx_of e3)) .nil)
  | fork gs =>
    refine q_when (b := false) (et_test (ev_eqS (z0 H (Ex.refl H)) ev_c)) (fun z => by cases z) fun _ H1 e1 => ?_
    refine (et_test (ev_eqS (z0 H1 e1) ev_c)) H1 (Ex.refl _) _ fun H2 e2 => ?_
    rw [if_pos (by simp)]
    unfold TrAt at hx
    obtain ⟨g, ys, h1, h2, h3⟩ := hx
    have e12 := e1.trans e2
    have hl : ys.length = gs.list.length := h3.each.length
    have hl2 : gs.list.length = gs.trees.length := by rw [← gs.list_trees, List.length_map]
    have hz : gs.trees.length ≤ 1000 := hz
    refine lc_tupR (K := K) (σ := start ["node", "group"] [x]) (H := H2) (j := 1) (tl := tOp (rIxT K) (tVar 0) (tC (.int 1))) (te := tOp (rIxT K) (tVar 1) (tC (.int 1))) (x := g) (xs := ys) (fun y v H3 => ∃ u, Tp H3 y [u, v]) (fun y v H H' t ⟨u, z⟩ => ⟨u, z.tx t⟩) (ev_ixT 1 (ev_var rfl) (h1.tx (tx_of e12)) ev_c rfl rfl) (h2.tx (tx_of e12)) (by omega) (fun y hy H3 e3 => ?_) H2 (Ex.refl _) _ fun D zs H3 hD e3 hzs hp => k D zs H3 (fresh_back e12 hD) (e12.trans e3) hzs ?_
    · obtain ⟨i, hi, ei⟩ := List.mem_iff_getElem.mp hy
      obtain ⟨gr, _, u, z, hy2, _, _⟩ := paired_getL h3.each (i := i) (x := y) (by rw [List.getElem?_eq_getElem hi, ei])
      exact EvX.of (v := z) (ev_ixT 1 (ev_var rfl) (hy2.tx (tx_of (e12.trans e3))) ev_c rfl rfl) fun H4 e4 => ⟨u, hy2.tx (tx_of ((e12.trans e3).trans e4))⟩
    · show Paired _ zs gs.trees
      rw [← gs.list_trees]
      refine paired_map (paired_comp (fun a b c h h' => ?_) hp (Paired.mapP h3.each fun _ _ z => z.tx (tx_of (e12.trans e3))))
      obtain ⟨u, hu⟩ := h
      obtain ⟨y, z, hy, _, hz⟩ := h'
      have := hu.uniq hy
      cases this
      exact hz

/-! ### group_at -/
abbrev sGroupAt : Stmt := top 50
theorem scGroupAt : FnScope ["groups", "number", "at", "group"] ["groups", "number"] (defScope sGroupAt) := ⟨rfl, rfl, rfl, by decide +kernel, rfl, by decide +kernel, by decide +kernel⟩
/-- the number of the first group that holds a -/
def grAt (a : Int) : List (List Int) → Nat
  | [] => 0
  | p :: ps => if a ∈ p then 0 else grAt a ps + 1
theorem grAt_lt {a : Int} : ∀ {ps : List (List Int)}, a ∈ ps.flatten → grAt a ps < ps.length
  | [], h => by simp at h
  | p :: ps, h => by
    unfold grAt
    by_cases hp : a ∈ p
    · rw [if_pos hp]; simp
    · rw [if_neg hp]
      have h2 : a ∈ ps.flatten := by
        rw [List.flatten_cons, List.mem_append] at h
        exact h.resolve_left hp
      have := grAt_lt h2
      simp
      omega
theorem grAt_filter (a : Int) : ∀ (ps : List (List Int)), a ∈ ps.flatten → ∀ k : Nat, ((List.range' k ps.length).filter fun i => decide (∃ p, ps[i - k]? = some p ∧ a ∈ p)).head? = some (k + grAt a ps) := by
  intro ps
  induction ps with
  | nil => intro h; simp at h
  | cons p ps ih =>
    intro h k
    rw [List.length_cons, List.range'_succ, List.filter_cons]
    unfold grAt
    by_cases hp : a ∈ p
    · rw [if_pos hp, if_pos (by simp [hp])]
      rfl
    · rw [if_neg hp, if_neg (by simp [hp])]
      have h2 : a ∈ ps.flatten := by
        rw [List.flatten_cons, List.mem_append] at h
        exact h.resolve_left hp
      have e := ih h2 (k + 1)
      rw [show k + (grAt a ps + 1) = k + 1 + grAt a ps by omega, ← e]
      congr 1
      apply List.filter_congr
      intro i hi
      have := (List.mem_range'_1.mp hi).1
      rw [show i - k = (i - (k + 1)) + 1 by omega, List.getElem?_cons_succ]
def spGroupAt : Sp := fun vs H Q _ => ∃ x xs gs a, vs = [x, .int a] ∧ Tp H x xs ∧ GsAt H gs xs ∧ gs.parts.length ≤ 1000 ∧ a ∈ gs.parts.flatten ∧ ∀ H', Ex H H' → Q (.int (grAt a gs.parts)) H'
theorem ev_group_at {σ : L2.St} {H : Hp} {ta : TA} {x : V} {xs : List V} {gs : Gs} {a : Int} (h : EvA ta σ H [x, .int a]) (hx : Tp H x xs) (hg : GsAt H gs xs) (hz : gs.parts.length ≤ 1000) (ha : a ∈ gs.parts.flatten) : Ev (tCall spGroupAt [] E0 ta) σ H (.int (grAt a gs.parts)) := fun H1 e Q q => h H1 e _ fun H2 e2 =>
  ⟨x, xs, gs, a, rfl, hx.tx (tx_of (e.trans e2)), hg.tx (tx_of (e.trans e2)), hz, ha, fun H3 e3 => q H3 (e2.trans e3)⟩
theorem flat_ints (p : List Int) : (p.map V.int).all flatV = true := by
  rw [List.all_map, List.all_eq_true]
  intro i _
  rfl
theorem inV_ints (a : Int) (p : List Int) : inV (.int a) (p.map V.int) = decide (a ∈ p) := by
  unfold inV
  rw [List.any_map]
  induction p with
  | nil => simp
  | cons b p ih =>
    rw [List.any_cons, ih]
    show (eqV (.int b) (.int a) || _) = _
    rw [show eqV (.int b) (.int a) = (b == a) from rfl]
    by_cases h : b = a
    · simp [h]
    · simp [h, Ne.symm h]
theorem ok_group_at (B : Bt mg) (F : Df K mg "group_at" sGroupAt) : Ok P w K mg base 1 "group_at" ["groups", "number"] spGroupAt := by
  refine ok_of F scGroupAt (fun vs H Q E h => by obtain ⟨x, xs, gs, a, rfl, _⟩ := h; rfl) (fun dV _ _ _ _ _ _ us hl e => by subst e; exact match us, hl with | [_, _], _ => rfl) fun f cdv A outer s H vs Q E hr h => ?_
  obtain ⟨x, xs, gs, a, rfl, ⟨b, rfl, hb⟩, hg, hz, ha, k⟩ := h
  have each := hg.each
  have hl : xs.length = gs.parts.length := by rw [each.length, ← gs.list_parts, List.length_map]
  refine ⟨_, (pss_one (ps_ret (pe_ix ix_list (pe_lc (own := [("at", 2), ("group", 3)]) (g := (gTup K 2 (gCons (gName 2) (gCons (gName 3) gNil)))) (tt := (tTest (tOp (rIn K false) (tVar 1) (tOp (rIxT K) (tVar 3) (tC (.int 0)))))) (te := (tVar 2)) rfl scGroupAt.nd (pi_enumT rfl B.enumerate (pa_cons (pv 0) pa_nil)) (blkOk_by (own := [("at", 2), ("group", 3)]) (N := ["groups", "number", "at", "group"]) (sc := defScope sGroupAt) (by decide +kernel)) (fun _ _ _ _ _ => (pg_tup rfl (pgs_cons (pg_name (i := 2) scGroupAt.nd rfl (Or.inl rfl) (Or.inr rfl)) (pgs_cons (pg_name (i := 3) scGroupAt.nd rfl (Or.inl rfl) (Or.inr rfl)) pgs_nil)))) (fun _ _ _ _ _ => pts_one (pt_cmpR op_in_seq (pv 1) (pe_ix ix_tup (pv 3) pe_int (fun _ _ => rfl)) (by with_unfolding_all rfl))) (fun _ _ _ _ _ => (pv 2))) pe_int (fun _ _ => rfl)))), ?_⟩
  refine ⟨_, rfl, b, xs, rfl, hb, ?_⟩
  refine lc_feeds (Q := fun x H1 => rIxL K x (.int 0) H1 Q) (J := IteT K b) (vs := [2, 3]) (σ := start ["groups", "number", "at", "group"] [.ref b, .int a]) (g := gTup K 2 (gCons (gName 2) (gCons (gName 3) gNil))) (tt := tTest (tOp (rIn K false) (tVar 1) (tOp (rIxT K) (tVar 3) (tC (.int 0))))) (te := tVar 2) (fun i => decide (∃ p, gs.parts[i]? = some p ∧ a ∈ p)) (fun i v _ => v = .int (i : Nat)) (feeds_enumT hb) (by rw [hl]; exact Nat.lt_of_le_of_lt hz (by decide)) (fun _ _ _ _ _ h => h) ?_ ?_
  · rintro i v H1 hi e ⟨y, ⟨T, rfl, hT⟩, hy⟩ Q2 k2
    obtain ⟨g, hgi, u, z, hy2, hy3, _⟩ := paired_getL each hy
    have hp : gs.parts[i]? = some g.1 := by rw [← gs.list_parts, List.getElem?_map, hgi]; rfl
    refine ⟨T, _, rfl, SqT.of hT, rfl, _, _, rfl, _, _, rfl, rfl, k2 _ H1 (Ex.refl _) (wipe2 (by decide)) (fun Q3 k3 => ?_) fun _ H3 e3 Q3 k3 => ⟨_, rfl, k3 _ H3 (Ex.refl _) rfl⟩⟩
    refine ⟨_, rfl, ?_⟩
    refine (ev_ixT (K := K) 0 (ev_var rfl) (hy2.tx (tx_of e)) ev_c rfl rfl : Ev (tOp (rIxT K) (tVar 3) (tC (.int 0))) [some (.ref b), some (.int a), some (.int (i : Nat)), some y] H1 u) H1 (Ex.refl _) _ fun H2 e2 => ?_
    obtain ⟨d, rfl, hd⟩ := hy3.tx (tx_of (e.trans e2))
    refine ⟨d, _, rfl, .inr (SqT.of hd), rfl, flat_ints _, _, rfl, ?_⟩
    rw [if_neg Bool.false_ne_true, inV_ints]
    rw [show decide (a ∈ g.1) = decide (∃ p, gs.parts[i]? = some p ∧ a ∈ p) by rw [hp]; simp]
    exact k3 H2 e2
  · intro D ys H1 hD e hy each2
    have ey := each_eq (v := fun i => V.int (i : Nat)) (fun i y h => h) each2
    have hd := grAt_filter a gs.parts ha 0
    rw [hl, List.range_eq_range'] at ey
    have e0 : ys[0]? = some (.int ((grAt a gs.parts : Nat))) := by
      rw [ey, List.getElem?_map]
      rw [List.head?_eq_getElem?] at hd
      simp only [Nat.sub_zero, Nat.zero_add] at hd
      rw [hd]
      rfl
    exact ⟨D, ys, _, _, rfl, rfl, SqL.of hy, atI_nat (j := 0) e0, k H1 e⟩
end
end Lk


/-! Lookscan: partings, nodes. -/
namespace Lk
open PySem PySem.Spec PyProof.Rows L2 Evl
theorem gsD_shaped {gs : Gs} (h : gs.ht ≤ 9) : SeqAt.shaped (.tuple (gsD gs)) = true := by
  unfold SeqAt.shaped
  have := depth_gs gs
  simp only [PyData.canLay0, canLay_gs, PyData.depth, Bool.true_and]
  exact decide_eq_true (by omega)
theorem shaped_listI (p : List Int) : SeqAt.shaped (.list (p.map .int)) = true := by
  unfold SeqAt.shaped
  simp only [PyData.canLay0, canLay_ints, PyData.depth, PySem.W.depth_ints]
  rfl
theorem dp_listI {K : PySem.W.Frag} {H : Hp} {a : Addr} {p : List Int} (h : H a = some (.lst (p.map V.int))) : Dp K H (.ref a) (.list (p.map .int)) := .lst (SqL.of h) (dpAll_ints p)
theorem el_nil {σ : L2.St} {H : Hp} : EvL (tLst tNil) σ H [] := fun H1 e Q q => ⟨by decide, fun p hp => q p _ hp (Ex.new hp) upd_same⟩
theorem sorted_same {p : List Int} (h : p.Pairwise (· ≤ ·)) : (p.mergeSort fun a b => decide (a ≤ b)) = p := List.mergeSort_of_pairwise (h.imp fun h => decide_eq_true h)
theorem perm_sorted {p q : List Int} (h : p.Perm q) (hp : p.Pairwise (· ≤ ·)) (hq : q.Pairwise (· ≤ ·)) : p = q :=
  h.eq_of_pairwise (fun a b _ _ h1 h2 => Int.le_antisymm h1 h2) hp hq
section
variable {P : Program} {w : World} {K : PySem.W.Frag} {mg : Str → Option Value} {base : Heap} {leaf : Addr}
/-! ### is_parting -/
abbrev sIsParting : Stmt := top 45
theorem scIsParting : FnScope ["groups", "many", "seen", "group", "one"] ["groups", "many"] (defScope sIsParting) := ⟨rfl, rfl, rfl, by decide +kernel, rfl, by decide +kernel, by decide +kernel⟩
def spIsParting : Sp := fun vs H Q _ => ∃ x xs gs n, vs = [x, .int (n : Nat)] ∧ Tp H x xs ∧ GsAt H gs xs ∧ PartOk n gs.parts ∧ n ≤ 100 ∧ gs.ht ≤ 9 ∧ ∀ H', Ex H H' → Q (.bl true) H'
theorem ev_is_parting {σ : L2.St} {H : Hp} {ta : TA} {x : V} {xs : List V} {gs : Gs} {n : Nat} (h : EvA ta σ H [x, .int (n : Nat)]) (hx : Tp H x xs) (hg : GsAt H gs xs) (hp : PartOk n gs.parts) (hn : n ≤ 100) (hh : gs.ht ≤ 9) : Ev (tCall spIsParting [] E0 ta) σ H (.bl true) := fun H1 e Q q => h H1 e _ fun H2 e2 =>
  ⟨x, xs, gs, n, rfl, hx.tx (tx_of (e.trans e2)), hg.tx (tx_of (e.trans e2)), hp, hn, hh, fun H3 e3 => q H3 (e2.trans e3)⟩
theorem parts_list {gs : Gs} {i : Nat} {g : List Int × Tr} (h : gs.list[i]? = some g) : gs.parts[i]? = some g.1 := by
  rw [← gs.list_parts, List.getElem?_map, h]
  rfl
theorem flatten_take {α : Type} (l : List (List α)) {i : Nat} {x : List α} (h : l[i]? = some x) : (l.take (i + 1)).flatten = (l.take i).flatten ++ x := by
  rw [List.take_add_one, h, List.flatten_append]
  simp
theorem flatten_len (l : List (List Int)) (i : Nat) : (l.take i).flatten.length ≤ l.flatten.length := by
  have e : l.flatten = (l.take i).flatten ++ (l.drop i).flatten := by rw [← List.flatten_append, List.take_append_drop]
  rw [e, List.length_append]
  omega
theorem ok_is_parting (B : Bt mg) (F : Df K mg "is_parting" sIsParting) (h_is_number : Ok P w K mg base 1 "is_number" ["value"] spIsNumber) : Ok P w K mg base 2 "is_parting" ["groups", "many"] spIsParting := by
  refine ok_of F scIsParting (fun vs H Q E h => by obtain ⟨x, xs, gs, n, rfl, _⟩ := h; rfl) (fun dV _ _ _ _ _ _ us hl e => by subst e; exact match us, hl with | [_, _], _ => rfl) fun f cdv A outer s H vs Q E hr h => ?_
  obtain ⟨x, xs, gs, n, rfl, hx, hg, hp, hn, hh, k⟩ := h
  have each := hg.each
  have hne : gs ≠ .nil := fun e => hp.ne (by rw [e]; rfl)
  have hall : gs.parts.flatten.length = n := by rw [hp.all.length_eq, List.length_map, List.length_range]
  refine ⟨_, (pss_cons (ps_if (PW.pt (pw_or (pt_not (pt_val (pe_callB call_isi rfl B.isinstance (by decide +kernel) (pa_cons (pv 0) (pa_cons (pe_bltn rfl B.tuple (by decide +kernel) (v := .ty "tuple") rfl) pa_nil))))) (pw_or1 (pt_cmpR (op_eqD hr.units) (pv 0) (pe_tup pa_nil) (nomark _))))) (pss_one (ps_ret pe_bl)) pss_nil)
      (pss_cons (ps_set (i := 2) scIsParting.nd rfl (Or.inl rfl) (pe_lst pa_nil))
      (pss_cons (ps_for PassesOwn.never rfl (pi_tup (pv 0)) (pg_name (i := 3) scIsParting.nd rfl (Or.inl rfl))
      (pss_cons (ps_if (PW.pt (pw_or (pt_not (pt_val (pe_callB call_isi rfl B.isinstance (by decide +kernel) (pa_cons (pv 3) (pa_cons (pe_bltn rfl B.tuple (by decide +kernel) (v := .ty "tuple") rfl) pa_nil))))) (pw_or (pt_cmpR op_ne (pe_callB call_len_seq rfl B.len PySem.boot_len (pa_cons (pv 3) pa_nil)) pe_int (nomark _)) (pw_or (pt_not (pt_val (pe_callB call_isi rfl B.isinstance (by decide +kernel) (pa_cons (pe_ix ix_tup (pv 3) pe_int (fun _ _ => rfl)) (pa_cons (pe_bltn rfl B.tuple (by decide +kernel) (v := .ty "tuple") rfl) pa_nil))))) (pw_or1 (pt_cmpR (op_eqD hr.units) (pe_ix ix_tup (pv 3) pe_int (fun _ _ => rfl)) (pe_tup pa_nil) (nomark _))))))) (pss_one (ps_ret pe_bl)) pss_nil)
      (pss_cons (ps_if (PW.pt (pw_or (pt_not (pt_val (pe_callB (cr_all rfl) rfl B.all (by decide +kernel) (pa_cons (pe_lc (own := [("one", 4)]) (g := (gName 4)) (tt := tYes) (te := (tCall spIsNumber [] E0 (tCons (tVar 4) tNil))) rfl scIsParting.nd (pi_tup (pe_ix ix_tup (pv 3) pe_int (fun _ _ => rfl))) (blkOk_by (own := [("one", 4)]) (N := ["groups", "many", "seen", "group", "one"]) (sc := defScope sIsParting) (by decide +kernel)) (fun _ _ _ _ _ => (pg_name (i := 4) scIsParting.nd rfl (Or.inl rfl) (Or.inr rfl))) (fun _ _ _ _ _ => pts_nil) (fun _ _ _ _ _ => (pe_do h_is_number hr rfl (pa_cons (pv 4) pa_nil)))) pa_nil)))) (pw_or1 (pt_cmpR (op_neD hr.units) (pe_callTy call_list_of rfl B.list (by decide +kernel) (pa_cons (pe_ix ix_tup (pv 3) pe_int (fun _ _ => rfl)) pa_nil)) (pe_callB (cr_sortT (hu_in hr)) rfl B.sorted (by decide +kernel) (pa_cons (pe_ix ix_tup (pv 3) pe_int (fun _ _ => rfl)) pa_nil)) (nomark _))))) (pss_one (ps_ret pe_bl)) pss_nil)
      (pss_one (ps_expr (pe_bm PySem.F.plainAttrs_list PySem.F.slot_list_extend PySem.F.type_list_extend mt_extendT (pv 2) (pa_cons (pe_ix ix_tup (pv 3) pe_int (fun _ _ => rfl)) pa_nil)))))))
      (pss_one (ps_ret (pe_cmpR (op_eqD hr.units) (pe_callB cr_sortedI rfl B.sorted (by decide +kernel) (pa_cons (pv 2) pa_nil)) (pe_listRg rfl rfl B.list (prg_1 rfl B.range (pv 1))) (nomark _))))))), ?_⟩
  refine q_when (b := false) (et_is (et_or (a := false) (b := false) (et_is (et_not (et_B (ev_isT (ev_var rfl) hx))) rfl) fun _ => et_test (ev_is (ev_eqU0 (d := .tuple (gsD gs)) (ev_var rfl) (fun H1 e1 => ?_) (gsD_shaped hh)) ?_)) rfl) (fun z => by cases z) fun _ H1 e1 => ?_
  · obtain ⟨a, rfl, ha⟩ := hx
    exact .tup (SqT.of (e1 a _ ha)) (dp_gs (hg.tx (tx_of e1)))
  · cases gs with
    | nil => exact absurd rfl hne
    | cons p t gs => rfl
  refine q_asgL el_nil fun D H2 hD e2 h2 => ?_
  obtain ⟨a, rfl, ha⟩ := id hx
  have hD0 : H D = none := fresh_back e1 hD
  refine ⟨_, rfl, a, rfl, ⟨_, SqT.of ((e1.trans e2) a _ ha)⟩, for_feeds (H0 := H) (feeds_tup (SqT.of ha)) (fun i σ H' => Ex H H' ∧ H' D = some (.lst ((gs.parts.take i).flatten.map V.int)) ∧ ∃ u v, σ = [some (.ref a), some (.int (n : Nat)), some (.ref D), u, v]) ⟨e1.trans e2, h2, _, _, rfl⟩ (fun i σ H' h => h.1) ?_ ?_⟩
  · rintro i y σ H3 H4 hi ⟨e3, h3, u, v, rfl⟩ e4 hy
    obtain ⟨g, hgi, y1, y2, hy1, hy2, hy3⟩ := paired_getL each hy
    obtain ⟨pne, psort⟩ := hp.each g.1 (List.mem_of_getElem? (parts_list hgi))
    have e34 := e3.trans e4
    have i0 : ∀ {σ : L2.St} {H5 : Hp}, Ex H4 H5 → σ[3]? = some (some y) → Ev (tOp (rIxT K) (tVar 3) (tC (.int 0))) σ H5 y1 := fun {σ H5} e5 hσ => ev_ixT 0 (ev_var hσ) (hy1.tx (tx_of (e34.trans e5))) ev_c rfl rfl
    have plen : g.1.length ≤ 100 := by
      have z := flatten_take gs.parts (parts_list hgi)
      have z2 := flatten_len gs.parts (i + 1)
      rw [z, List.length_append] at z2
      omega
    refine q_when (b := false) (et_is (et_or (a := false) (b := false) (et_is (et_not (et_B (ev_isT (ev_var rfl) (hy1.tx (tx_of e34))))) rfl) fun _ => et_is (et_or (a := false) (b := false) (et_test (ev_is (ev_neI (j := 2) (ev_lenT (ev_var rfl) (hy1.tx (tx_of e34))) ev_c) rfl)) fun _ =>
      et_is (et_or (a := false) (b := false) (et_is (et_not (et_B (ev_isT (i0 (Ex.refl _) rfl) (hy2.tx (tx_of e34))))) rfl) fun _ => et_test (ev_is (ev_eqU0 (d := dI g.1) (i0 (Ex.refl _) rfl) (fun H5 e5 => dp_pl (hy2.tx (tx_of (e34.trans e5)))) (shaped_ints _)) ?_)) rfl) rfl) rfl) (fun z => by cases z) fun _ H5 e5 => ?_
    · cases hq : g.1 with
      | nil => exact absurd hq pne
      | cons b c => rfl
    have e35 := e34.trans e5
    refine q_when (b := false) (et_is (et_or (a := false) (b := false) (et_is (et_not (et_B (ev_all (bs := g.1.map fun _ => true) ?_))) ?_) fun _ => et_test (fun H6 e6 Q6 k6 => ?_)) rfl) (fun z => by cases z) fun _ H6 e6 => ?_
    · rw [List.map_map]
      exact el_lcT (fun _ => V.bl true) (i0 e5 rfl) (hy2.tx (tx_of e35)) (by omega) fun b _ H6 _ => ev_is_number (ev_var rfl)
    · simp
    · refine i0 (e5.trans e6) rfl H6 (Ex.refl _) _ fun H7 e7 => ?_
      have e67 := (e35.trans e6).trans e7
      obtain ⟨b, rfl, hb⟩ := id hy2
      refine ⟨b, _, rfl, .inr (SqT.of (e67 b _ hb)), fun l hl => ?_⟩
      refine i0 (((e5.trans e6).trans e7).trans (Ex.new hl)) rfl _ (Ex.refl _) _ fun H8 e8 => ?_
      have e78 := (e67.trans (Ex.new hl)).trans e8
      refine ⟨b, g.1, rfl, e78 b _ hb, fun r hr => ?_⟩
      rw [sorted_same psort]
      refine ⟨_, _, dp_listI (a := l) (p := g.1) ((e8.trans (Ex.new hr)) l _ upd_same), dp_listI (a := r) (p := g.1) upd_same, shaped_listI _, shaped_listI _, ?_⟩
      rw [show PyData.eqv (.list (g.1.map .int)) (.list (g.1.map .int)) = decide (g.1 = g.1) from eqvAll_ints _ _]
      simp only [decide_true, Bool.not_true]
      exact k6 _ (((e7.trans (Ex.new hl)).trans e8).trans (Ex.new hr))
    have e36 := e35.trans e6
    refine ⟨_, rfl, .inl ⟨rfl, _, SqL.of (((e4.trans e5).trans e6) D _ h3)⟩, ?_⟩
    refine i0 (e5.trans e6) rfl H6 (Ex.refl _) _ fun H7 e7 => ?_
    have e37 := e36.trans e7
    obtain ⟨b, rfl, hb⟩ := id hy2
    have z2 := flatten_len gs.parts i
    refine ⟨D, b, _, _, rfl, rfl, ((((e4.trans e5).trans e6).trans e7) D _ h3), e37 b _ hb, sz_of (by simp only [List.length_map]; omega), e37.mut hD0, ?_, _, _, rfl⟩
    rw [upd_same, flatten_take gs.parts (parts_list hgi), List.map_append]
  · rintro σ H3 ⟨e3, h3, u, v, rfl⟩
    rw [each.length, ← List.length_map (f := fun x : List Int × Tr => x.1), gs.list_parts, List.take_length] at h3
    refine ⟨_, rfl, D, _, rfl, SqL.of h3, fun ns p hperm hsort hpn => ?_⟩
    refine ⟨_, rfl, n, rfl, RgOk.of_le (by omega) (by omega) (by omega) (by omega), fun q hqn => ?_⟩
    have en : ns = (List.range n).map fun i => ((i : Nat) : Int) := by
      refine perm_sorted (hperm.trans hp.all) hsort ?_
      rw [List.pairwise_map]
      exact List.pairwise_lt_range.imp fun h => by omega
    have er : rgV 0 (n : Nat) = ((List.range n).map fun i => ((i : Nat) : Int)).map V.int := by
      unfold rgV
      rw [List.map_map, show (((n : Nat) : Int) - 0).toNat = n by omega]
      apply List.map_congr_left
      intro i _
      simp
    rw [er]
    refine ⟨_, _, dp_listI (a := p) (p := ns) (by rw [upd_ne (ne_of_none upd_same hqn)]; exact upd_same), dp_listI (a := q) upd_same, shaped_listI _, shaped_listI _, ?_⟩
    rw [show PyData.eqv (.list (ns.map .int)) (.list (((List.range n).map fun i => ((i : Nat) : Int)).map .int)) = decide (ns = _) from eqvAll_ints _ _, decide_eq_true en]
    exact k _ ((e3.trans (Ex.new hpn)).trans (Ex.new hqn))

/-! ### is_node -/
/-- the module's LEAF -/
def LeafOk (K : PySem.W.Frag) (mg : Str → Option Value) (leaf : Addr) : Prop := mg "LEAF" = some (.ref leaf) ∧ ∀ H : Hp, SqT K H leaf [.str "places"]
theorem dp_leaf {K : PySem.W.Frag} {mg : Str → Option Value} {leaf : Addr} (L : LeafOk K mg leaf) (H : Hp) : Dp K H (.ref leaf) (trD .leaf) := by
  unfold trD
  exact .tup (L.2 H) (.cons (.str _) .nil)
abbrev sIsNode : Stmt := top 46
theorem scIsNode : FnScope ["value", "directions", "many"] ["value", "directions", "many"] (defScope sIsNode) := ⟨rfl, rfl, rfl, by decide +kernel, rfl, by decide +kernel, by decide +kernel⟩
def spIsNode : Sp := fun vs H Q _ => ∃ x d n T, vs = [x, .int (d : Nat), .int (n : Nat)] ∧ TrAt H T x ∧ TrOk d n T ∧ d ≤ 100 ∧ n ≤ 100 ∧ T.ht ≤ 9 ∧ ∀ H', Ex H H' → Q (.bl true) H'
theorem ev_is_node {σ : L2.St} {H : Hp} {ta : TA} {x : V} {d n : Nat} {T : Tr} (h : EvA ta σ H [x, .int (d : Nat), .int (n : Nat)]) (hx : TrAt H T x) (hT : TrOk d n T) (hd : d ≤ 100) (hn : n ≤ 100) (hh : T.ht ≤ 9) : Ev (tCall spIsNode [] E0 ta) σ H (.bl true) := fun H1 e Q q => h H1 e _ fun H2 e2 =>
  ⟨x, d, n, T, rfl, hx.tx (tx_of (e.trans e2)), hT, hd, hn, hh, fun H3 e3 => q H3 (e2.trans e3)⟩
theorem ok_is_node {leaf : Addr} (B : Bt mg) (L : LeafOk K mg leaf) (F : Df K mg "is_node" sIsNode) (h_are_numbers : Ok P w K mg base 2 "are_numbers" ["value", "many"] spAreNumbers) (h_is_parting : Ok P w K mg base 2 "is_parting" ["groups", "many"] spIsParting) : Ok P w K mg base 3 "is_node" ["value", "directions", "many"] spIsNode := by
  refine ok_of F scIsNode (fun vs H Q E h => by obtain ⟨x, d, n, T, rfl, _⟩ := h; rfl) (fun dV _ _ _ _ _ _ us hl e => by subst e; exact match us, hl with | [_, _, _], _ => rfl) fun f cdv A outer s H vs Q E hr h => ?_
  obtain ⟨x, d, n, T, rfl, hx, hT, hd, hn, hh, k⟩ := h
  refine ⟨_, (pss_cons (ps_if (PW.pt (pw_or (pt_not (pt_val (pe_callB call_isi rfl B.isinstance (by decide +kernel) (pa_cons (pv 0) (pa_cons (pe_bltn rfl B.tuple (by decide +kernel) (v := .ty "tuple") rfl) pa_nil))))) (pw_or1 (pt_cmpR (op_eqD hr.units) (pv 0) (pe_tup pa_nil) (nomark _))))) (pss_one (ps_ret pe_bl)) pss_nil)
      (pss_cons (ps_if (pt_cmpR op_eq (pe_ix ix_tup (pv 0) pe_int (fun _ _ => rfl)) pe_str (nomark _)) (pss_one (ps_ret (pe_and (pe_cmpR op_eq (pe_callB call_len_seq rfl B.len PySem.boot_len (pa_cons (pv 0) pa_nil)) pe_int (nomark _)) (pe_and (pe_do h_are_numbers hr rfl (pa_cons (pe_ix ix_tup (pv 0) pe_int (fun _ _ => rfl)) (pa_cons (pv 1) pa_nil))) (pe_one (pe_do h_are_numbers hr rfl (pa_cons (pe_ix ix_tup (pv 0) pe_int (fun _ _ => rfl)) (pa_cons (pv 2) pa_nil)))))))) pss_nil)
      (pss_cons (ps_if (pt_cmpR op_eq (pe_ix ix_tup (pv 0) pe_int (fun _ _ => rfl)) pe_str (nomark _)) (pss_one (ps_ret (pe_and (pe_cmpR op_eq (pe_callB call_len_seq rfl B.len PySem.boot_len (pa_cons (pv 0) pa_nil)) pe_int (nomark _)) (pe_one (pe_do h_is_parting hr rfl (pa_cons (pe_ix ix_tup (pv 0) pe_int (fun _ _ => rfl)) (pa_cons (pv 2) pa_nil))))))) pss_nil)
      (pss_one (ps_ret (pe_cmpR (op_eqD hr.units) (pv 0) (pe_glob rfl L.1 (v := .ref leaf) rfl) (nomark _))))))), ?_⟩
  obtain ⟨xs, hxs, h0⟩ := hx.tup
  have z0 : ∀ H1, Ex H H1 → Ev (tOp (rIxT K) (tVar 0) (tC (.int 0))) (start ["value", "directions", "many"] [x, .int (d : Nat), .int (n : Nat)]) H1 _ := fun H1 e => ev_ixT 0 (ev_var rfl) (hxs.tx (tx_of e)) ev_c rfl h0
  refine q_when (b := false) (et_is (et_or (a := false) (b := false) (et_is (et_not (et_B (ev_isT (ev_var rfl) hxs))) rfl) fun _ => et_test (ev_is (ev_eqU0 (d := trD T) (ev_var rfl) (fun H1 e1 => dp_tr (hx.tx (tx_of e1))) (shaped_tr (by omega))) ?_)) rfl) (fun z => by cases z) fun _ H1 e1 => ?_
  · rw [eqv_nil_tr]
  cases T with
  | leaf =>
    refine q_when (b := false) (et_test (ev_eqS (z0 H1 e1) ev_c)) (fun z => by cases z) fun _ H2 e2 => ?_
    refine q_when (b := false) (et_test (ev_eqS (z0 H2 (e1.trans e2)) ev_c)) (fun z => by cases z) fun _ H3 e3 => ?_
    have e13 := (e1.trans e2).trans e3
    refine s_ret (ev_is (ev_eqD (d := trD .leaf) (f := trD .leaf) (ev_var rfl) ev_c (fun H4 e4 => dp_tr (hx.tx (tx_of (e13.trans e4)))) (fun H4 _ => dp_leaf L H4) (shaped_tr (by omega)) (shaped_tr (by decide))) ?_) fun H4 e4 => k H4 (e13.trans e4)
    rw [eqv_leaf]
  | key row hts t =>
    refine q_when (b := true) (et_test (ev_eqS (z0 H1 e1) ev_c)) (fun _ H2 e2 => ?_) (fun z => by cases z)
    unfold TrAt at hx
    unfold TrOk at hT
    obtain ⟨r, y, u, h1, h2, h3, _⟩ := hx
    obtain ⟨t1, t2, _⟩ := hT
    have e12 := e1.trans e2
    have i1 : ∀ {H3 : Hp}, Ex H2 H3 → Ev (tOp (rIxT K) (tVar 0) (tC (.int 1))) (start ["value", "directions", "many"] [x, .int (d : Nat), .int (n : Nat)]) H3 r := fun e => ev_ixT 1 (ev_var rfl) (h1.tx (tx_of (e12.trans e))) ev_c rfl rfl
    have i2 : ∀ {H3 : Hp}, Ex H2 H3 → Ev (tOp (rIxT K) (tVar 0) (tC (.int 2))) (start ["value", "directions", "many"] [x, .int (d : Nat), .int (n : Nat)]) H3 y := fun e => ev_ixT 2 (ev_var rfl) (h1.tx (tx_of (e12.trans e))) ev_c rfl rfl
    exact s_ret (ev_is (ev_andV (a := true) (b := true) (ev_is (ev_eqI (j := 4) (ev_lenT (ev_var rfl) (h1.tx (tx_of e12))) ev_c) rfl) fun _ => ev_is (ev_andV (a := true) (b := true) (ev_are_numbers (ea2 (i1 (Ex.refl _)) (ev_var rfl)) (h2.tx (tx_of e12)) (by rw [t1]) (by omega)) fun _ => ev_are_numbers (ea2 (i2 (Ex.refl _)) (ev_var rfl)) (h3.tx (tx_of e12)) (by rw [t2]) (by omega)) rfl) rfl) fun H3 e3 => k H3 (e12.trans e3)
  | fork gs =>
    refine q_when (b := false) (et_test (ev_eqS (z0 H1 e1) ev_c)) (fun z => by cases z) fun _ H2 e2 => ?_
    have e12 := e1.trans e2
    refine q_when (b := true) (et_test (ev_is (ev_eqS (z0 H2 e12) ev_c) (by simp))) (fun _ H3 e3 => ?_) (fun z => by cases z)
    unfold TrAt at hx
    unfold TrOk at hT
    have ehh : (Tr.fork gs).ht = gs.ht + 1 := by rw [Tr.ht]
    obtain ⟨g, ys, h1, h2, h3⟩ := hx
    have e13 := e12.trans e3
    exact s_ret (ev_is (ev_andV (a := true) (b := true) (ev_is (ev_eqI (j := 2) (ev_lenT (ev_var rfl) (h1.tx (tx_of e13))) ev_c) rfl) fun _ => ev_is_parting (xs := ys) (ea2 (ev_ixT 1 (ev_var rfl) (h1.tx (tx_of e13)) ev_c rfl rfl) (ev_var rfl)) (h2.tx (tx_of e13)) (h3.tx (tx_of e13)) hT.1 hn (by omega)) rfl) fun H4 e4 => k H4 (e13.trans e4)
end
end Lk


/-! Lookscan: trees walked whole. -/
namespace Lk
open PySem PySem.Spec PyProof.Rows L2 Evl
/-- [e for x in l] over a new list: by values -/
theorem el_lcNR {K : PySem.W.Frag} {σ : L2.St} {H : Hp} {te tl : TE} {j : Nat} {Pz : List V → Hp → Prop} (R : V → Hp → Prop) (hR : ∀ v H H', Tx H H' → R v H → R v H') (hP : ∀ xs H1 H2, Ex H1 H2 → Pz xs H1 → Pz xs H2) (h : EvLs tl σ H Pz) (hz : ∀ xs H1, Pz xs H1 → xs.length ≤ 100000)
    (he : ∀ xs H1, Ex H H1 → Pz xs H1 → ∀ y ∈ xs, EvX te ((wipe σ [j]).set j (some y)) H1 R) : EvLs (tLc (iList K tl) (gName j) tYes te [j]) σ H (fun ys H2 => ∀ y ∈ ys, R y H2) := fun H0 e Q q => h H0 e _ fun D xs H1 hD e1 hx hp => by
  refine ⟨D, rfl, ⟨xs, SqL.of hx⟩, ?_⟩
  refine lc_feeds (fun _ => true) (fun i v H2 => R v H2) (feeds_list (SqL.of hx)) (Nat.lt_of_le_of_lt (hz xs H1 hp) (by decide)) (fun i v H H' t z => hR v H H' t z) ?_ ?_
  · intro i v H2 hi e2 hv Q2 k2
    refine k2 _ H2 (Ex.refl _) wipe1 evB_yes fun _ H3 e3 Q3 k3 => ?_
    exact he xs H3 (((e.trans e1).trans e2).trans e3) (hP xs H1 H3 (e2.trans e3) hp) v (List.mem_of_getElem? hv) H3 (Ex.refl _) _ fun u H4 e4 hu => k3 u H4 e4 hu
  · intro D2 ys H2 hD2 e2 hy each
    rw [filter_yes] at each
    refine q D2 ys H2 (fresh_back e1 hD2) (e1.trans e2) hy ?_
    intro y hm
    have key : ∀ {ys : List V} {is : List Nat}, Paired (fun v (_ : Nat) => R v H2) ys is → ∀ y ∈ ys, R y H2 := by
      intro ys is h
      induction h with
      | nil => intro y hy; cases hy
      | cons a b ih =>
        intro y hy
        rcases List.mem_cons.mp hy with rfl | hy
        · exact a
        · exact ih y hy
    exact key each y hm
section
variable {P : Program} {w : World} {K : PySem.W.Frag} {mg : Str → Option Value} {base : Heap} {leaf : Addr}
/-! ### node_count -/
abbrev sNodeCount : Stmt := top 49
theorem scNodeCount : FnScope ["tree", "one"] ["tree"] (defScope sNodeCount) := ⟨rfl, rfl, rfl, by decide +kernel, rfl, by decide +kernel, by decide +kernel⟩
def spNodeCount (h : Nat) : Sp := fun vs H Q _ => ∃ x T d n, vs = [x] ∧ TrAt H T x ∧ T.ht < h ∧ TrOk d n T ∧ 1 ≤ n ∧ n ≤ 100 ∧ ∀ (m : Int) H', Ex H H' → Q (.int m) H'
theorem all_ints : ∀ {ys : List V}, (∀ y ∈ ys, ∃ i : Int, y = V.int i) → ∃ ns : List Int, ys = ns.map V.int
  | [], _ => ⟨[], rfl⟩
  | y :: ys, h => by
    obtain ⟨i, hi⟩ := h y List.mem_cons_self
    obtain ⟨ns, hns⟩ := all_ints (ys := ys) fun z hz => h z (List.mem_cons_of_mem _ hz)
    exact ⟨i :: ns, by rw [hi, hns]; rfl⟩
theorem ok_node_count (B : Bt mg) (F : Df K mg "node_count" sNodeCount) (h_below : Ok P w K mg base 1 "below" ["node"] spBelow) : ∀ h, Ok P w K mg base (h + 2) "node_count" ["tree"] (spNodeCount h)
  | 0 => (ok_of (k := 0) F scNodeCount (fun vs H Q E h => by obtain ⟨x, T, d, n, rfl, _⟩ := h; rfl) (fun dV _ _ _ _ _ _ us hl e => by subst e; exact match us, hl with | [_], _ => rfl) fun f cdv A outer s H vs Q E hr h => by obtain ⟨x, T, d, n, _, _, h, _⟩ := h; exact absurd h (Nat.not_lt_zero _)).mono (by omega)
  | h + 1 => by
    have h_node_count := ok_node_count B F h_below h
    have h_below := h_below.mono (show 1 ≤ h + 2 by omega)
    refine ok_of F scNodeCount (fun vs H Q E h => by obtain ⟨x, T, d, n, rfl, _⟩ := h; rfl) (fun dV _ _ _ _ _ _ us hl e => by subst e; exact match us, hl with | [_], _ => rfl) fun f cdv A outer s H vs Q E hr hs => ?_
    obtain ⟨x, T, d, n, rfl, hx, hh, hT, hn1, hn, k⟩ := hs
    refine ⟨_, (pss_one (ps_ret (pe_op op_add pe_int (pe_callB (cr_sum rfl) rfl B.sum (by decide +kernel) (pa_cons (pe_lc (own := [("one", 1)]) (g := (gName 1)) (tt := tYes) (te := (tCall (spNodeCount h) [] E0 (tCons (tVar 1) tNil))) rfl scNodeCount.nd (pi_list (pe_do h_below hr rfl (pa_cons (pv 0) pa_nil))) (blkOk_by (own := [("one", 1)]) (N := ["tree", "one"]) (sc := defScope sNodeCount) (by decide +kernel)) (fun _ _ _ _ _ => (pg_name (i := 1) scNodeCount.nd rfl (Or.inl rfl) (Or.inr rfl))) (fun _ _ _ _ _ => pts_nil) (fun _ _ _ _ _ => (pe_do h_node_count hr rfl (pa_cons (pv 1) pa_nil)))) pa_nil))))), ?_⟩
    have hf := hT.few hn1
    have kidb : ∀ {xs : List V} {H1 : Hp} {y : V}, Paired (fun x T => TrAt H1 T x) xs T.kids → y ∈ xs → ∃ t ∈ T.kids, TrAt H1 t y := fun {xs H1 y} hp hy => by
      obtain ⟨i, hi, ei⟩ := List.mem_iff_getElem.mp hy
      obtain ⟨t, ht, hty⟩ := paired_getL hp (i := i) (x := y) (by rw [List.getElem?_eq_getElem hi, ei])
      exact ⟨t, List.mem_of_getElem? ht, hty⟩
    have z : EvLs (tLc (iList K (tCall spBelow [] E0 (tCons (tVar 0) tNil))) (gName 1) tYes (tCall (spNodeCount h) [] E0 (tCons (tVar 1) tNil)) [1]) (start ["tree", "one"] [x]) H (fun ys H2 => ∀ y ∈ ys, ∃ i : Int, y = V.int i) :=
      el_lcNR (Pz := fun xs H2 => Paired (fun x T => TrAt H2 T x) xs T.kids) (fun y _ => ∃ i : Int, y = V.int i) (fun _ _ _ _ h => h) (fun xs H1 H2 e hp => Paired.mapP hp fun _ _ z => z.tx (tx_of e)) (ex_below (ea1 (ev_var rfl)) hx (by omega)) (fun xs H1 hp => by rw [hp.length]; omega) fun xs H1 e1 hp y hy => by
        obtain ⟨t, ht, hty⟩ := kidb hp hy
        intro H2 e2 Q2 q2
        have := Tr.ht_kids t ht
        exact ⟨_, rfl, y, t, d, n, rfl, hty.tx (tx_of e2), by omega, hT.kids t ht, hn1, hn, fun m H3 e3 => q2 _ H3 e3 ⟨m, rfl⟩⟩
    refine z H (Ex.refl _) (fun x H1 => rSum K [x] H1 fun y H2 => (rI0 fun i j => .int (i + j)) (.int 1) y H2 Q) fun D ys H1 hD e1 hy hp => ?_
    obtain ⟨ns, rfl⟩ := all_ints hp
    exact ⟨D, ns, rfl, SqL.of hy, _, _, rfl, rfl, k _ H1 e1⟩

/-! ### is_tree -/
theorem paired_append {α β : Type} {F : α → β → Prop} : ∀ {l l' : List α} {m m' : List β}, Paired F l m → Paired F l' m' → Paired F (l ++ l') (m ++ m')
  | _, _, _, _, .nil, h => h
  | _, _, _, _, .cons a t, h => .cons a (paired_append t h)
theorem flatMap_take (Ts : List Tr) {i : Nat} {T : Tr} (h : Ts[i]? = some T) : (Ts.take (i + 1)).flatMap Tr.kids = (Ts.take i).flatMap Tr.kids ++ T.kids := by
  rw [List.take_add_one, h, List.flatMap_append]
  simp
theorem take_next {α : Type} (l : List α) {i : Nat} {x : α} (h : l[i]? = some x) : l.take (i + 1) = l.take i ++ [x] := by
  rw [List.take_add_one, h]
  rfl
/-- [tree for node in level for tree in below(node)] -/
theorem el_next {K : PySem.W.Frag} {σ : L2.St} {H : Hp} {x : V} {Ts : List Tr} (h3 : σ[3]? = some (some x)) (hl6 : σ.length = 8) (hx : TsAt H x Ts) (hz : ∀ T ∈ Ts, T.kids.length ≤ 1000) (hz2 : (Ts.flatMap Tr.kids).length ≤ 50000) (hz3 : Ts.length ≤ 50000) :
    EvLs (tLc2 (iList K (tVar 3)) (gName 6) tYes (iList K (tCall spBelow [] E0 (tCons (tVar 6) tNil))) (gName 7) tYes (tVar 7) [6, 7] [7]) σ H (fun ys H2 => Paired (fun x T => TrAt H2 T x) ys (Ts.flatMap Tr.kids)) := fun H1 e Q q => by
  obtain ⟨xs, ⟨a, rfl, ha⟩, hp⟩ := hx
  have ha1 := e a _ ha
  have hp1 : Paired (fun x T => TrAt H1 T x) xs Ts := Paired.mapP hp fun _ _ z => z.tx (tx_of e)
  have hlen := hp.length
  refine ⟨_, h3, a, rfl, ⟨xs, SqL.of ha1⟩, fun D hD => ?_⟩
  refine ⟨fun i m H2 => m = xs.length - i ∧ i ≤ xs.length ∧ Ex H1 H2 ∧ ∃ ys, H2 D = some (.lst ys) ∧ Paired (fun x T => TrAt H2 T x) ys ((Ts.take i).flatMap Tr.kids), ⟨xs.length, by simp, Nat.zero_le _, Ex.new hD, [], upd_same, .nil⟩, ?_⟩
  rintro i m H2 ⟨rfl, hi, e2, ys, hy, hpy⟩
  by_cases hlt : i < xs.length
  · refine .inr ⟨⟨xs, xs[i], SqL.of (e2 a _ ha1), by simp [hlt]⟩, fun H3 => i + 1 ≤ xs.length ∧ Ex H1 H3 ∧ ∃ ys, H3 D = some (.lst ys) ∧ Paired (fun x T => TrAt H3 T x) ys ((Ts.take (i + 1)).flatMap Tr.kids), fun H3 ⟨a1, a2, a3⟩ => ⟨xs.length - (i + 1), by omega, rfl, a1, a2, a3⟩, fun v H3 y => ?_⟩
    obtain ⟨e3, hv⟩ := y
    subst e3
    have hv := hv xs (SqL.of (e2 a _ ha1))
    obtain ⟨T, hTi, hvT⟩ := paired_getL hp1 hv
    have hTm : T ∈ Ts := List.mem_of_getElem? hTi
    have hst : ((wipe σ [6, 7]).set 6 (some v))[6]? = some (some v) := by
      rw [List.getElem?_set_self]
      rw [wipe_length]
      omega
    have hw : wipe ((wipe σ [6, 7]).set 6 (some v)) [6, 7] = wipe σ [6, 7] := by
      show ((((σ.set 7 none).set 6 none).set 6 (some v)).set 7 none).set 6 none = (σ.set 7 none).set 6 none
      rw [List.set_set, List.set_comm _ _ (by decide : (6 : Nat) ≠ 7), List.set_set, List.set_set]
    refine ⟨hw, ?_⟩
    unfold tYes
    dsimp only
    rw [if_pos rfl]
    refine (ex_below (σ := (wipe σ [6, 7]).set 6 (some v)) (ta := tCons (tVar 6) tNil) (ea1 (ev_var hst)) (hvT.tx (tx_of e2)) (hz T hTm)) H3 (Ex.refl _) _ fun p zs H4 hpn e4 hpz hk => ?_
    have pD : p ≠ D := fun z => by rw [z, hy] at hpn; cases hpn
    refine ⟨p, rfl, ⟨zs, SqL.of hpz⟩, ?_⟩
    have hkl := hk.length
    refine ⟨fun j k H5 => k = zs.length - j ∧ j ≤ zs.length ∧ Ex H1 H5 ∧ H5 p = some (.lst zs) ∧ Paired (fun x T => TrAt H5 T x) zs T.kids ∧ ∃ ys, H5 D = some (.lst ys) ∧ Paired (fun x T => TrAt H5 T x) ys ((Ts.take i).flatMap Tr.kids ++ T.kids.take j), ⟨zs.length, by simp, Nat.zero_le _, e2.trans e4, hpz, hk, ys, e4 D _ hy, by rw [List.take_zero, List.append_nil]; exact Paired.mapP hpy fun _ _ z => z.tx (tx_of e4)⟩, ?_⟩
    rintro j k H5 ⟨rfl, hj, e5, hp5, hk5, ys5, hy5, hpy5⟩
    by_cases hjl : j < zs.length
    · refine .inr ⟨⟨zs, zs[j], SqL.of hp5, by simp [hjl]⟩, fun H6 => j + 1 ≤ zs.length ∧ Ex H1 H6 ∧ H6 p = some (.lst zs) ∧ Paired (fun x T => TrAt H6 T x) zs T.kids ∧ ∃ ys, H6 D = some (.lst ys) ∧ Paired (fun x T => TrAt H6 T x) ys ((Ts.take i).flatMap Tr.kids ++ T.kids.take (j + 1)), fun H6 ⟨b1, b2, b3, b4, b5⟩ => ⟨zs.length - (j + 1), by omega, rfl, b1, b2, b3, b4, b5⟩, fun u H6 y => ?_⟩
      obtain ⟨e6, hu⟩ := y
      subst e6
      have hu := hu zs (SqL.of hp5)
      obtain ⟨t, htj, hut⟩ := paired_getL hk5 hu
      have hl7 : ((wipe σ [6, 7]).set 6 (some v)).length = 8 := by rw [List.length_set, wipe_length, hl6]
      refine ⟨?_, ?_⟩
      · show ((((wipe σ [6, 7]).set 6 (some v)).set 7 none).set 7 (some u)).set 7 none = ((wipe σ [6, 7]).set 6 (some v)).set 7 none
        rw [List.set_set, List.set_set]
      · refine ⟨u, ?_, ys5, hy5, ?_, hjl, ?_, ?_, ?_, ys5 ++ [u], upd_same, ?_⟩
        · show ((((wipe σ [6, 7]).set 6 (some v)).set 7 none).set 7 (some u))[7]? = _
          rw [List.getElem?_set_self]
          rw [List.length_set, hl7]
          decide
        · have := hpy5.length
          have h1 : ((Ts.take i).flatMap Tr.kids ++ T.kids.take j).length ≤ (Ts.flatMap Tr.kids).length := by
            have e1 : Ts.flatMap Tr.kids = (Ts.take (i + 1)).flatMap Tr.kids ++ (Ts.drop (i + 1)).flatMap Tr.kids := by rw [← List.flatMap_append, List.take_append_drop]
            rw [e1, flatMap_take Ts hTi]
            simp only [List.length_append, List.length_take]
            omega
          exact sz_lt (by omega)
        · exact e5.mut hD
        · rw [upd_ne pD]; exact hp5
        · exact Paired.mapP hk5 fun _ _ z => z.tx (Tx.lst hy5)
        · rw [take_next _ htj, ← List.append_assoc]
          exact paired_append (Paired.mapP hpy5 fun _ _ z => z.tx (Tx.lst hy5)) (.cons (hut.tx (Tx.lst hy5)) .nil)
    · have ej : j = zs.length := by omega
      subst ej
      refine .inl ⟨⟨zs, SqL.of hp5, Nat.le_refl _⟩, hlt, e5, ys5, hy5, ?_⟩
      rw [hkl, List.take_length] at hpy5
      rw [flatMap_take Ts hTi]
      exact hpy5
  · have ei : i = xs.length := by omega
    subst ei
    rw [hlen, List.take_length] at hpy
    exact .inl ⟨⟨xs, SqL.of (e2 a _ ha1), Nat.le_refl _⟩, q D ys H2 hD e2 hy hpy⟩
end
end Lk


/-! Lookscan: is_tree, sign_of, path_of. -/
namespace Lk
open PySem PySem.Spec PyProof.Rows L2 Evl
section
variable {K : PySem.W.Frag} {σ : L2.St} {H : Hp} {te : TE} {D : Ends} {tz : TS}
theorem q_asgLs {Pz : List V → Hp → Prop} {i : Nat} (h : EvLs te σ H Pz) (k : ∀ p ys H1, H p = none → Ex H H1 → H1 p = some (.lst ys) → Pz ys H1 → tz D (σ.set i (some (.ref p))) H1) : tSeq (tAsg te (gName i)) tz D σ H := h H (Ex.refl H) _ k
theorem q_asgX {Pz : V → Hp → Prop} {i : Nat} (h : EvX te σ H Pz) (k : ∀ v H1, Ex H H1 → Pz v H1 → tz D (σ.set i (some v)) H1) : tSeq (tAsg te (gName i)) tz D σ H := h H (Ex.refl H) _ k
theorem s_asgX {Pz : V → Hp → Prop} {i : Nat} (h : EvX te σ H Pz) (k : ∀ v H1, Ex H H1 → Pz v H1 → D.nx (σ.set i (some v)) H1) : tAsg te (gName i) D σ H := h H (Ex.refl H) _ k
end
/-- the nodes at depth i -/
def level (T : Tr) : Nat → List Tr
  | 0 => [T]
  | i + 1 => (level T i).flatMap Tr.kids
theorem level_ok {d n : Nat} {T : Tr} (h : TrOk d n T) (hn : 1 ≤ n) : ∀ i, (∀ t ∈ level T i, TrOk d n t ∧ t.ht + i ≤ T.ht) ∧ (level T i).length ≤ n ^ i
  | 0 => ⟨fun t ht => by rw [List.mem_singleton.mp ht]; exact ⟨h, Nat.le_refl _⟩, Nat.le_refl _⟩
  | i + 1 => by
    obtain ⟨h1, h2⟩ := level_ok h hn i
    refine ⟨fun t ht => ?_, ?_⟩
    · obtain ⟨u, hu, htu⟩ := List.mem_flatMap.mp ht
      obtain ⟨a, b⟩ := h1 u hu
      have := Tr.ht_kids t htu
      exact ⟨a.kids t htu, by omega⟩
    · have : ∀ Ts : List Tr, (∀ t ∈ Ts, TrOk d n t) → (Ts.flatMap Tr.kids).length ≤ n * Ts.length := fun Ts => by
        induction Ts with
        | nil => intro _; exact Nat.zero_le _
        | cons t Ts ih =>
          intro ht
          have e1 := ih fun u hu => ht u (List.mem_cons_of_mem _ hu)
          have e2 := (ht t List.mem_cons_self).few hn
          rw [List.flatMap_cons, List.length_append, List.length_cons, Nat.mul_succ]
          omega
      have e := this (level T i) fun t ht => (h1 t ht).1
      show ((level T i).flatMap Tr.kids).length ≤ n ^ (i + 1)
      rw [Nat.pow_succ, Nat.mul_comm]
      exact Nat.le_trans e (Nat.mul_le_mul_left n h2)
theorem kids_leaf {T : Tr} (h : T.ht = 0) : T.kids = [] := by
  cases T with
  | leaf => rfl
  | key row hts t => rw [Tr.ht] at h; omega
  | fork gs => rw [Tr.ht] at h; omega
theorem eqv_list0 (ds : List PyData) : PyData.eqv (.list ds) (.list []) = ds.isEmpty := by
  cases ds <;> rfl
section
variable {P : Program} {w : World} {K : PySem.W.Frag} {mg : Str → Option Value} {base : Heap} {leaf : Addr}
abbrev sIsTree : Stmt := top 48
theorem scIsTree : FnScope ["value", "directions", "many", "level", "nodes", "depth", "node", "tree"] ["value", "directions", "many"] (defScope sIsTree) := ⟨rfl, rfl, rfl, by decide +kernel, rfl, by decide +kernel, by decide +kernel⟩
def spIsTree : Sp := fun vs H Q _ => ∃ x T d n, vs = [x, .int (d : Nat), .int (n : Nat)] ∧ TrAt H T x ∧ TrOk d n T ∧ T.ht ≤ 2 ∧ d ≤ 100 ∧ 1 ≤ n ∧ n ≤ 12 ∧ ∀ H', Ex H H' → Q (.bl true) H'
theorem ok_is_tree (B : Bt mg) (C : Cs mg) (F : Df K mg "is_tree" sIsTree) (h_is_node : Ok P w K mg base 3 "is_node" ["value", "directions", "many"] spIsNode) (h_below : Ok P w K mg base 3 "below" ["node"] spBelow) : Ok P w K mg base 4 "is_tree" ["value", "directions", "many"] spIsTree := by
  refine ok_of F scIsTree (fun vs H Q E h => by obtain ⟨x, T, d, n, rfl, _⟩ := h; rfl) (fun dV _ _ _ _ _ _ us hl e => by subst e; exact match us, hl with | [_, _, _], _ => rfl) fun f cdv A outer s H vs Q E hr h => ?_
  obtain ⟨x, T, d, n, rfl, hx, hT, hh, hd, hn1, hn, k⟩ := h
  refine ⟨_, (pss_cons (ps_par (i := 3) (j := 4) rfl scIsTree.nd rfl rfl (by decide) rfl rfl (pa_cons (pe_lst (pa_cons (pv 0) pa_nil)) (pa_cons pe_int pa_nil)) rfl)
      (pss_cons (ps_for PassesOwn.never rfl (pi_range1 rfl B.range (pa_cons (pe_cint rfl C.maxDepth) pa_nil)) (pg_name (i := 5) scIsTree.nd rfl (Or.inl rfl))
      (pss_cons (ps_if (pt_not (pt_val (pe_callB (cr_all rfl) rfl B.all (by decide +kernel) (pa_cons (pe_lc (own := [("node", 6)]) (g := (gName 6)) (tt := tYes) (te := (tCall spIsNode [] E0 (tCons (tVar 6) (tCons (tVar 1) (tCons (tVar 2) tNil))))) rfl scIsTree.nd (pi_list (pv 3)) (blkOk_by (own := [("node", 6)]) (N := ["value", "directions", "many", "level", "nodes", "depth", "node", "tree"]) (sc := defScope sIsTree) (by decide +kernel)) (fun _ _ _ _ _ => (pg_name (i := 6) scIsTree.nd rfl (Or.inl rfl) (Or.inr rfl))) (fun _ _ _ _ _ => pts_nil) (fun _ _ _ _ _ => (pe_do h_is_node hr rfl (pa_cons (pv 6) (pa_cons (pv 1) (pa_cons (pv 2) pa_nil)))))) pa_nil)))) (pss_one (ps_ret pe_bl)) pss_nil)
      (pss_cons (ps_aug (i := 4) scIsTree.nd rfl (Or.inl rfl) (pe_callB call_len_seq rfl B.len PySem.boot_len (pa_cons (pv 3) pa_nil)) ip_add)
      (pss_cons (ps_setLc2 (i := 3) (own := [("node", 6), ("tree", 7)]) (vs1 := [7]) (g := (gName 6)) (tt := tYes) (wi1 := (iList K (tCall spBelow [] E0 (tCons (tVar 6) tNil)))) (g1 := (gName 7)) (tt1 := tYes) (te := (tVar 7)) rfl scIsTree.nd rfl rfl (sw_true rfl rfl rfl (by decide +kernel)) (pi_list (pv 3)) (blkOk_by (own := [("node", 6), ("tree", 7)]) (N := ["value", "directions", "many", "level", "nodes", "depth", "node", "tree"]) (sc := defScope sIsTree) (by decide +kernel)) (by decide) (fun _ _ _ _ _ => (pg_name (i := 6) scIsTree.nd rfl (Or.inl rfl) (Or.inr rfl))) (fun _ _ _ _ _ => pts_nil) (fun _ _ _ _ _ => (pi_list (pe_do h_below hr rfl (pa_cons (pv 6) pa_nil)))) (fun _ _ _ _ _ => (pg_name (i := 7) scIsTree.nd rfl (Or.inl rfl) (Or.inr rfl))) (fun _ _ _ _ _ => pts_nil) (fun _ _ _ _ _ => (pv 7)))
      (pss_cons (ps_if (pt_cmpR op_gt (pv 4) (pe_cint rfl C.maxNodes) (nomark _)) (pss_one (ps_ret pe_bl)) pss_nil)
      (pss_one (ps_if (pt_cmpR (op_eqD hr.units) (pv 3) (pe_lst pa_nil) (nomark _)) (pss_one (ps_ret pe_bl)) pss_nil)))))))
      (pss_one (ps_ret pe_bl)))), ?_⟩
  have lv := level_ok hT hn1
  have l0 : (level T 0).length ≤ 1 := (lv 0).2
  have l1 : (level T 1).length ≤ 12 := Nat.le_trans (lv 1).2 (by simpa using hn)
  have l2 : (level T 2).length ≤ 144 := Nat.le_trans (lv 2).2 (Nat.le_trans (Nat.pow_le_pow_left hn 2) (by decide))
  have l3 : level T 3 = [] := by
    show (level T 2).flatMap Tr.kids = []
    rw [List.flatMap_eq_nil_iff]
    intro t ht
    have := ((lv 2).1 t ht).2
    exact kids_leaf (by omega)
  have lb : ∀ i, i ≤ 2 → (level T i).length ≤ 144 := fun i hi => by
    match i, hi with
    | 0, _ => omega
    | 1, _ => omega
    | 2, _ => exact l2
  refine ⟨_, rfl, sz_of (by simp), fun l hl => ⟨_, _, rfl, ?_⟩⟩
  refine ⟨20, rfl, by omega, by omega, ?_⟩
  refine for_feeds (H0 := H) (feeds_range 0 20) (fun i σ H' => Ex H H' ∧ i ≤ 2 ∧ ∃ (v : V) (c : Int) (u1 u2 u3 : Option V), σ = [some x, some (.int (d : Nat)), some (.int (n : Nat)), some v, some (.int c), u1, u2, u3] ∧ c ≤ 13 * (i : Nat) ∧ TsAt H' v (level T i)) ⟨Ex.new hl, by omega, _, 0, _, _, _, rfl, by omega, ⟨[x], ⟨l, rfl, upd_same⟩, .cons (hx.tx (tx_of (Ex.new hl))) .nil⟩⟩ (fun i σ H' h => h.1) ?_ ?_
  · rintro i v σ H1 H2 hi ⟨e1, hi2, lv0, c, u1, u2, u3, rfl, hc, hlv⟩ e2 rfl
    have e12 := e1.trans e2
    have hlv2 := hlv.ex e2
    obtain ⟨xs, hxs, hps⟩ := id hlv2
    have hxl : xs.length ≤ 144 := by rw [hps.length]; exact lb i hi2
    refine q_when (b := false) (et_is (et_not (et_B (ev_all (bs := xs.map fun _ => true) (fun H3 e3 Q3 k3 => ?_)))) ?_) (fun z => by cases z) fun _ H3 e3 => ?_
    · obtain ⟨a, rfl, ha⟩ := id hxs
      have ha3 := e3 a _ ha
      refine ⟨_, rfl, a, rfl, ⟨xs, SqL.of ha3⟩, ?_⟩
      refine lc_feeds (fun _ => true) (fun i v _ => v = .bl true) (feeds_list (SqL.of ha3)) (Nat.lt_of_le_of_lt (show xs.length ≤ 1000 by omega) (by decide)) (fun _ _ _ _ _ h => h) ?_ ?_
      · intro j y H4 hj e4 hy Q4 k4
        obtain ⟨t, ht, hty⟩ := paired_getL hps hy
        obtain ⟨t1, t2⟩ := (lv i).1 t (List.mem_of_getElem? ht)
        refine k4 _ H4 (Ex.refl _) wipe1 evB_yes fun _ H5 e5 => ?_
        have z := ev_is_node (σ := (wipe [some x, some (.int (d : Nat)), some (.int (n : Nat)), some (.ref a), some (.int c), some (V.int (0 + (i : Nat))), u2, u3] [6]).set 6 (some y)) (H := H5) (ta := tCons (tVar 6) (tCons (tVar 1) (tCons (tVar 2) tNil))) (x := y) (d := d) (n := n) (T := t) (fun H6 e6 Q6 q6 => ⟨_, rfl, _, rfl, _, rfl, q6 H6 (Ex.refl _)⟩) (hty.tx (tx_of ((e3.trans e4).trans e5))) t1 hd (by omega) (by omega)
        exact evP_of z
      · intro D ys H4 hD e4 hy each
        rw [filter_yes] at each
        have ey := each_eq (v := fun _ => V.bl true) (fun i y h => h) each
        have eL : (xs.map fun _ => true).map V.bl = (List.range xs.length).map fun _ => V.bl true := by
          rw [List.map_map]
          apply List.ext_getElem <;> simp
        exact k3 D H4 hD e4 (by rw [hy, ey, eL])
    · simp
    refine q_aug (f := fun i j => i + j) (a := c) (b := (xs.length : Nat)) rfl (fun H4 e4 Q4 k4 => ?_) fun H4 e4 => ?_
    · obtain ⟨a, rfl, ha⟩ := id hxs
      exact ⟨_, rfl, a, xs, rfl, .inl (SqL.of ((e3.trans e4) a _ ha)), k4 H4 (Ex.refl _)⟩
    have e34 := e3.trans e4
    have hnx : (level T (i + 1)).length ≤ 144 := by
      match i, hi2 with
      | 0, _ => exact Nat.le_trans l1 (by decide)
      | 1, _ => exact l2
      | 2, _ => rw [l3]; decide
    have hxs12 : i ≤ 1 → xs.length ≤ 12 := fun h => by
      rw [hps.length]
      match i, h with
      | 0, _ => exact Nat.le_trans l0 (by decide)
      | 1, _ => exact l1
    refine q_asgLs (el_next (K := K) (σ := [some x, some (.int (d : Nat)), some (.int (n : Nat)), some lv0, some (.int (c + (xs.length : Nat))), some (V.int (0 + (i : Nat))), u2, u3]) (H := H4) (x := lv0) (Ts := level T i) rfl rfl (hlv2.ex e34) (fun t ht => Nat.le_trans (((lv i).1 t ht).1.few hn1) (by omega)) (show (level T (i + 1)).length ≤ 50000 by omega) (by have := lb i hi2; omega)) fun D ys H5 hD e5 hy hpy => ?_
    have e15 := (e12.trans e34).trans e5
    refine q_when (b := false) (et_test (ev_is (ev_i0 (f := fun i j => V.bl (decide (j < i))) (i := c + (xs.length : Nat)) (j := 200) (ev_var rfl) ev_c) ?_)) (fun z => by cases z) fun _ H6 e6 => ?_
    · rw [decide_eq_false (by omega)]
    have e56 := e5.trans e6
    have hpy6 : Paired (fun x T => TrAt H6 T x) ys (level T (i + 1)) := Paired.mapP hpy fun _ _ z => z.tx (tx_of e6)
    refine s_if (b := ((level T (i + 1)).map trD).isEmpty) (et_test (ev_is (ev_eqL0 (d := .list ((level T (i + 1)).map trD)) (ev_var rfl) (fun H7 e7 => .lst (SqL.of ((e6.trans e7) D _ hy)) (dpAll_trs (Paired.mapP hpy6 fun _ _ z => z.tx (tx_of e7)))) (shaped_trs _ fun t ht => by have := ((lv (i + 1)).1 t ht).2; omega)) ?_)) (fun hb H7 e7 => ?_) (fun hb H7 e7 => ?_)
    · rw [eqv_list0]
    · exact k H7 ((e15.trans e6).trans e7)
    · have h2 : i ≠ 2 := fun h2 => by
        subst h2
        rw [l3] at hb
        cases hb
      have h12 := hxs12 (by omega)
      exact ⟨(e15.trans e6).trans e7, by omega, _, c + (xs.length : Nat), _, _, _, rfl, by omega, ⟨ys, ⟨D, rfl, (e6.trans e7) D _ hy⟩, Paired.mapP hpy6 fun _ _ z => z.tx (tx_of e7)⟩⟩
  · rintro σ H1 ⟨e1, hi, _⟩
    omega
end
end Lk


/-! Lookscan: path_of, sign_of. -/
namespace Lk
open PySem PySem.Spec PyProof.Rows L2 Evl
mutual
/-- the path of place p of class c, without the place -/
def pathT (p : List Int) (c : Int) : Tr → List Int
  | .leaf => []
  | .key row hts t => (dotP row p + hts.getD c.toNat 0) :: pathT p c t
  | .fork gs => pathG p c 0 gs
def pathG (p : List Int) (c : Int) (k : Nat) : Gs → List Int
  | .nil => []
  | .cons part t gs => if c ∈ part then (k : Int) :: pathT p c t else pathG p c (k + 1) gs
end
def treeAt (c : Int) : Gs → Tr
  | .nil => .leaf
  | .cons part t gs => if c ∈ part then t else treeAt c gs
theorem pathG_eq (p : List Int) (c : Int) : ∀ (gs : Gs) (k : Nat), c ∈ gs.parts.flatten → pathG p c k gs = ((k + grAt c gs.parts : Nat) : Int) :: pathT p c (treeAt c gs)
  | .nil, k, h => by simp [Gs.parts] at h
  | .cons part t gs, k, h => by
    have e : (Gs.cons part t gs).parts = part :: gs.parts := rfl
    rw [e]
    unfold pathG treeAt grAt
    by_cases hc : c ∈ part
    · rw [if_pos hc, if_pos hc, if_pos hc]; rfl
    · rw [if_neg hc, if_neg hc, if_neg hc]
      have h2 : c ∈ gs.parts.flatten := by
        rw [e, List.flatten_cons, List.mem_append] at h
        exact h.resolve_left hc
      rw [pathG_eq p c gs (k + 1) h2, show k + 1 + grAt c gs.parts = k + (grAt c gs.parts + 1) by omega]
theorem list_at (c : Int) : ∀ (gs : Gs), c ∈ gs.parts.flatten → ∃ part, gs.list[grAt c gs.parts]? = some (part, treeAt c gs)
  | .nil, h => by simp [Gs.parts] at h
  | .cons part t gs, h => by
    have e : (Gs.cons part t gs).parts = part :: gs.parts := rfl
    have e2 : (Gs.cons part t gs).list = (part, t) :: gs.list := rfl
    rw [e, e2]
    unfold grAt treeAt
    by_cases hc : c ∈ part
    · rw [if_pos hc, if_pos hc]; exact ⟨part, rfl⟩
    · rw [if_neg hc, if_neg hc]
      have h2 : c ∈ gs.parts.flatten := by
        rw [e, List.flatten_cons, List.mem_append] at h
        exact h.resolve_left hc
      obtain ⟨q, hq⟩ := list_at c gs h2
      exact ⟨q, by rw [List.getElem?_cons_succ]; exact hq⟩
theorem treeAt_mem {c : Int} {gs : Gs} (h : c ∈ gs.parts.flatten) : treeAt c gs ∈ gs.trees := by
  obtain ⟨q, hq⟩ := list_at c gs h
  rw [← gs.list_trees]
  exact List.mem_map.mpr ⟨_, List.mem_of_getElem? hq, rfl⟩
theorem classAt_bd : ∀ (p ds : List Int) (f m : Int), p.length = ds.length → (∀ d ∈ ds, 0 < d) → 0 ≤ f → f < m → 0 ≤ classAt p ds f ∧ classAt p ds f < ds.foldl (fun a b => a * b) m
  | [], [], f, m, _, _, h0, h1 => ⟨h0, h1⟩
  | [], _ :: _, _, _, h, _, _, _ => by simp at h
  | _ :: _, [], _, _, h, _, _, _ => by simp at h
  | o :: p, d :: ds, f, m, h, hd, h0, h1 => by
    have hd0 : 0 < d := hd d List.mem_cons_self
    have r0 := Int.emod_nonneg o (Int.ne_of_gt hd0)
    have r1 := Int.emod_lt_of_pos o hd0
    have a0 : 0 ≤ f * d := Int.mul_nonneg h0 (Int.le_of_lt hd0)
    have a1 : (f + 1) * d ≤ m * d := Int.mul_le_mul_of_nonneg_right (by omega) (Int.le_of_lt hd0)
    rw [Int.add_mul, Int.one_mul] at a1
    exact classAt_bd p ds (f * d + o % d) (m * d) (by simpa using h) (fun e he => hd e (List.mem_cons_of_mem _ he)) (by omega) (by omega)
theorem class_mem {n : Nat} {c : Int} {ps : List (List Int)} (h : PartOk n ps) (h0 : 0 ≤ c) (h1 : c < n) : c ∈ ps.flatten := by
  refine (h.all.mem_iff).mpr ?_
  rw [List.mem_map]
  exact ⟨c.toNat, List.mem_range.mpr (by omega), by omega⟩
/-- what a tree, its divisors and a place must be -/
structure PlaceOk (ds p : List Int) : Prop where
  len : p.length = ds.length
  sm : ∀ b ∈ p, Sm b
section
variable {P : Program} {w : World} {K : PySem.W.Frag} {mg : Str → Option Value} {base : Heap} {leaf : Addr}
abbrev sPathOf : Stmt := top 53
theorem scPathOf : FnScope ["tree", "divisors", "place", "found", "at", "group"] ["tree", "divisors", "place"] (defScope sPathOf) := ⟨rfl, rfl, rfl, by decide +kernel, rfl, by decide +kernel, by decide +kernel⟩
def pathOf (T : Tr) (ds p : List Int) : List Int := pathT p (classAt p ds 0) T ++ p
def spPathOf : Sp := fun vs H Q _ => ∃ x y z T ds p n, vs = [x, y, z] ∧ TrAt H T x ∧ Pl H y ds ∧ Pl H z p ∧ DivOk ds ∧ prodP ds = (n : Nat) ∧ TrOk ds.length n T ∧ T.ht ≤ 9 ∧ PlaceOk ds p ∧ ∀ v H', Ex H H' → Pl H' v (pathOf T ds p) → Q v H'
theorem ok_path_of (B : Bt mg) (L : LeafOk K mg leaf) (F : Df K mg "path_of" sPathOf) (h_class_at : Ok P w K mg base 1 "class_at" ["divisors", "place"] spClassAt) (h_times : Ok P w K mg base 1 "times" ["one", "other"] spTimes) (h_group_at : Ok P w K mg base 1 "group_at" ["groups", "number"] spGroupAt) : Ok P w K mg base 2 "path_of" ["tree", "divisors", "place"] spPathOf := by
  refine ok_of F scPathOf (fun vs H Q E h => by obtain ⟨x, y, z, T, ds, p, n, rfl, _⟩ := h; rfl) (fun dV _ _ _ _ _ _ us hl e => by subst e; exact match us, hl with | [_, _, _], _ => rfl) fun f cdv A outer s H vs Q E hr h => ?_
  obtain ⟨x, y, z, T, ds, p, n, rfl, hx, hy, hz, hd, hn, hT, hh, hp, k⟩ := h
  refine ⟨_, (pss_cons (ps_par (i := 3) (j := 4) rfl scPathOf.nd rfl rfl (by decide) rfl rfl (pa_cons (pe_lst pa_nil) (pa_cons (pe_do h_class_at hr rfl (pa_cons (pv 1) (pa_cons (pv 2) pa_nil))) pa_nil)) rfl)
      (pss_cons (ps_while PassesOwn.never (pt_cmpR (op_neD hr.units) (pv 0) (pe_glob rfl L.1 (v := .ref leaf) rfl) (nomark _)) (pss_one (ps_if (pt_cmpR op_eq (pe_ix ix_tup (pv 0) pe_int (fun _ _ => rfl)) pe_str (nomark _)) (pss_cons (ps_expr (pe_bm PySem.F.plainAttrs_list PySem.F.slot_list_append PySem.F.type_list_append mt_append (pv 3) (pa_cons (pe_op op_add (pe_do h_times hr rfl (pa_cons (pe_ix ix_tup (pv 0) pe_int (fun _ _ => rfl)) (pa_cons (pv 2) pa_nil))) (pe_ix ix_tup (pe_ix ix_tup (pv 0) pe_int (fun _ _ => rfl)) (pv 4) (fun _ _ => rfl))) pa_nil)))
      (pss_one (ps_set (i := 0) scPathOf.nd rfl (Or.inl rfl) (pe_ix ix_tup (pv 0) pe_int (fun _ _ => rfl))))) (pss_cons (ps_set (i := 5) scPathOf.nd rfl (Or.inl rfl) (pe_do h_group_at hr rfl (pa_cons (pe_ix ix_tup (pv 0) pe_int (fun _ _ => rfl)) (pa_cons (pv 4) pa_nil))))
      (pss_cons (ps_expr (pe_bm PySem.F.plainAttrs_list PySem.F.slot_list_append PySem.F.type_list_append mt_append (pv 3) (pa_cons (pv 5) pa_nil)))
      (pss_one (ps_set (i := 0) scPathOf.nd rfl (Or.inl rfl) (pe_ix ix_tup (pe_ix ix_tup (pe_ix ix_tup (pv 0) pe_int (fun _ _ => rfl)) (pv 5) (fun _ _ => rfl)) pe_int (fun _ _ => rfl)))))))))
      (pss_one (ps_ret (pe_tup (StX.pa_star (pv 3) (StX.pa_star (pv 2) pa_nil))))))), ?_⟩
  have d3 := hd.three
  have pl := hp.len
  obtain ⟨c0, c1⟩ := classAt_bd p ds 0 1 hp.len (fun d h => by have := hd.pos d h; omega) (by omega) (by omega)
  have c1 : classAt p ds 0 < prodP ds := c1
  generalize hc : classAt p ds 0 = c at c0 c1
  refine ⟨by decide, fun D hD => ?_⟩
  refine (ev_class_at (σ := start ["tree", "divisors", "place", "found", "at", "group"] [x, y, z]) (H := H) (ta := tCons (tVar 1) (tCons (tVar 2) tNil)) (ea2 (ev_var rfl) (ev_var rfl)) hy hz hp.len (by omega) hd.pos) _ (Ex.new hD) _ fun H1 e1 => ⟨_, _, rfl, ?_⟩
  rw [hc]
  have e01 : Ex H H1 := (Ex.new hD).trans e1
  refine q_while (fun m σ H' => ∃ T' v acc u, σ = [some v, some y, some z, some (.ref D), some (.int c), u] ∧ Ex H H' ∧ H' D = some (.lst ((acc : List Int).map V.int)) ∧ TrAt H' T' v ∧ TrOk ds.length n T' ∧ T'.ht = m ∧ acc.length + T'.ht ≤ 9 ∧ acc ++ pathT p c T' = pathT p c T) T.ht ⟨T, x, [], none, rfl, e01, e1 D _ upd_same, hx.tx (tx_of e01), hT, rfl, by simpa using hh, rfl⟩ ?_
  rintro m σ H2 ⟨T', v, acc, u, rfl, e2, hD2, hv, hT', rfl, hb, hacc⟩
  have key : EvT (tTest (tOp (rNeD K) (tVar 0) (tC (.ref leaf)))) [some v, some y, some z, some (.ref D), some (.int c), u] H2 (!PyData.eqv (trD T') (trD .leaf)) := et_test (ev_neD (ev_var rfl) ev_c (fun H3 e3 => dp_tr (hv.tx (tx_of e3))) (fun H3 _ => dp_leaf L H3) (shaped_tr (by omega)) (shaped_tr (by decide)))
  rw [eqv_leaf] at key
  refine ⟨_, key, fun hbt H3 e3 => ?_, fun hbf H3 e3 => ?_⟩
  · obtain ⟨ys, hys, h0⟩ := hv.tup
    have e23 := e2.trans e3
    refine ⟨fun σ' H' => ∃ T2 v acc u, σ' = [some v, some y, some z, some (.ref D), some (.int c), u] ∧ Ex H H' ∧ H' D = some (.lst ((acc : List Int).map V.int)) ∧ TrAt H' T2 v ∧ TrOk ds.length n T2 ∧ T2.ht < T'.ht ∧ acc.length + T2.ht ≤ 9 ∧ acc ++ pathT p c T2 = pathT p c T, fun σ4 H4 ⟨T2, v, acc, u, a1, a2, a3, a4, a5, a6, a7, a8⟩ => ⟨T2.ht, a6, T2, v, acc, u, a1, a2, a3, a4, a5, rfl, a7, a8⟩, ?_⟩
    have i0 : ∀ {H4 : Hp}, Ex H2 H4 → Ev (tOp (rIxT K) (tVar 0) (tC (.int 0))) [some v, some y, some z, some (.ref D), some (.int c), u] H4 _ := fun e => ev_ixT 0 (ev_var rfl) (hys.tx (tx_of e)) ev_c rfl h0
    cases T' with
    | leaf => cases hbt
    | key row hts t =>
      unfold TrAt at hv
      unfold TrOk at hT'
      rw [Tr.ht] at hb
      obtain ⟨r, g, t2, h1, h2, h3, h4⟩ := hv
      obtain ⟨o1, o2, o3⟩ := hT'
      refine s_if (b := true) (et_test (ev_is (ev_eqS (i0 e3) ev_c) (by simp))) (fun _ H4 e4 => ?_) (fun z => by cases z)
      have e24 := e3.trans e4
      have hi : ∀ {H5 : Hp} (j : Nat) (i : Int) (q : V), Ex H2 H5 → i = (j : Nat) → [V.str "key", r, g, t2][j]? = some q → Ev (tOp (rIxT K) (tVar 0) (tC (.int i))) [some v, some y, some z, some (.ref D), some (.int c), u] H5 q := fun j i q e hij hq => ev_ixT j (ev_var rfl) (h1.tx (tx_of e)) ev_c hij hq
      have hcn : c.toNat < hts.length := by rw [o2]; omega
      refine q_app (l := D) (xs := acc.map V.int) (v := .int (dotP row p + hts.getD c.toNat 0)) (e24 D _ hD2) (ev_var rfl) ?_ (by simp only [List.length_map]; omega) fun H5 e5 => ?_
      · refine ev_i0 (f := fun i j => V.int (i + j)) (ev_times (ea2 (hi 1 1 r e24 rfl rfl) (ev_var rfl)) (h2.tx (tx_of e24)) (hz.tx (tx_of (e2.trans e24))) (by rw [o1, hp.len]) (by omega) hp.sm) ?_
        refine ev_ixT c.toNat (hi 2 2 g e24 rfl rfl) (h3.tx (tx_of e24)) (ev_var rfl) (by omega) ?_
        rw [List.getElem?_map, List.getElem?_eq_getElem hcn]
        simp [hcn]
      · have e25 := e24.trans e5
        refine s_asg (v := t2) (ev_ixT 3 (ev_var rfl) ((h1.tx (tx_of e25)).tx (Tx.lst (e25 D _ hD2))) ev_c rfl rfl) fun H6 e6 => ?_
        refine ⟨t, t2, acc ++ [dotP row p + hts.getD c.toNat 0], u, rfl, ((e2.trans e25).mut hD).trans e6, ?_, ((h4.tx (tx_of e25)).tx (Tx.lst (e25 D _ hD2))).tx (tx_of e6), o3, by rw [Tr.ht]; omega, by simp only [List.length_append, List.length_cons, List.length_nil]; omega, ?_⟩
        · rw [List.map_append]
          exact e6 D _ upd_same
        · rw [← hacc, pathT, List.append_assoc]
          rfl
    | fork gs =>
      unfold TrAt at hv
      unfold TrOk at hT'
      have ehh : (Tr.fork gs).ht = gs.ht + 1 := by rw [Tr.ht]
      rw [ehh] at hb
      obtain ⟨g, zs, h1, h2, h3⟩ := hv
      obtain ⟨o1, o2⟩ := hT'
      have hcm := class_mem o1 c0 (by omega)
      have few := o1.few
      refine s_if (b := false) (et_test (ev_eqS (i0 e3) ev_c)) (fun z => by cases z) fun _ H4 e4 => ?_
      have e24 := e3.trans e4
      have hi : ∀ {H5 : Hp} {u : Option V}, Tx H2 H5 → Ev (tOp (rIxT K) (tVar 0) (tC (.int 1))) [some v, some y, some z, some (.ref D), some (.int c), u] H5 g := fun e => ev_ixT 1 (ev_var rfl) (h1.tx e) ev_c rfl rfl
      have n12 : n ≤ 12 := by have := hd.few; omega
      refine q_asg (ev_group_at (xs := zs) (gs := gs) (a := c) (ea2 (hi (tx_of e24)) (ev_var rfl)) (h2.tx (tx_of e24)) (h3.tx (tx_of e24)) (by omega) hcm) fun H5 e5 => ?_
      have e25 := e24.trans e5
      refine q_app (l := D) (xs := acc.map V.int) (v := .int (grAt c gs.parts : Nat)) (e25 D _ hD2) (ev_var rfl) (ev_var rfl) (by simp only [List.length_map]; omega) fun H6 e6 => ?_
      have e26 := e25.trans e6
      have t26 : Tx H2 (upd H6 D (.lst (acc.map V.int ++ [.int (grAt c gs.parts : Nat)]))) := (tx_of e26).trans (Tx.lst (e26 D _ hD2))
      obtain ⟨part, hpart⟩ := list_at c gs hcm
      obtain ⟨xg, hxg, y1, y2, q1, q2, q3⟩ := paired_at h3.each hpart
      refine s_asg (v := y2) (ev_ixT 1 (ev_ixT (grAt c gs.parts) (hi t26) (h2.tx t26) (ev_var rfl) rfl hxg) (q1.tx t26) ev_c rfl rfl) fun H7 e7 => ?_
      have hm := treeAt_mem hcm
      have hlt := Gs.ht_mem hm
      refine ⟨treeAt c gs, y2, acc ++ [((grAt c gs.parts : Nat) : Int)], _, rfl, ((e2.trans e26).mut hD).trans e7, ?_, (q3.tx t26).tx (tx_of e7), o2.mem _ hm, by rw [ehh]; omega, by simp only [List.length_append, List.length_cons, List.length_nil]; omega, ?_⟩
      · rw [List.map_append]
        exact e7 D _ upd_same
      · rw [← hacc, pathT, pathG_eq p c gs 0 hcm, Nat.zero_add, List.append_assoc]
        rfl
  · cases T' with
    | key row hts t => cases hbf
    | fork gs => cases hbf
    | leaf =>
      rw [pathT, List.append_nil] at hacc
      subst hacc
      obtain ⟨b, rfl, hbz⟩ := id hz
      refine ⟨_, rfl, D, _, rfl, .inr (SqL.of (e3 D _ hD2)), ⟨_, rfl, b, _, rfl, .inl (SqT.of ((e2.trans e3) b _ hbz)), ?_, ?_⟩⟩
      · refine sz_of ?_
        simp only [List.length_append, List.length_map, List.length_nil]
        omega
      · intro q hq
        refine k _ _ ((e2.trans e3).trans (Ex.new hq)) ⟨q, rfl, ?_⟩
        rw [upd_same]
        unfold pathOf
        rw [hc, List.map_append, List.append_nil]
end
end Lk


/-! Lookscan: sign_of. -/
namespace Lk
open PySem PySem.Spec PyProof.Rows L2 Evl
theorem lexLt_eq : ∀ p q : List Int, HT.lexLt p q = decide (p < q)
  | [], [] => by simp [HT.lexLt]
  | [], _ :: _ => by simp [HT.lexLt]
  | _ :: _, [] => by simp [HT.lexLt]
  | x :: p, y :: q => by
    unfold HT.lexLt
    rw [lexLt_eq p q]
    by_cases h2 : x = y
    · subst h2
      simp [List.cons_lt_cons_iff]
    · simp [h2, List.cons_lt_cons_iff]
theorem pre_lt (a b : List Int) : ∀ pre : List Int, (pre ++ a < pre ++ b) ↔ a < b
  | [] => Iff.rfl
  | x :: pre => by
    rw [List.cons_append, List.cons_append, List.cons_lt_cons_iff]
    simp [pre_lt a b pre]
/-- p comes before q -/
def before (T : Tr) (ds p q : List Int) : Bool := decide (pathOf T ds p < pathOf T ds q)
theorem eqv_pl (p q : List Int) : PyData.eqv (dI p) (dI q) = decide (p = q) := eqvAll_ints p q
section
variable {P : Program} {w : World} {K : PySem.W.Frag} {mg : Str → Option Value} {base : Heap} {leaf : Addr}
abbrev sSignOf : Stmt := top 51
theorem scSignOf : FnScope ["tree", "divisors", "one", "other", "left", "right", "first", "last"] ["tree", "divisors", "one", "other"] (defScope sSignOf) := ⟨rfl, rfl, rfl, by decide +kernel, rfl, by decide +kernel, by decide +kernel⟩
def spSignOf : Sp := fun vs H Q _ => ∃ x y z1 z2 T ds p q n, vs = [x, y, z1, z2] ∧ TrAt H T x ∧ Pl H y ds ∧ Pl H z1 p ∧ Pl H z2 q ∧ DivOk ds ∧ prodP ds = (n : Nat) ∧ TrOk ds.length n T ∧ T.ht ≤ 9 ∧ PlaceOk ds p ∧ PlaceOk ds q ∧ ∀ (s : Int) H', Ex H H' → decide (s < 0) = before T ds p q → Q (.int s) H'
theorem ok_sign_of (B : Bt mg) (L : LeafOk K mg leaf) (F : Df K mg "sign_of" sSignOf) (h_class_at : Ok P w K mg base 1 "class_at" ["divisors", "place"] spClassAt) (h_times : Ok P w K mg base 1 "times" ["one", "other"] spTimes) (h_group_at : Ok P w K mg base 1 "group_at" ["groups", "number"] spGroupAt) : Ok P w K mg base 2 "sign_of" ["tree", "divisors", "one", "other"] spSignOf := by
  refine ok_of F scSignOf (fun vs H Q E h => by obtain ⟨x, y, z1, z2, T, ds, p, q, n, rfl, _⟩ := h; rfl) (fun dV _ _ _ _ _ _ us hl e => by subst e; exact match us, hl with | [_, _, _, _], _ => rfl) fun f cdv A outer s H vs Q E hr h => ?_
  obtain ⟨x, y, z1, z2, T, ds, p, q, n, rfl, hx, hy, hz1, hz2, hd, hn, hT, hh, hp, hq, k⟩ := h
  refine ⟨_, (pss_cons (ps_par (i := 4) (j := 5) rfl scSignOf.nd rfl rfl (by decide) rfl rfl (pa_cons (pe_do h_class_at hr rfl (pa_cons (pv 1) (pa_cons (pv 2) pa_nil))) (pa_cons (pe_do h_class_at hr rfl (pa_cons (pv 1) (pa_cons (pv 3) pa_nil))) pa_nil)) rfl)
      (pss_cons (ps_while PassesOwn.never (pt_cmpR (op_neD hr.units) (pv 0) (pe_glob rfl L.1 (v := .ref leaf) rfl) (nomark _)) (pss_cons (ps_if (pt_cmpR op_eq (pe_ix ix_tup (pv 0) pe_int (fun _ _ => rfl)) pe_str (nomark _)) (pss_cons (ps_set (i := 6) scSignOf.nd rfl (Or.inl rfl) (pe_op op_add (pe_do h_times hr rfl (pa_cons (pe_ix ix_tup (pv 0) pe_int (fun _ _ => rfl)) (pa_cons (pv 2) pa_nil))) (pe_ix ix_tup (pe_ix ix_tup (pv 0) pe_int (fun _ _ => rfl)) (pv 4) (fun _ _ => rfl))))
      (pss_cons (ps_set (i := 7) scSignOf.nd rfl (Or.inl rfl) (pe_op op_add (pe_do h_times hr rfl (pa_cons (pe_ix ix_tup (pv 0) pe_int (fun _ _ => rfl)) (pa_cons (pv 3) pa_nil))) (pe_ix ix_tup (pe_ix ix_tup (pv 0) pe_int (fun _ _ => rfl)) (pv 5) (fun _ _ => rfl))))
      (pss_one (ps_set (i := 0) scSignOf.nd rfl (Or.inl rfl) (pe_ix ix_tup (pv 0) pe_int (fun _ _ => rfl)))))) (pss_cons (ps_par (i := 6) (j := 7) rfl scSignOf.nd rfl rfl (by decide) rfl rfl (pa_cons (pe_do h_group_at hr rfl (pa_cons (pe_ix ix_tup (pv 0) pe_int (fun _ _ => rfl)) (pa_cons (pv 4) pa_nil))) (pa_cons (pe_do h_group_at hr rfl (pa_cons (pe_ix ix_tup (pv 0) pe_int (fun _ _ => rfl)) (pa_cons (pv 5) pa_nil))) pa_nil)) rfl)
      (pss_one (ps_set (i := 0) scSignOf.nd rfl (Or.inl rfl) (pe_ix ix_tup (pe_ix ix_tup (pe_ix ix_tup (pv 0) pe_int (fun _ _ => rfl)) (pv 6) (fun _ _ => rfl)) pe_int (fun _ _ => rfl))))))
      (pss_one (ps_if (pt_cmpR op_ne (pv 6) (pv 7) (nomark _)) (pss_one (ps_ret (pe_ifExp (pt_cmpR op_lt (pv 6) (pv 7) (nomark _)) (pe_un un_neg pe_int) pe_int))) pss_nil))))
      (pss_one (ps_ret (pe_ifExp (pt_cmpR (op_eqD hr.units) (pv 2) (pv 3) (nomark _)) pe_int (pe_ifExp (pt_cmpR (op_ltT hr.units0) (pv 2) (pv 3) (nomark _)) (pe_un un_neg pe_int) pe_int)))))), ?_⟩
  have d3 := hd.three
  have pl := hp.len
  have ql := hq.len
  have n12 : n ≤ 12 := by have := hd.few; omega
  have bd : ∀ r : List Int, r.length = ds.length → 0 ≤ classAt r ds 0 ∧ classAt r ds 0 < prodP ds := fun r hr => classAt_bd r ds 0 1 hr (fun d h => by have := hd.pos d h; omega) (by omega) (by omega)
  obtain ⟨c0, c1⟩ := bd p pl
  obtain ⟨g0, g1⟩ := bd q ql
  have pe : before T ds p q = decide (pathT p (classAt p ds 0) T ++ p < pathT q (classAt q ds 0) T ++ q) := rfl
  generalize hc : classAt p ds 0 = c at c0 c1 pe
  generalize hg : classAt q ds 0 = e at g0 g1 pe
  refine (ev_class_at (σ := start ["tree", "divisors", "one", "other", "left", "right", "first", "last"] [x, y, z1, z2]) (H := H) (ta := tCons (tVar 1) (tCons (tVar 2) tNil)) (ea2 (ev_var rfl) (ev_var rfl)) hy hz1 pl (by omega) hd.pos) H (Ex.refl _) _ fun H0 e0 => ?_
  refine (ev_class_at (σ := start ["tree", "divisors", "one", "other", "left", "right", "first", "last"] [x, y, z1, z2]) (H := H) (ta := tCons (tVar 1) (tCons (tVar 3) tNil)) (ea2 (ev_var rfl) (ev_var rfl)) hy hz2 ql (by omega) hd.pos) H0 e0 _ fun H1 e1 => ⟨_, _, rfl, ?_⟩
  rw [hc, hg]
  have e01 : Ex H H1 := e0.trans e1
  refine q_while (fun m σ H' => ∃ T' v pre u1 u2, σ = [some v, some y, some z1, some z2, some (.int c), some (.int e), u1, u2] ∧ Ex H H' ∧ TrAt H' T' v ∧ TrOk ds.length n T' ∧ T'.ht = m ∧ T'.ht ≤ 9 ∧ pathT p c T = pre ++ pathT p c T' ∧ pathT q e T = pre ++ pathT q e T') T.ht ⟨T, x, [], none, none, rfl, e01, hx.tx (tx_of e01), hT, rfl, hh, rfl, rfl⟩ ?_
  rintro m σ H2 ⟨T', v, pre, u1, u2, rfl, e2, hv, hT', rfl, hb, hp1, hp2⟩
  have key : EvT (tTest (tOp (rNeD K) (tVar 0) (tC (.ref leaf)))) [some v, some y, some z1, some z2, some (.int c), some (.int e), u1, u2] H2 (!PyData.eqv (trD T') (trD .leaf)) := et_test (ev_neD (ev_var rfl) ev_c (fun H3 e3 => dp_tr (hv.tx (tx_of e3))) (fun H3 _ => dp_leaf L H3) (shaped_tr (by omega)) (shaped_tr (by decide)))
  rw [eqv_leaf] at key
  refine ⟨_, key, fun hbt H3 e3 => ?_, fun hbf H3 e3 => ?_⟩
  · obtain ⟨ys, hys, h0⟩ := hv.tup
    refine ⟨fun σ' H' => ∃ T2 v pre u1 u2, σ' = [some v, some y, some z1, some z2, some (.int c), some (.int e), u1, u2] ∧ Ex H H' ∧ TrAt H' T2 v ∧ TrOk ds.length n T2 ∧ T2.ht < T'.ht ∧ T2.ht ≤ 9 ∧ pathT p c T = pre ++ pathT p c T2 ∧ pathT q e T = pre ++ pathT q e T2, fun σ4 H4 ⟨T2, v, pre, u1, u2, a1, a2, a3, a4, a5, a6, a7, a8⟩ => ⟨T2.ht, a5, T2, v, pre, u1, u2, a1, a2, a3, a4, rfl, a6, a7, a8⟩, ?_⟩
    -- the end of a turn
    have fin : ∀ (T2 : Tr) (v2 : V) (f l : Int) (r1 r2 : List Int) (H5 : Hp), Ex H H5 → TrAt H5 T2 v2 → TrOk ds.length n T2 → T2.ht < T'.ht → pathT p c T' = f :: r1 → pathT q e T' = l :: r2 → (f = l → r1 = pathT p c T2 ∧ r2 = pathT q e T2) →
        tIfS (tTest (tOp rNe (tVar 6) (tVar 7))) (tRet (tIf (tTest (tOp (rI0 fun i j => .bl (decide (i < j))) (tVar 6) (tVar 7))) (tUn (rU fun i => .int (-i)) (tC (.int 1))) (tC (.int 1)))) tNext
          { nx := fun σ' H' => ∃ T2 v pre u1 u2, σ' = [some v, some y, some z1, some z2, some (.int c), some (.int e), u1, u2] ∧ Ex H H' ∧ TrAt H' T2 v ∧ TrOk ds.length n T2 ∧ T2.ht < T'.ht ∧ T2.ht ≤ 9 ∧ pathT p c T = pre ++ pathT p c T2 ∧ pathT q e T = pre ++ pathT q e T2, rt := Q,
            bk := (tRet (tIf (tTest (tOp (rEqD K) (tVar 2) (tVar 3))) (tC (.int 0)) (tIf (tTest (tOp (rLtT K) (tVar 2) (tVar 3))) (tUn (rU fun i => .int (-i)) (tC (.int 1))) (tC (.int 1))))) { nx := fun _ H' => Q .non H', rt := Q },
            ct := fun σ' H' => ∃ T2 v pre u1 u2, σ' = [some v, some y, some z1, some z2, some (.int c), some (.int e), u1, u2] ∧ Ex H H' ∧ TrAt H' T2 v ∧ TrOk ds.length n T2 ∧ T2.ht < T'.ht ∧ T2.ht ≤ 9 ∧ pathT p c T = pre ++ pathT p c T2 ∧ pathT q e T = pre ++ pathT q e T2 }
          [some v2, some y, some z1, some z2, some (.int c), some (.int e), some (.int f), some (.int l)] H5 := fun T2 v2 f l r1 r2 H5 e5 w1 w2 w3 w4 w5 w6 => by
      refine s_if (b := !decide (f = l)) (et_test (ev_neI (ev_var rfl) (ev_var rfl))) (fun hb H6 e6 => ?_) (fun hb H6 e6 => ?_)
      · have hne : f ≠ l := by simpa using hb
        have eb : before T ds p q = decide (f < l) := by
          rw [pe, hp1, hp2, w4, w5, List.append_assoc, List.append_assoc]
          congr 1
          rw [pre_lt, List.cons_append, List.cons_append, List.cons_lt_cons_iff]
          simp [hne]
        by_cases hlt : f < l
        · have z : Ev (tIf (tTest (tOp (rI0 fun i j => .bl (decide (i < j))) (tVar 6) (tVar 7))) (tUn (rU fun i => .int (-i)) (tC (.int 1))) (tC (.int 1))) [some v2, some y, some z1, some z2, some (.int c), some (.int e), some (.int f), some (.int l)] H6 (.int (-1)) :=
            ev_if (b := true) (et_test (ev_is (ev_i0 (f := fun i j => V.bl (decide (i < j))) (ev_var rfl) (ev_var rfl)) (by rw [decide_eq_true hlt]))) (fun _ => fun H7 _ Q7 q7 => ⟨_, rfl, q7 H7 (Ex.refl _)⟩) (fun z => by cases z)
          refine s_ret z fun H7 e7 => k (-1) H7 ((e5.trans e6).trans e7) ?_
          rw [eb, decide_eq_true hlt]
          rfl
        · have z : Ev (tIf (tTest (tOp (rI0 fun i j => .bl (decide (i < j))) (tVar 6) (tVar 7))) (tUn (rU fun i => .int (-i)) (tC (.int 1))) (tC (.int 1))) [some v2, some y, some z1, some z2, some (.int c), some (.int e), some (.int f), some (.int l)] H6 (.int 1) :=
            ev_if (b := false) (et_test (ev_is (ev_i0 (f := fun i j => V.bl (decide (i < j))) (ev_var rfl) (ev_var rfl)) (by rw [decide_eq_false hlt]))) (fun z => by cases z) (fun _ => ev_c)
          refine s_ret z fun H7 e7 => k 1 H7 ((e5.trans e6).trans e7) ?_
          rw [eb, decide_eq_false hlt]
          rfl
      · have heq : f = l := by simpa using hb
        obtain ⟨x1, x2⟩ := w6 heq
        refine ⟨T2, v2, pre ++ [f], _, _, rfl, e5.trans e6, w1.tx (tx_of e6), w2, w3, by omega, ?_, ?_⟩
        · rw [hp1, w4, x1, List.append_assoc]; rfl
        · rw [hp2, w5, x2, heq, List.append_assoc]; rfl
    have i0 : ∀ {H4 : Hp}, Ex H2 H4 → Ev (tOp (rIxT K) (tVar 0) (tC (.int 0))) [some v, some y, some z1, some z2, some (.int c), some (.int e), u1, u2] H4 _ := fun e => ev_ixT 0 (ev_var rfl) (hys.tx (tx_of e)) ev_c rfl h0
    cases T' with
    | leaf => cases hbt
    | key row hts t =>
      unfold TrAt at hv
      unfold TrOk at hT'
      obtain ⟨r, g, t2, h1, h2, h3, h4⟩ := hv
      obtain ⟨o1, o2, o3⟩ := hT'
      refine q_if (b := true) (et_test (ev_is (ev_eqS (i0 e3) ev_c) (by simp))) (fun _ H4 e4 => ?_) (fun z => by cases z)
      have e24 := e3.trans e4
      have hi : ∀ {H5 : Hp} {u1 u2 : Option V} (j : Nat) (i : Int) (q : V), Ex H2 H5 → i = (j : Nat) → [V.str "key", r, g, t2][j]? = some q → Ev (tOp (rIxT K) (tVar 0) (tC (.int i))) [some v, some y, some z1, some z2, some (.int c), some (.int e), u1, u2] H5 q := fun j i q e hij hq => ev_ixT j (ev_var rfl) (h1.tx (tx_of e)) ev_c hij hq
      have hcn : c.toNat < hts.length := by rw [o2]; omega
      have hen : e.toNat < hts.length := by rw [o2]; omega
      refine q_asg (v := .int (dotP row p + hts.getD c.toNat 0)) ?_ fun H5 e5 => ?_
      · refine ev_i0 (f := fun i j => V.int (i + j)) (ev_times (ea2 (hi 1 1 r e24 rfl rfl) (ev_var rfl)) (h2.tx (tx_of e24)) (hz1.tx (tx_of (e2.trans e24))) (by rw [o1, hp.len]) (by omega) hp.sm) ?_
        refine ev_ixT c.toNat (hi 2 2 g e24 rfl rfl) (h3.tx (tx_of e24)) (ev_var rfl) (by omega) ?_
        rw [List.getElem?_map, List.getElem?_eq_getElem hcn]
        simp [hcn]
      have e25 := e24.trans e5
      refine q_asg (v := .int (dotP row q + hts.getD e.toNat 0)) ?_ fun H6 e6 => ?_
      · refine ev_i0 (f := fun i j => V.int (i + j)) (ev_times (ea2 (hi 1 1 r e25 rfl rfl) (ev_var rfl)) (h2.tx (tx_of e25)) (hz2.tx (tx_of (e2.trans e25))) (by rw [o1, hq.len]) (by omega) hq.sm) ?_
        refine ev_ixT e.toNat (hi 2 2 g e25 rfl rfl) (h3.tx (tx_of e25)) (ev_var rfl) (by omega) ?_
        rw [List.getElem?_map, List.getElem?_eq_getElem hen]
        simp [hen]
      have e26 := e25.trans e6
      refine s_asg (v := t2) (hi 3 3 t2 e26 rfl rfl) fun H7 e7 => ?_
      exact fin t t2 _ _ (pathT p c t) (pathT q e t) H7 ((e2.trans e26).trans e7) (h4.tx (tx_of (e26.trans e7))) o3 (by rw [Tr.ht]; omega) (by rw [pathT]) (by rw [pathT]) fun _ => ⟨rfl, rfl⟩
    | fork gs =>
      unfold TrAt at hv
      unfold TrOk at hT'
      have ehh : (Tr.fork gs).ht = gs.ht + 1 := by rw [Tr.ht]
      obtain ⟨g, zs, h1, h2, h3⟩ := hv
      obtain ⟨o1, o2⟩ := hT'
      have hcm := class_mem o1 c0 (by omega)
      have hem := class_mem o1 g0 (by omega)
      have few := o1.few
      refine q_if (b := false) (et_test (ev_eqS (i0 e3) ev_c)) (fun z => by cases z) fun _ H4 e4 => ?_
      have e24 := e3.trans e4
      have hi : ∀ {H5 : Hp} {u1 u2 : Option V}, Ex H2 H5 → Ev (tOp (rIxT K) (tVar 0) (tC (.int 1))) [some v, some y, some z1, some z2, some (.int c), some (.int e), u1, u2] H5 g := fun e => ev_ixT 1 (ev_var rfl) (h1.tx (tx_of e)) ev_c rfl rfl
      refine (ev_group_at (xs := zs) (gs := gs) (a := c) (σ := [some v, some y, some z1, some z2, some (.int c), some (.int e), u1, u2]) (ta := tCons (tOp (rIxT K) (tVar 0) (tC (.int 1))) (tCons (tVar 4) tNil)) (ea2 (hi e24) (ev_var rfl)) (h2.tx (tx_of e24)) (h3.tx (tx_of e24)) (by omega) hcm) H4 (Ex.refl _) _ fun H5 e5 => ?_
      have e25 := e24.trans e5
      refine (ev_group_at (xs := zs) (gs := gs) (a := e) (σ := [some v, some y, some z1, some z2, some (.int c), some (.int e), u1, u2]) (ta := tCons (tOp (rIxT K) (tVar 0) (tC (.int 1))) (tCons (tVar 5) tNil)) (ea2 (hi e25) (ev_var rfl)) (h2.tx (tx_of e25)) (h3.tx (tx_of e25)) (by omega) hem) H5 (Ex.refl _) _ fun H6 e6 => ⟨_, _, rfl, ?_⟩
      have e26 := e25.trans e6
      obtain ⟨part, hpart⟩ := list_at c gs hcm
      obtain ⟨xg, hxg, y1, y2, q1, q2, q3⟩ := paired_at h3.each hpart
      refine s_asg (v := y2) (ev_ixT 1 (ev_ixT (grAt c gs.parts) (hi e26) (h2.tx (tx_of e26)) (ev_var rfl) rfl hxg) (q1.tx (tx_of e26)) ev_c rfl rfl) fun H7 e7 => ?_
      have hm := treeAt_mem hcm
      have hlt := Gs.ht_mem hm
      refine fin (treeAt c gs) y2 _ _ (pathT p c (treeAt c gs)) (pathT q e (treeAt e gs)) H7 ((e2.trans e26).trans e7) (q3.tx (tx_of (e26.trans e7))) (o2.mem _ hm) (by rw [ehh]; omega) (by rw [pathT, pathG_eq p c gs 0 hcm, Nat.zero_add]) (by rw [pathT, pathG_eq q e gs 0 hem, Nat.zero_add]) fun he => ⟨rfl, ?_⟩
      have he : grAt c gs.parts = grAt e gs.parts := by omega
      obtain ⟨part2, hpart2⟩ := list_at e gs hem
      rw [he, hpart2] at hpart
      have := congrArg Prod.snd (Option.some.inj hpart)
      have : treeAt e gs = treeAt c gs := this
      rw [this]
  · cases T' with
    | key row hts t => cases hbf
    | fork gs => cases hbf
    | leaf =>
      rw [pathT, List.append_nil] at hp1
      rw [pathT, List.append_nil] at hp2
      have e23 := e2.trans e3
      have eb : before T ds p q = decide (p < q) := by
        rw [pe, hp1, hp2]
        congr 1
        rw [pre_lt]
      have zr : Ev (tIf (tTest (tOp (rLtT K) (tVar 2) (tVar 3))) (tUn (rU fun i => .int (-i)) (tC (.int 1))) (tC (.int 1))) [some v, some y, some z1, some z2, some (.int c), some (.int e), u1, u2] H3 (.int (if p < q then -1 else 1)) := by
        have ht : EvT (tTest (tOp (rLtT K) (tVar 2) (tVar 3))) [some v, some y, some z1, some z2, some (.int c), some (.int e), u1, u2] H3 (decide (p < q)) := et_test fun H4 e4 Q4 q4 => by
          obtain ⟨a, rfl, ha⟩ := hz1.tx (tx_of (e23.trans e4))
          obtain ⟨b, rfl, hb⟩ := hz2.tx (tx_of (e23.trans e4))
          refine ⟨_, rfl, _, rfl, a, b, p, q, rfl, rfl, SqT.of ha, SqT.of hb, ?_⟩
          rw [lexLt_eq]
          exact q4 H4 (Ex.refl _)
        by_cases hlt : p < q
        · rw [if_pos hlt]
          exact ev_if ht (fun _ => fun H7 _ Q7 q7 => ⟨_, rfl, q7 H7 (Ex.refl _)⟩) (fun z => by simp [hlt] at z)
        · rw [if_neg hlt]
          exact ev_if ht (fun z => by simp [hlt] at z) (fun _ => ev_c)
      refine s_ret (v := .int (if p = q then 0 else if p < q then -1 else 1)) (ev_if (b := decide (p = q)) (et_test (ev_is (ev_eqD (d := dI p) (f := dI q) (ev_var rfl) (ev_var rfl) (fun H4 e4 => dp_pl (hz1.tx (tx_of (e23.trans e4)))) (fun H4 e4 => dp_pl (hz2.tx (tx_of (e23.trans e4)))) (shaped_ints _) (shaped_ints _)) (by rw [eqv_pl]))) (fun hb => ?_) (fun hb => ?_)) fun H4 e4 => k _ H4 (e23.trans e4) ?_
      · rw [if_pos (of_decide_eq_true hb)]
        exact ev_c
      · rw [if_neg (of_decide_eq_false hb)]
        exact zr
      · rw [eb]
        by_cases h1 : p = q
        · rw [if_pos h1, h1]
          simp
        · rw [if_neg h1]
          by_cases h2 : p < q
          · rw [if_pos h2, decide_eq_true h2]; rfl
          · rw [if_neg h2, decide_eq_false h2]; rfl
end
end Lk


/-! Lookscan: the generator cells. -/
namespace Lk
open PySem PySem.Spec PyProof.Rows L2 Evl
section
variable {K : PySem.W.Frag} {σ : L2.St} {H Hw : Hp} {te : TE} {u : TGk} {E : GEn} {r : List (List Int)} {v : V}
theorem gq_drop (h : Ev te σ H v) (k : ∀ H1, Ex H H1 → u E r Hw σ H1) : tgThen (tgPlain (tDrop te)) u E r Hw σ H := h H (Ex.refl H) _ k
theorem gq_asg {i : Nat} (h : Ev te σ H v) (k : ∀ H1, Ex H H1 → u E r Hw (σ.set i (some v)) H1) : tgThen (tgPlain (tAsg te (gName i))) u E r Hw σ H := h H (Ex.refl H) _ k
theorem gq_asgL {i : Nat} {xs : List V} (h : EvL te σ H xs) (k : ∀ p H1, H p = none → Ex H H1 → H1 p = some (.lst xs) → u E r Hw (σ.set i (some (.ref p))) H1) : tgThen (tgPlain (tAsg te (gName i))) u E r Hw σ H := h H (Ex.refl H) _ k
theorem gq_for {ta : TA} {tb : TGk} {j n : Nat} (h : EvA ta σ H [.int (n : Nat)]) (hn : n ≤ 100000) (Pv : Nat → List (List Int) → Hp → L2.St → Hp → Prop) (h0 : ∀ H1, Ex H H1 → Pv 0 r Hw σ H1)
    (hs : ∀ i r Hw σ H, i < n → Pv i r Hw σ H → tb { nx := Pv (i + 1), ct := Pv (i + 1), bk := u E } r Hw (σ.set j (some (.int (i : Nat)))) H) (hd : ∀ r Hw σ H, Pv n r Hw σ H → u E r Hw σ H) : tgThen (tgFor (iRng1 ta) (gName j) tb) u E r Hw σ H :=
  h H (Ex.refl H) _ fun H1 e => ⟨_, rfl, by omega, by omega, gfor_range (n := ((n : Nat) : Int).toNat) Pv (h0 H1 e) (fun i r Hw σ H hi p => by
    show tb { nx := Pv (i + 1), ct := Pv (i + 1), bk := u E } r Hw (σ.set j (some (.int (0 + (i : Nat))))) H
    rw [Int.zero_add]
    exact hs i r Hw σ H (by omega) p) (fun r Hw σ H p => hd r Hw σ H (by rw [Int.toNat_natCast] at p; exact p))⟩
end
def sidesOf (b : List Int) : List Nat := if 0 < prodP b then List.replicate (3 - b.length) 1 ++ b.map Int.toNat else [0, 0, 0]
def enum3 (s0 s1 s2 : Nat) : List (List Int) := (List.range' 0 s0).flatMap fun i => (List.range' 0 s1).flatMap fun j => (List.range' 0 s2).map fun k => [((i : Nat) : Int), (j : Nat), (k : Nat)]
/-- the places of a box -/
def cellsOf (b : List Int) : List (List Int) := (enum3 ((sidesOf b).getD 0 0) ((sidesOf b).getD 1 0) ((sidesOf b).getD 2 0)).map (·.drop (3 - b.length))
theorem range_step {i n : Nat} (h : i < n) : List.range' i (n - i) = i :: List.range' (i + 1) (n - (i + 1)) := by
  rw [show n - i = (n - (i + 1)) + 1 by omega, List.range'_succ]
structure BoxOk (b : List Int) : Prop where
  one : 1 ≤ b.length
  three : b.length ≤ 3
  each : ∀ i ∈ b, 0 ≤ i ∧ i ≤ 1000
  few : prodP b ≤ 2000
theorem BoxOk.sm {b : List Int} (h : BoxOk b) : ∀ i ∈ b, 0 ≤ i ∧ Sm i := fun i hi => by
  have := h.each i hi
  exact ⟨this.1, by omega, by omega⟩
theorem sides_len {b : List Int} (h : BoxOk b) : (sidesOf b).length = 3 := by
  unfold sidesOf
  have := h.three
  split
  · simp; omega
  · rfl
theorem sides_le {b : List Int} (h : BoxOk b) : ∀ s ∈ sidesOf b, s ≤ 1000 := fun s hs => by
  unfold sidesOf at hs
  split at hs
  · rcases List.mem_append.mp hs with hs | hs
    · rw [(List.mem_replicate.mp hs).2]; decide
    · obtain ⟨i, hi, rfl⟩ := List.mem_map.mp hs
      have := h.each i hi
      omega
  · have : s = 0 := by simpa using hs
    omega
section
variable {P : Program} {w : World} {K : PySem.W.Frag} {mg : Str → Option Value} {base : Heap} {leaf : Addr}
abbrev sCells : Stmt := top 30
theorem scCells : GScope ["box", "skipped", "sides", "first", "second", "third"] ["box"] (defScope sCells) := ⟨rfl, rfl, rfl, by decide +kernel, rfl, by decide +kernel, by decide +kernel⟩
def spCells : List V → Hp → List (List Int) → Prop := fun vs H r => ∃ x b, vs = [x] ∧ Pl H x b ∧ BoxOk b ∧ r = cellsOf b
theorem rep1 (n : Nat) : (List.replicate n [V.int 1]).flatten = List.replicate n (V.int 1) := by
  induction n with
  | zero => rfl
  | succ n ih => rw [List.replicate_succ, List.replicate_succ, List.flatten_cons, ih]; rfl
theorem ok_cells (B : Bt mg) (C : Cs mg) (F : Df K mg "cells" sCells) (h_need_cells : Ok P w K mg base 4 "need_cells" ["box", "many"] spNeedCells) (h_cell_count : Ok P w K mg base 4 "cell_count" ["box"] spCellCount) : OkG P w K mg base 5 "cells" ["box"] spCells := by
  refine okg_of F scCells (by decide +kernel) (fun vs H r h => by obtain ⟨x, b, rfl, _⟩ := h; rfl) (fun dV _ _ _ _ _ _ us hl e => by subst e; exact match us, hl with | [_], _ => rfl) fun f cdv A outer s H vs r Cf D pn hr h => ?_
  obtain ⟨x, b, rfl, hx, hb, rfl⟩ := h
  have gn : Gn (gcxOf P w K mg base ["box", "skipped", "sides", "first", "second", "third"] "cells" (defScope sCells) f cdv A outer s H (fun _ _ _ => False) pn).nox := gn_of scCells (by decide +kernel)
  refine ⟨_, (gks_cons (gk_ps gn (ps_expr (pe_do h_need_cells hr rfl (pa_cons (pv 0) (pa_cons (pe_ifExp (PW.pt (pw_and (pt_val (pe_callB call_isi rfl B.isinstance (by decide +kernel) (pa_cons (pv 0) (pa_cons (pe_bltn rfl B.tuple (by decide +kernel) (v := .ty "tuple") rfl) pa_nil)))) (pw_and1 (pt_chain op_lt op_le pe_int (pe_callB call_len_seq rfl B.len PySem.boot_len (pa_cons (pv 0) pa_nil)) (pe_cint rfl C.maxDirections))))) (pe_callB call_len_seq rfl B.len PySem.boot_len (pa_cons (pv 0) pa_nil)) pe_int) pa_nil)))))
      (gks_cons (gk_ps gn (ps_set (i := 1) scCells.nd rfl (Or.inl rfl) (pe_op op_sub (pe_cint rfl C.maxDirections) (pe_callB call_len_seq rfl B.len PySem.boot_len (pa_cons (pv 0) pa_nil)))))
      (gks_cons (gk_ps gn (ps_set (i := 2) scCells.nd rfl (Or.inl rfl) (pe_ifExp (pt_cmpR op_gt (pe_do h_cell_count hr rfl (pa_cons (pv 0) pa_nil)) pe_int (nomark _)) (pe_op op_cat (pe_op op_rep (pe_lst (pa_cons pe_int pa_nil)) (pv 1)) (pe_callTy call_list_of rfl B.list (by decide +kernel) (pa_cons (pv 0) pa_nil))) (pe_lst (pa_cons pe_int (pa_cons pe_int (pa_cons pe_int pa_nil)))))))
      (gks_cons (gk_for gn (pi_range1 rfl B.range (pa_cons (pe_ix ix_list (pv 2) pe_int (fun _ _ => rfl)) pa_nil)) (pg_name (i := 3) scCells.nd rfl (Or.inl rfl))
      (gks_cons (gk_for gn (pi_range1 rfl B.range (pa_cons (pe_ix ix_list (pv 2) pe_int (fun _ _ => rfl)) pa_nil)) (pg_name (i := 4) scCells.nd rfl (Or.inl rfl))
      (gks_cons (gk_for gn (pi_range1 rfl B.range (pa_cons (pe_ix ix_list (pv 2) pe_int (fun _ _ => rfl)) pa_nil)) (pg_name (i := 5) scCells.nd rfl (Or.inl rfl))
      (gks_cons (gk_yield gn (pe_slice sl_tupA (pe_tup (pa_cons (pv 3) (pa_cons (pv 4) (pa_cons (pv 5) pa_nil)))) (po_some (pv 1)) po_none))
      gks_nil))
      gks_nil))
      gks_nil))
      gks_nil)))), fun H0 hD0 e0 => ?_⟩
  have b1 := hb.one
  have b3 := hb.three
  have hx0 := hx.tx (tx_of e0)
  have lenv : ∀ {σ : L2.St} {H1 : Hp}, σ[0]? = some (some x) → Ex H0 H1 → Ev (tCB (rLenS K) (tCons (tVar 0) tNil)) σ H1 (.int (b.length : Nat)) := fun hσ e => ev_is (ev_lenT (ev_var hσ) (hx0.tx (tx_of e))) (by rw [List.length_map])
  -- need_cells
  refine gq_drop (v := .non) (fun H1 e1 Q1 k1 => ?_) fun H1 e1 => ?_
  · refine ⟨_, rfl, ?_⟩
    have zt : EvT (tAnd (tB (tCB (rIsi K) (tCons (tVar 0) (tCons (tC (.ty "tuple")) tNil)))) (tTest (tChain (rI0 fun i j => .bl (decide (i < j))) (rI0 fun i j => .bl (decide (i ≤ j))) (tC (.int 0)) (tCB (rLenS K) (tCons (tVar 0) tNil)) (tC (.int 3))))) (start ["box", "skipped", "sides", "first", "second", "third"] [x]) H0 (true && true) := et_and (et_B (ev_isT (ev_var rfl) hx0)) fun _ => et_test fun H2 e2 Q2 k2 => by
      obtain ⟨a, rfl, ha⟩ := hx0.tx (tx_of e2)
      refine ⟨_, rfl, a, _, rfl, .inr (SqT.of ha), _, _, rfl, rfl, _, rfl, ?_⟩
      rw [List.length_map, decide_eq_true (show (0 : Int) < (b.length : Nat) by omega), if_pos rfl]
      refine ⟨_, _, rfl, rfl, ?_⟩
      show Q2 (.bl (decide (((b.length : Nat) : Int) ≤ 3))) H2
      rw [decide_eq_true (show ((b.length : Nat) : Int) ≤ 3 by omega)]
      exact k2 H2 (Ex.refl _)
    refine (et_is zt rfl : EvT _ _ _ true) H1 e1 _ fun H2 e2 => ?_
    rw [if_pos rfl]
    refine lenv rfl (e1.trans e2) H2 (Ex.refl _) _ fun H3 e3 => ?_
    exact ⟨x, b, rfl, hx0.tx (tx_of ((e1.trans e2).trans e3)), by omega, hb.sm, hb.few, fun H4 e4 => k1 H4 ((e2.trans e3).trans e4)⟩
  -- skipped
  refine gq_asg (v := .int (3 - (b.length : Nat))) (ev_i0 (f := fun i j => V.int (i - j)) ev_c (lenv rfl e1)) fun H2 e2 => ?_
  have e12 := e1.trans e2
  -- sides
  refine gq_asgL (xs := (sidesOf b).map fun s => V.int (s : Nat)) (fun H3 e3 Q3 k3 => ?_) fun a H3 ha e3 hs => ?_
  · have zt : EvT (tTest (tOp (rI0 fun i j => .bl (decide (j < i))) (tCall spCellCount [] E0 (tCons (tVar 0) tNil)) (tC (.int 0)))) [some x, some (.int (3 - (b.length : Nat))), none, none, none, none] H3 (decide (0 < prodP b)) :=
      et_test (ev_i0 (f := fun i j => V.bl (decide (j < i))) (ev_cell_count (ea1 (ev_var rfl)) (hx0.tx (tx_of (e12.trans e3))) (by omega) fun i hi => (hb.sm i hi).2) ev_c)
    refine zt H3 (Ex.refl _) _ fun H4 e4 => ?_
    unfold sidesOf at k3
    by_cases hp : 0 < prodP b
    · rw [decide_eq_true hp, if_pos rfl]
      rw [if_pos hp] at k3
      refine ⟨by decide, fun l hl => ⟨_, rfl, l, 3 - (b.length : Nat), [.int 1], rfl, rfl, upd_same, by omega, by omega, by simp [sizeLine]; omega, fun m hm => ?_⟩⟩
      obtain ⟨t, rfl, ht⟩ := hx0
      have hml : m ≠ l := fun z => by rw [z, upd_same] at hm; cases hm
      have e5 := (((e12.trans e3).trans e4).trans (Ex.new (o := .lst [.int 1]) hl)).trans (Ex.new (o := .lst (List.replicate (3 - (b.length : Nat) : Int).toNat [V.int 1]).flatten) hm)
      refine ⟨_, rfl, t, _, rfl, .inr (SqT.of (e5 t _ ht)), fun q hq => ⟨m, q, _, _, rfl, rfl, (Ex.new hq) m _ upd_same, upd_same, ?_, fun z hz => ?_⟩⟩
      · refine sz_of ?_
        rw [rep1]
        simp only [List.length_replicate, List.length_map]
        omega
      · refine k3 z _ ?_ ((((e4.trans (Ex.new hl)).trans (Ex.new hm)).trans (Ex.new hq)).trans (Ex.new hz)) ?_
        · exact fresh_back (((e4.trans (Ex.new hl)).trans (Ex.new hm)).trans (Ex.new hq)) hz
        · rw [upd_same, rep1, List.map_append, List.map_replicate, List.map_map, show ((3 : Int) - (b.length : Nat)).toNat = 3 - b.length by omega]
          congr 3
          apply List.map_congr_left
          intro i hi
          have := (hb.each i hi).1
          show V.int i = V.int ((i.toNat : Nat) : Int)
          rw [Int.toNat_of_nonneg this]
    · rw [decide_eq_false hp, if_neg Bool.false_ne_true]
      rw [if_neg hp] at k3
      exact ⟨by decide, fun l hl => k3 l _ (fresh_back e4 hl) (e4.trans (Ex.new hl)) upd_same⟩
  have hl3 := sides_len hb
  have hle := sides_le hb
  have haD : a ≠ D := fun z => by
    rw [z] at ha
    cases hq : H0 D with
    | none => exact hD0 hq
    | some o => rw [e12 D o hq] at ha; cases ha
  have e03 : Ex H0 H3 := e12.trans e3
  -- an item of sides
  have side : ∀ {σ : L2.St} {H1 : Hp} (j : Nat) (i : Int), σ[2]? = some (some (.ref a)) → H1 a = some (.lst ((sidesOf b).map fun s => V.int (s : Nat))) → i = (j : Nat) → j < 3 → EvA (tCons (tOp (rIxL K) (tVar 2) (tC (.int i))) tNil) σ H1 [.int ((sidesOf b).getD j 0 : Nat)] := fun {σ H1} j i hσ h1 hij hj =>
    ea1 (ev_ixL j (ev_var hσ) ⟨a, rfl, h1⟩ ev_c hij (by
      rw [List.getElem?_map, List.getElem?_eq_getElem (by omega : j < (sidesOf b).length)]
      simp [show j < (sidesOf b).length by omega]))
  have sle : ∀ j, (sidesOf b).getD j 0 ≤ 100000 := fun j => by
    by_cases hj : j < (sidesOf b).length
    · have : (sidesOf b).getD j 0 = (sidesOf b)[j] := by simp [hj]
      rw [this]
      have := hle _ (List.getElem_mem hj)
      omega
    · have : (sidesOf b).getD j 0 = 0 := by simp [hj]
      omega
  obtain ⟨s0, hs0⟩ : ∃ s, (sidesOf b).getD 0 0 = s := ⟨_, rfl⟩
  obtain ⟨s1, hs1⟩ : ∃ s, (sidesOf b).getD 1 0 = s := ⟨_, rfl⟩
  obtain ⟨s2, hs2⟩ : ∃ s, (sidesOf b).getD 2 0 = s := ⟨_, rfl⟩
  have d0 : ∀ {σ : L2.St} {H1 : Hp}, σ[2]? = some (some (.ref a)) → H1 a = some (.lst ((sidesOf b).map fun s => V.int (s : Nat))) → EvA (tCons (tOp (rIxL K) (tVar 2) (tC (.int 0))) tNil) σ H1 [.int (s0 : Nat)] := fun hσ h1 => hs0 ▸ side 0 0 hσ h1 rfl (by decide)
  have d1 : ∀ {σ : L2.St} {H1 : Hp}, σ[2]? = some (some (.ref a)) → H1 a = some (.lst ((sidesOf b).map fun s => V.int (s : Nat))) → EvA (tCons (tOp (rIxL K) (tVar 2) (tC (.int 1))) tNil) σ H1 [.int (s1 : Nat)] := fun hσ h1 => hs1 ▸ side 1 1 hσ h1 rfl (by decide)
  have d2 : ∀ {σ : L2.St} {H1 : Hp}, σ[2]? = some (some (.ref a)) → H1 a = some (.lst ((sidesOf b).map fun s => V.int (s : Nat))) → EvA (tCons (tOp (rIxL K) (tVar 2) (tC (.int 2))) tNil) σ H1 [.int (s2 : Nat)] := fun hσ h1 => hs2 ▸ side 2 2 hσ h1 rfl (by decide)
  have l0 : s0 ≤ 100000 := hs0 ▸ sle 0
  have l1 : s1 ≤ 100000 := hs1 ▸ sle 1
  have l2 : s2 ≤ 100000 := hs2 ▸ sle 2
  unfold cellsOf enum3
  rw [hs0, hs1, hs2]
  clear hs0 hs1 hs2 side sle
  generalize hm : 3 - b.length = m
  have em : (3 : Int) - (b.length : Nat) = (m : Nat) := by omega
  rw [em]
  rw [List.map_flatMap]
  -- what stays: the names' values, the list of sides
  refine gq_for (n := s0) (d0 rfl hs) l0 (fun i r Hw σ H' => Ex Hw H' ∧ H' a = some (.lst ((sidesOf b).map fun s => V.int (s : Nat))) ∧ (∃ u1 u2 u3, σ = [some x, some (.int (m : Nat)), some (.ref a), u1, u2, u3]) ∧
    r = (List.range' i (s0 - i)).flatMap fun i => ((List.range' 0 s1).flatMap fun j => (List.range' 0 s2).map fun k => [((i : Nat) : Int), (j : Nat), (k : Nat)]).map (·.drop m)) (fun H4 e4 => ⟨e03.trans e4, e4 a _ hs, ⟨_, _, _, rfl⟩, rfl⟩) ?_ ?_
  · rintro i r Hw σ H4 hi ⟨e4, h4, ⟨u1, u2, u3, rfl⟩, rfl⟩
    rw [range_step hi, List.flatMap_cons, List.map_flatMap]
    refine gq_for (n := s1) (d1 rfl h4) l1 (fun j r Hw σ H' => Ex Hw H' ∧ H' a = some (.lst ((sidesOf b).map fun s => V.int (s : Nat))) ∧ (∃ u2 u3, σ = [some x, some (.int (m : Nat)), some (.ref a), some (.int (i : Nat)), u2, u3]) ∧
      r = ((List.range' j (s1 - j)).flatMap fun j => ((List.range' 0 s2).map fun k => [((i : Nat) : Int), (j : Nat), (k : Nat)]).map (·.drop m)) ++ (List.range' (i + 1) (s0 - (i + 1))).flatMap fun i => ((List.range' 0 s1).flatMap fun j => (List.range' 0 s2).map fun k => [((i : Nat) : Int), (j : Nat), (k : Nat)]).map (·.drop m)) (fun H5 e5 => ⟨e4.trans e5, e5 a _ h4, ⟨_, _, rfl⟩, rfl⟩) ?_ ?_
    · rintro j r Hw σ H5 hj ⟨e5, h5, ⟨u2, u3, rfl⟩, rfl⟩
      rw [range_step hj, List.flatMap_cons, List.append_assoc, List.map_map]
      refine gq_for (n := s2) (d2 rfl h5) l2 (fun k r Hw σ H' => Ex Hw H' ∧ H' a = some (.lst ((sidesOf b).map fun s => V.int (s : Nat))) ∧ (∃ u3, σ = [some x, some (.int (m : Nat)), some (.ref a), some (.int (i : Nat)), some (.int (j : Nat)), u3]) ∧
        r = ((List.range' k (s2 - k)).map fun k => [((i : Nat) : Int), (j : Nat), (k : Nat)].drop m) ++ (((List.range' (j + 1) (s1 - (j + 1))).flatMap fun j => ((List.range' 0 s2).map fun k => [((i : Nat) : Int), (j : Nat), (k : Nat)]).map (·.drop m)) ++ (List.range' (i + 1) (s0 - (i + 1))).flatMap fun i => ((List.range' 0 s1).flatMap fun j => (List.range' 0 s2).map fun k => [((i : Nat) : Int), (j : Nat), (k : Nat)]).map (·.drop m))) (fun H6 e6 => ⟨e5.trans e6, e6 a _ h5, ⟨_, rfl⟩, rfl⟩) ?_ ?_
      · rintro k r Hw σ H6 hk ⟨e6, h6, ⟨u3, rfl⟩, rfl⟩
        rw [range_step hk, List.map_cons, List.cons_append]
        refine ⟨_, _, rfl, ?_⟩
        refine ⟨_, rfl, _, rfl, _, rfl, sz_of (by simp), fun q hq => ⟨_, rfl, _, rfl, ?_⟩⟩
        have en := Ex.new (o := .tup [V.int (i : Nat), .int (j : Nat), .int (k : Nat)]) hq
        have fin : ∀ (v : V) (H7 : Hp), Ex H6 H7 → Pl H7 v ([((i : Nat) : Int), (j : Nat), (k : Nat)].drop m) → Pl H7 v ([((i : Nat) : Int), (j : Nat), (k : Nat)].drop m) ∧ Ex Hw H7 ∧ ∀ H8, ExB D H7 H8 → Ex H8 H8 ∧ H8 a = some (.lst ((sidesOf b).map fun s => V.int (s : Nat))) ∧ (∃ u3', [some x, some (.int (m : Nat)), some (.ref a), some (.int (i : Nat)), some (.int (j : Nat)), some (.int (k : Nat))] = [some x, some (.int (m : Nat)), some (.ref a), some (.int (i : Nat)), some (.int (j : Nat)), u3']) := fun v H7 e7 hv =>
          ⟨hv, e6.trans e7, fun H8 x8 => ⟨Ex.refl _, x8 a _ haD (e7 a _ h6), _, rfl⟩⟩
        refine ⟨q, _, rfl, SqT.of upd_same, fun hz => ?_, fun hz p hp => ?_⟩
        · have m0 : m = 0 := by
            have z := hz.1
            have e1 : HT.sIx 3 0 (some (m : Int)) = min m 3 := HT.sIx_nat 3 0 m
            have z : HT.sIx 3 0 (some (m : Int)) = 0 := z
            omega
          obtain ⟨f1, f2, f3⟩ := fin (.ref q) _ en ⟨q, rfl, by rw [m0]; exact upd_same⟩
          exact ⟨f1, f2, fun H8 x8 => by obtain ⟨g1, g2, g3⟩ := f3 H8 x8; exact ⟨g1, g2, g3, rfl⟩⟩
        · have ec : cutV [V.int (i : Nat), .int (j : Nat), .int (k : Nat)] (some (m : Int)) none = ([((i : Nat) : Int), (j : Nat), (k : Nat)].drop m).map V.int := by
            unfold cutV
            rw [show HT.sIx [V.int (i : Nat), .int (j : Nat), .int (k : Nat)].length 0 (some (m : Int)) = m from (HT.sIx_nat 3 0 m).trans (by omega), show HT.sIx [V.int (i : Nat), .int (j : Nat), .int (k : Nat)].length [V.int (i : Nat), .int (j : Nat), .int (k : Nat)].length none = 3 from rfl, List.map_drop]
            rw [List.take_of_length_le]
            · rfl
            · simp
          obtain ⟨f1, f2, f3⟩ := fin (.ref p) _ (en.trans (Ex.new (o := .tup (cutV [V.int (i : Nat), .int (j : Nat), .int (k : Nat)] (some (m : Int)) none)) hp)) ⟨p, rfl, by rw [upd_same, ec]⟩
          exact ⟨f1, f2, fun H8 x8 => by obtain ⟨g1, g2, g3⟩ := f3 H8 x8; exact ⟨g1, g2, g3, rfl⟩⟩
      · rintro r Hw σ H6 ⟨e6, h6, ⟨u3, rfl⟩, rfl⟩
        refine ⟨e6, h6, ⟨_, _, rfl⟩, ?_⟩
        rw [Nat.sub_self]
        rfl
    · rintro r Hw σ H5 ⟨e5, h5, ⟨u2, u3, rfl⟩, rfl⟩
      refine ⟨e5, h5, ⟨_, _, _, rfl⟩, ?_⟩
      rw [Nat.sub_self]
      rfl
  · rintro r Hw σ H4 ⟨e4, h4, ⟨u1, u2, u3, rfl⟩, rfl⟩
    refine ⟨?_, e4⟩
    rw [Nat.sub_self]
    rfl
end
end Lk


/-! Lookscan: the order of the sorted pairs. -/
namespace Lk
open PySem PySem.Spec PyProof.Rows L2 Evl PySem.W
theorem dataLt_dI (p q : List Int) : dataLt (dI p) (dI q) = decide (p < q) := by
  rw [← dataLt_ints]
  show dataLt (.tuple (p.map .int)) (.tuple (q.map .int)) = _
  rw [dataLt_tuple]
  rfl
theorem dataP_lt {a b : List Int × List Int} (h : dataP a b = true) : ¬ b.1 < a.1 := fun hlt => by
  have e : dataP a b = !dataLt (dP b) (dP a) := rfl
  rw [e, dataLt_pair (by simp [alike, alike_ints]) (by simp [alike, alike_ints])] at h
  have hne : b.1 ≠ a.1 := fun z => by rw [z] at hlt; exact List.lt_irrefl _ hlt
  rw [eqv_pl, decide_eq_false hne, if_neg Bool.false_ne_true, dataLt_dI, decide_eq_true hlt] at h
  cases h
theorem sorted_pairs (bs : List (List Int × List Int)) : (bs.mergeSort dataP).Pairwise fun a b => ¬ b.1 < a.1 := by
  have h : TotalLe dataP := sortLe_total _ false _
  exact (sort_pairwise h bs).imp fun h => dataP_lt h
end Lk

/-! Lookscan: the class Scan. -/
namespace Lk
open PySem PySem.Spec PyProof.Rows L2 Evl
/-- a method's def keeps its promise -/
def OkF (P : Program) (w : World) (K : PySem.W.Frag) (mg : Str → Option Value) (base : Heap) (k : Nat) (f : Addr) (ps : List Str) (sp : Sp) : Prop := ∃ fd, Binds K fd ps [] ∧ FnOk P w K mg base CX0 k f fd ps sp
theorem OkF.mono {P : Program} {w : World} {K : PySem.W.Frag} {mg : Str → Option Value} {base : Heap} {j k : Nat} {f : Addr} {ps : List Str} {sp : Sp} (h : OkF P w K mg base j f ps sp) (hjk : j ≤ k) : OkF P w K mg base k f ps sp := by
  obtain ⟨fd, b, F⟩ := h
  exact ⟨fd, b, F.mono hjk⟩
theorem okf_of {P : Program} {w : World} {K : PySem.W.Frag} {mg : Str → Option Value} {base : Heap} {x qual : Str} {st : Stmt} {f : Addr} {N ps : List Str} {k : Nat} {sp : Sp} (D : ∃ fd, FunD K x qual (defArgs st) (defBody st) (defScope st) [] [] f fd) (S : FnScope N ps (defScope st)) (len : ∀ vs H Q E, sp vs H Q E → vs.length = ps.length)
    (hb : ∀ (dV kV doc pm : Value) (an : Option Addr) (cdv ct : Value) (us : List Value), us.length = ps.length → dV = .none → bindArgs (PySem.W.fnOf x qual (defArgs st) (defBody st) (defScope st) dV kV doc pm an cdv ct) ⟨us, []⟩ = pure (ps.zip us))
    (hbody : ∀ (cdv : Value) (A : Around) (outer : List Env) (s : Shared) (H : Hp) (vs : List V) (Q : VK) (E : XK), Room k (A.deeper (envOfC qual (defScope st) s.heap.objs.size f cdv)) → sp vs H Q E →
      ∃ t, PSs (cxOf CX0 P w K mg base N qual (defScope st) f cdv A outer s H E).nox (defBody st) t ∧ t { nx := fun _ H' => Q .non H', rt := Q } (start N vs) H) : OkF P w K mg base (k + 1) f ps sp := by
  obtain ⟨fd, F⟩ := D
  refine ⟨fd, ?_, F.ok S len fun cdv A outer s H vs Q E hr h => ?_⟩
  · obtain ⟨oc, od, dV, kV, doc, pm, an, cdv, ct, osl, rfl, lk, hcd, hD, hK⟩ := F.ex
    rcases hD with ⟨_, rfl⟩ | ⟨z, _⟩
    · exact .all fun us hl => hb _ _ _ _ _ _ _ us hl rfl
    · exact absurd rfl z
  · obtain ⟨t, h1, h2⟩ := hbody cdv A outer s H vs Q E hr h
    exact ⟨t, h1.nox, h2⟩
/-- the class Scan behind the top -/
structure ScanK (K : PySem.W.Frag) (mg : Str → Option Value) (leaf C fi fc dp dg fo : Addr) : Prop where
  glob : mg "Scan" = some (.ref C)
  cls : Cls K C
  n1 : NoAttr K C "held_divisors"
  n2 : NoAttr K C "held_tree"
  n3 : NoAttr K C "class_total"
  n4 : NoAttr K C "node_total"
  maker : Mk K C fi
  initD : ∃ fd, FunD K "__init__" "Scan.__init__" (defArgs (inClass (top 54) 2)) (defBody (inClass (top 54) 2)) (defScope (inClass (top 54) 2)) [.ref leaf] [] fi fd
  call : StX.CallO K C fc
  callD : ∃ fd, FunD K "__call__" "Scan.__call__" (defArgs (inClass (top 54) 7)) (defBody (inClass (top 54) 7)) (defScope (inClass (top 54) 7)) [] [] fc fd
  directions : PropOf K C "directions" dp dg
  dirD : ∃ fd, FunD K "directions" "Scan.directions" (defArgs (inClass (top 54) 6)) (defBody (inClass (top 54) 6)) (defScope (inClass (top 54) 6)) [] [] dg fd
  order : Meth K C "order" fo
  ordD : ∃ fd, FunD K "order" "Scan.order" (defArgs (inClass (top 54) 10)) (defBody (inClass (top 54) 10)) (defScope (inClass (top 54) 10)) [] [] fo fd
section
variable {X : Cx} {k : Nat} {C f p g : Addr} {ps : List Str} {sp : Sp} {m : Str} {o e : Expr} {es : List Expr} {ta tf : TE} {t : TA} {apos pos : Pos}
theorem pe_dom {pl : Sem Bool} (h : OkF X.prog X.w X.K X.mg X.base k f ps sp) (he : PE X o ta) (c : Cls X.K C) (hm : Meth X.K C m f) (hr : Room k X.A) (ha : PA X (e :: es) t)
    (hst : starEach (e :: es) X.env = (false, eval e X.env) :: starEach es X.env := by rfl) (hpl : (backTo pos (starEach es X.env)).any (·.1) = false := by rfl)
    (ht : eval (.Call (.Attribute o m apos) (e :: es) [] pos) X.env = (do
      let ov ← eval o X.env
      standAt apos.atName
      let (f, first) ← holding [ov] (getMethod ov m pl)
      callWith pos f first (backTo pos (starEach (e :: es) X.env)) (backToKw pos (keywordEach [] X.env))) := by rfl) : PE X (.Call (.Attribute o m apos) (e :: es) [] pos) (tMeth C m sp [] E0 ta t) := by
  obtain ⟨fd, b, F⟩ := h
  exact pe_meth he c hm F hr b .nil pass0 ha hst hpl ht
theorem pe_doP (h : OkF X.prog X.w X.K X.mg X.base k g ps sp) (he : PE X e ta) (c : Cls X.K C) (hp : PropOf X.K C m p g) (hr : Room (k + 1) X.A) (hab : attributeBase e m X.env (eval e X.env) = eval e X.env) : PE X (.Attribute e m pos) (tProp C sp [] E0 ta) := by
  obtain ⟨fd, b, F⟩ := h
  exact pe_prop he c hp F hr b .nil pass0 hab
theorem pe_doC {fe : Expr} (h : OkF X.prog X.w X.K X.mg X.base k g ps sp) (hf : PE X fe tf) (c : StX.CallO X.K C g) (hr : Room k X.A) (ha : PA X (e :: es) t)
    (ht : eval (.Call fe (e :: es) [] pos) X.env = (do callWith pos (← eval fe X.env) [] (backTo pos (starEach (e :: es) X.env)) (backToKw pos (keywordEach [] X.env))) := by rfl)
    (he : starEach (e :: es) X.env = (false, eval e X.env) :: starEach es X.env := by rfl) (hpl : (backTo pos (starEach es X.env)).any (·.1) = false := by rfl) : PE X (.Call fe (e :: es) [] pos) (StX.tCallO X C (fun vs H Q E => sp (vs ++ []) H Q E) E0 tf t) := by
  obtain ⟨fd, b, F⟩ := h
  exact StX.pe_callO hf c (F.raw b .nil) hr pass0 ha ht he hpl
theorem pe_doN {x : Str} {ps' : Pos} (h : OkF X.prog X.w X.K X.mg X.base k f ps sp) (M : Mk X.K C f) (hr : Room (k + 1) X.A) (hg : Gl X x) (hm : X.mg x = some (.ref C)) (ha : PA X (e :: es) t) (hdb : (x == ("__debug__" : Str)) = false := by decide)
    (he : starEach (e :: es) X.env = (false, eval e X.env) :: starEach es X.env := by rfl) (hpl : (backTo pos (starEach es X.env)).any (·.1) = false := by rfl) : PE X (.Call (.Name x ps') (e :: es) [] pos) (tMake C sp [] E0 t) := by
  obtain ⟨fd, b, F⟩ := h
  exact pe_make M F hr hg hm b .nil pass0 ha hdb he hpl
end
section
variable {σ : L2.St} {H : Hp} {ta tb : TE} {tA : TA} {vs : List V}
theorem ex_call {sp : Sp} {Pz : V → Hp → Prop} (h : EvA tA σ H vs) (hs : ∀ H1, Ex H H1 → ∀ (Q : VK) (E : XK), (∀ v H2, Ex H1 H2 → Pz v H2 → Q v H2) → sp (vs ++ []) H1 Q E) : EvX (tCall sp [] E0 tA) σ H Pz := fun H1 e Q q => h H1 e _ fun H2 e2 => hs H2 (e.trans e2) _ _ fun v H3 e3 hv => q v H3 (e2.trans e3) hv
theorem ev_i0X {f : Int → Int → V} {j : Int} {Pi : Int → Prop} {r : V} (ha : EvX ta σ H (fun v _ => ∃ i, v = .int i ∧ Pi i)) (hb : Ev tb σ H (.int j)) (hr : ∀ i, Pi i → f i j = r) : Ev (tOp (rI0 f) ta tb) σ H r := fun H1 e Q q => ha H1 e _ fun v H2 e2 ⟨i, hv, hi⟩ => hb H2 (e.trans e2) _ fun H3 e3 => ⟨i, j, hv, rfl, by rw [hr i hi]; exact q H3 (e2.trans e3)⟩
end
/-- divisors and tree go together -/
structure ScanOk (ds : List Int) (T : Tr) : Prop where
  div : DivOk ds
  tree : ∃ n : Nat, prodP ds = (n : Nat) ∧ TrOk ds.length n T
  ht : T.ht ≤ 2
/-- a Scan stands at v -/
def ScanAt (C : Addr) (H : Hp) (v : V) (ds : List Int) (T : Tr) : Prop := ∃ a dx fs x1 x2, v = .ref a ∧ H a = some (.ins C dx fs) ∧ fs.lookup (Str.ofString "held_divisors") = some x1 ∧ Pl H x1 ds ∧ fs.lookup (Str.ofString "held_tree") = some x2 ∧ TrAt H T x2 ∧ fs.lookup (Str.ofString "order") = none
theorem ScanAt.ex {C : Addr} {H H' : Hp} (e : Ex H H') {v : V} {ds : List Int} {T : Tr} (h : ScanAt C H v ds T) : ScanAt C H' v ds T := by
  obtain ⟨a, dx, fs, x1, x2, h0, h1, h2, h3, h4, h5, h6⟩ := h
  exact ⟨a, dx, fs, x1, x2, h0, e a _ h1, h2, h3.tx (tx_of e), h4, h5.tx (tx_of e), h6⟩
section
variable {P : Program} {w : World} {K : PySem.W.Frag} {mg : Str → Option Value} {base : Heap} {leaf C fi fc dp dg fo : Addr} {σ : L2.St} {H : Hp} {te : TE} {ta : TA} {v : V} {ds : List Int} {T : Tr}
/-- scan.held_divisors, scan.held_tree -/
theorem ex_div (S : ScanK K mg leaf C fi fc dp dg fo) (h : Ev te σ H v) (hs : ScanAt C H v ds T) : ∃ x1, Pl H x1 ds ∧ Ev (tFld K te "held_divisors") σ H x1 := by
  obtain ⟨a, dx, fs, x1, x2, rfl, h1, h2, h3, h4, h5, h6⟩ := hs
  exact ⟨x1, h3, fun H1 e Q q => h H1 e _ fun H2 e2 => ⟨a, C, dx, fs, x1, rfl, (e.trans e2) a _ h1, S.cls, S.n1, h2, q H2 e2⟩⟩
theorem ex_tree (S : ScanK K mg leaf C fi fc dp dg fo) (h : Ev te σ H v) (hs : ScanAt C H v ds T) : ∃ x2, TrAt H T x2 ∧ Ev (tFld K te "held_tree") σ H x2 := by
  obtain ⟨a, dx, fs, x1, x2, rfl, h1, h2, h3, h4, h5, h6⟩ := hs
  exact ⟨x2, h5, fun H1 e Q q => h H1 e _ fun H2 e2 => ⟨a, C, dx, fs, x2, rfl, (e.trans e2) a _ h1, S.cls, S.n2, h4, q H2 e2⟩⟩
/-! ### directions -/
abbrev sScanDirections : Stmt := inClass (top 54) 6
theorem scScanDirections : FnScope ["self"] ["self"] (defScope sScanDirections) := ⟨rfl, rfl, rfl, by decide +kernel, rfl, by decide +kernel, by decide +kernel⟩
def spDirections (C : Addr) : Sp := fun vs H Q _ => ∃ v ds T, vs = [v] ∧ ScanAt C H v ds T ∧ ∀ H', Ex H H' → Q (.int (ds.length : Nat)) H'
theorem ok_directions (B : Bt mg) (S : ScanK K mg leaf C fi fc dp dg fo) : OkF P w K mg base 1 dg ["self"] (spDirections C) := by
  refine okf_of S.dirD scScanDirections (fun vs H Q E h => by obtain ⟨v, ds, T, rfl, _⟩ := h; rfl) (fun dV _ _ _ _ _ _ us hl e => by subst e; exact match us, hl with | [_], _ => rfl) fun cdv A outer s H vs Q E hr h => ?_
  obtain ⟨v, ds, T, rfl, hs, k⟩ := h
  refine ⟨_, (pss_one (ps_ret (pe_callB call_len_seq rfl B.len PySem.boot_len (pa_cons (pe_fld (pv 0) rfl) pa_nil)))), ?_⟩
  obtain ⟨x1, hx, he⟩ := ex_div (te := tVar 0) (σ := start ["self"] [v]) S (ev_var rfl) hs
  exact s_ret (ev_is (ev_lenT he hx) (by rw [List.length_map])) k
theorem ev_directions (h : Ev te σ H v) (hs : ScanAt C H v ds T) : Ev (tProp C (spDirections C) [] E0 te) σ H (.int (ds.length : Nat)) := fun H1 e Q q => h H1 e _ fun H2 e2 => by
  obtain ⟨a, dx, fs, x1, x2, rfl, h1, h2, h3, h4, h5, h6⟩ := id hs
  exact ⟨a, dx, fs, rfl, (e.trans e2) a _ h1, _, ds, T, rfl, hs.ex (e.trans e2), fun H3 e3 => q H3 (e2.trans e3)⟩
/-! ### scan(one, other) -/
abbrev sScanCall : Stmt := inClass (top 54) 7
theorem scScanCall : FnScope ["self", "one", "other"] ["self", "one", "other"] (defScope sScanCall) := ⟨rfl, rfl, rfl, by decide +kernel, rfl, by decide +kernel, by decide +kernel⟩
def spScanCall (C : Addr) : Sp := fun vs H Q _ => ∃ v x y ds T p q, vs = [v, x, y] ∧ ScanAt C H v ds T ∧ ScanOk ds T ∧ Pl H x p ∧ Pl H y q ∧ PlaceOk ds p ∧ PlaceOk ds q ∧ ∀ H', Ex H H' → Q (.bl (before T ds p q)) H'
theorem ok_scan_call (B : Bt mg) (S : ScanK K mg leaf C fi fc dp dg fo) (h_need_place : Ok P w K mg base 3 "need_place" ["value", "many"] spNeedPlace) (h_sign_of : Ok P w K mg base 3 "sign_of" ["tree", "divisors", "one", "other"] spSignOf) : OkF P w K mg base 4 fc ["self", "one", "other"] (spScanCall C) := by
  refine okf_of S.callD scScanCall (fun vs H Q E h => by obtain ⟨v, x, y, ds, T, p, q, rfl, _⟩ := h; rfl) (fun dV _ _ _ _ _ _ us hl e => by subst e; exact match us, hl with | [_, _, _], _ => rfl) fun cdv A outer s H vs Q E hr h => ?_
  obtain ⟨v, x, y, ds, T, p, q, rfl, hs, ho, hx, hy, hp, hq, k⟩ := h
  refine ⟨_, (pss_cons (ps_expr (pe_do h_need_place hr rfl (pa_cons (pv 1) (pa_cons (pe_callB call_len_seq rfl B.len PySem.boot_len (pa_cons (pe_fld (pv 0) rfl) pa_nil)) pa_nil))))
      (pss_cons (ps_expr (pe_do h_need_place hr rfl (pa_cons (pv 2) (pa_cons (pe_callB call_len_seq rfl B.len PySem.boot_len (pa_cons (pe_fld (pv 0) rfl) pa_nil)) pa_nil))))
      (pss_one (ps_ret (pe_cmpR op_lt (pe_do h_sign_of hr rfl (pa_cons (pe_fld (pv 0) rfl) (pa_cons (pe_fld (pv 0) rfl) (pa_cons (pv 1) (pa_cons (pv 2) pa_nil))))) pe_int (nomark _)))))), ?_⟩
  have d3 := ho.div.three
  have dv : ∀ {H1 : Hp}, Ex H H1 → ∃ x1, Pl H1 x1 ds ∧ Ev (tFld K (tVar 0) "held_divisors") (start ["self", "one", "other"] [v, x, y]) H1 x1 := fun e => ex_div S (ev_var rfl) (hs.ex e)
  have nd : ∀ {H1 : Hp}, Ex H H1 → Ev (tCB (rLenS K) (tCons (tFld K (tVar 0) "held_divisors") tNil)) (start ["self", "one", "other"] [v, x, y]) H1 (.int (ds.length : Nat)) := fun e => by
    obtain ⟨x1, h1, h2⟩ := dv e
    exact ev_is (ev_lenT h2 h1) (by rw [List.length_map])
  refine q_drop (ev_need_place (ea2 (ev_var rfl) (nd (Ex.refl _))) hx (by rw [hp.len]) (by rw [hp.len]; omega)) fun H1 e1 => ?_
  refine q_drop (ev_need_place (ea2 (ev_var rfl) (nd e1)) (hy.tx (tx_of e1)) (by rw [hq.len]) (by rw [hq.len]; omega)) fun H2 e2 => ?_
  have e12 := e1.trans e2
  obtain ⟨x1, h1, h2⟩ := dv e12
  obtain ⟨x2, h3, h4⟩ := ex_tree (te := tVar 0) (σ := start ["self", "one", "other"] [v, x, y]) S (ev_var rfl) (hs.ex e12)
  obtain ⟨n, hn, ht⟩ := ho.tree
  have e4 : EvA (tCons (tFld K (tVar 0) "held_tree") (tCons (tFld K (tVar 0) "held_divisors") (tCons (tVar 1) (tCons (tVar 2) tNil)))) (start ["self", "one", "other"] [v, x, y]) H2 [x2, x1, x, y] := fun H3 e3 Q3 q3 => h4 H3 e3 _ fun H4 e4 => h2 H4 (e3.trans e4) _ fun H5 e5 => ⟨_, rfl, _, rfl, q3 H5 (e4.trans e5)⟩
  have z : Ev (tOp (rI0 fun i j => .bl (decide (i < j))) (tCall spSignOf [] E0 (tCons (tFld K (tVar 0) "held_tree") (tCons (tFld K (tVar 0) "held_divisors") (tCons (tVar 1) (tCons (tVar 2) tNil))))) (tC (.int 0))) (start ["self", "one", "other"] [v, x, y]) H2 (.bl (before T ds p q)) :=
    ev_i0X (f := fun i j => V.bl (decide (i < j))) (j := 0) (Pi := fun s => decide (s < 0) = before T ds p q) (ex_call e4 fun H3 e3 Q3 E3 q3 => ⟨x2, x1, x, y, T, ds, p, q, n, rfl, h3.tx (tx_of e3), h1.tx (tx_of e3), hx.tx (tx_of (e12.trans e3)), hy.tx (tx_of (e12.trans e3)), ho.div, hn, ht, by have := ho.ht; omega, hp, hq, fun s H5 e5 hse => q3 _ H5 e5 ⟨s, rfl, hse⟩⟩) ev_c fun i hi => by rw [← hi]
  exact s_ret z fun H3 e3 => k H3 (e12.trans e3)
theorem ev_scan_call {X : Cx} {x y : V} {p q : List Int} (h : Ev te σ H v) (h2 : EvA ta σ H [x, y]) (hs : ScanAt C H v ds T) (ho : ScanOk ds T) (hx : Pl H x p) (hy : Pl H y q) (hp : PlaceOk ds p) (hq : PlaceOk ds q) :
    Ev (StX.tCallO X C (fun vs H Q E => spScanCall C (vs ++ []) H Q E) E0 te ta) σ H (.bl (before T ds p q)) := fun H1 e Q k => h H1 e _ fun H2 e2 => by
  obtain ⟨a, dx, fs, x1, x2, rfl, g1, g2, g3, g4, g5, g6⟩ := id hs
  exact ⟨a, rfl, h2 H2 (e.trans e2) _ fun H3 e3 => ⟨.inr ⟨dx, fs, ((e.trans e2).trans e3) a _ g1⟩, _, x, y, ds, T, p, q, rfl, hs.ex ((e.trans e2).trans e3), ho, hx.tx (tx_of ((e.trans e2).trans e3)), hy.tx (tx_of ((e.trans e2).trans e3)), hp, hq, fun H4 e4 => k H4 ((e2.trans e3).trans e4)⟩⟩
end
end Lk


/-! Lookscan: the places of a box. -/
namespace Lk
def cellsR : List Nat → List (List Int)
  | [] => [[]]
  | s :: ss => (List.range' 0 s).flatMap fun i => (cellsR ss).map fun c => ((i : Nat) : Int) :: c
theorem flatMap_nil_of {α β : Type} {l : List α} {f : α → List β} (h : ∀ x ∈ l, f x = []) : l.flatMap f = [] := List.flatMap_eq_nil_iff.mpr h
theorem flatMap_one {α β : Type} (l : List α) (f : α → β) : l.flatMap (fun x => [f x]) = l.map f := by
  induction l with
  | nil => rfl
  | cons a l ih => rw [List.flatMap_cons, ih]; rfl
theorem prod_pos1 (x : Int) : prodP [x] = x := by unfold prodP; simp
theorem prod_pos2 (x y : Int) : prodP [x, y] = x * y := by unfold prodP; simp
theorem prod_pos3 (x y z : Int) : prodP [x, y, z] = x * y * z := by unfold prodP; simp
theorem cellsOf_eq {b : List Int} (h : BoxOk b) : cellsOf b = cellsR (b.map Int.toNat) := by
  have h1 := h.one
  have h3 := h.three
  have he := h.each
  match b, h1, h3, he with
  | [x], _, _, he =>
    have hx := (he x (by simp)).1
    unfold cellsOf enum3 sidesOf
    rw [prod_pos1]
    by_cases hp : 0 < x
    · rw [if_pos hp]
      simp [cellsR, List.range', Function.comp_def, flatMap_one]
    · have : x = 0 := by omega
      subst this
      simp [cellsR, List.range']
  | [x, y], _, _, he =>
    have hx := (he x (by simp)).1
    have hy := (he y (by simp)).1
    unfold cellsOf enum3 sidesOf
    rw [prod_pos2]
    by_cases hp : 0 < x * y
    · rw [if_pos hp]
      simp [cellsR, List.range', Function.comp_def, flatMap_one, List.map_flatMap]
    · rw [if_neg hp]
      have h0 : x = 0 ∨ y = 0 := by
        by_cases h1 : x = 0
        · exact .inl h1
        · by_cases h2 : y = 0
          · exact .inr h2
          · exact absurd (Int.mul_pos (by omega) (by omega)) hp
      rcases h0 with h0 | h0 <;> subst h0
      · simp [cellsR, List.range']
      · simp [cellsR, List.range']
  | [x, y, z], _, _, he =>
    have hx := (he x (by simp)).1
    have hy := (he y (by simp)).1
    have hz := (he z (by simp)).1
    unfold cellsOf enum3 sidesOf
    rw [prod_pos3]
    by_cases hp : 0 < x * y * z
    · rw [if_pos hp]
      simp [cellsR, Function.comp_def, flatMap_one, List.map_flatMap]
    · rw [if_neg hp]
      have h0 : x = 0 ∨ y = 0 ∨ z = 0 := by
        by_cases h1 : x = 0
        · exact .inl h1
        · by_cases h2 : y = 0
          · exact .inr (.inl h2)
          · by_cases h3 : z = 0
            · exact .inr (.inr h3)
            · exact absurd (Int.mul_pos (Int.mul_pos (by omega) (by omega)) (by omega)) hp
      rcases h0 with h0 | h0 | h0 <;> subst h0
      · simp [cellsR, List.range']
      · simp [cellsR, List.range']
      · simp [cellsR, List.range']
theorem inB_cons (s a : Int) (b p : List Int) : inB (s :: b) (a :: p) = (decide (0 ≤ a) && decide (a < s) && inB b p) := by
  unfold inB
  rw [List.zipWith_cons_cons, List.all_cons]
  rfl
theorem mem_cellsR : ∀ (b c : List Int), (∀ i ∈ b, 0 ≤ i) → (c ∈ cellsR (b.map Int.toNat) ↔ c.length = b.length ∧ inB b c = true)
  | [], c, _ => by
    simp only [List.map_nil, cellsR, List.mem_singleton, List.length_nil]
    constructor
    · rintro rfl; exact ⟨rfl, rfl⟩
    · rintro ⟨h, _⟩; exact List.eq_nil_of_length_eq_zero h
  | s :: b, c, h => by
    have hs : 0 ≤ s := h s List.mem_cons_self
    have ih := fun c => mem_cellsR b c fun i hi => h i (List.mem_cons_of_mem _ hi)
    simp only [List.map_cons, cellsR, List.mem_flatMap, List.mem_map, List.length_cons]
    constructor
    · rintro ⟨i, hi, d, hd, rfl⟩
      obtain ⟨h1, h2⟩ := (ih d).mp hd
      have := (List.mem_range'_1.mp hi).2
      refine ⟨by simp [h1], ?_⟩
      rw [inB_cons, h2, decide_eq_true (by omega), decide_eq_true (by omega)]
      rfl
    · rintro ⟨h1, h2⟩
      cases c with
      | nil => simp at h1
      | cons a c =>
        rw [inB_cons] at h2
        simp only [Bool.and_eq_true, decide_eq_true_eq] at h2
        obtain ⟨⟨h3, h4⟩, h5⟩ := h2
        refine ⟨a.toNat, List.mem_range'_1.mpr ⟨by omega, by omega⟩, c, (ih c).mpr ⟨by simpa using h1, h5⟩, ?_⟩
        rw [Int.toNat_of_nonneg h3]
theorem nodup_cellsR : ∀ ss : List Nat, (cellsR ss).Nodup
  | [] => by simp [cellsR]
  | s :: ss => by
    have ih := nodup_cellsR ss
    unfold cellsR
    rw [List.nodup_iff_pairwise_ne, List.pairwise_flatMap]
    refine ⟨fun i _ => ?_, ?_⟩
    · rw [List.pairwise_map]
      exact (List.nodup_iff_pairwise_ne.mp ih).imp fun h z => h (List.cons.inj z).2
    · refine (List.pairwise_lt_range' (s := 0) (n := s)).imp fun {a b} hab x hx y hy z => ?_
      obtain ⟨c, _, rfl⟩ := List.mem_map.mp hx
      obtain ⟨d, _, rfl⟩ := List.mem_map.mp hy
      have := (List.cons.inj z).1
      omega
theorem mem_cells {b c : List Int} (h : BoxOk b) : c ∈ cellsOf b ↔ c.length = b.length ∧ inB b c = true := by
  rw [cellsOf_eq h]
  exact mem_cellsR b c fun i hi => (h.each i hi).1
theorem nodup_cells {b : List Int} (h : BoxOk b) : (cellsOf b).Nodup := by
  rw [cellsOf_eq h]
  exact nodup_cellsR _
theorem inB_bd : ∀ {b c : List Int}, c.length = b.length → inB b c = true → (∀ i ∈ b, i ≤ 1000) → ∀ i ∈ c, 0 ≤ i ∧ i < 1000
  | [], [], _, _, _, i, hi => by cases hi
  | [], _ :: _, h, _, _, _, _ => by simp at h
  | _ :: _, [], h, _, _, _, _ => by simp at h
  | s :: b, a :: c, hl, h, hb, i, hi => by
    rw [inB_cons] at h
    simp only [Bool.and_eq_true, decide_eq_true_eq] at h
    obtain ⟨⟨h3, h4⟩, h5⟩ := h
    rcases List.mem_cons.mp hi with rfl | hi
    · have := hb s List.mem_cons_self
      exact ⟨h3, by omega⟩
    · exact inB_bd (by simpa using hl) h5 (fun j hj => hb j (List.mem_cons_of_mem _ hj)) i hi
theorem cell_ok {b c ds : List Int} (h : BoxOk b) (hd : b.length = ds.length) (hc : c ∈ cellsOf b) : PlaceOk ds c := by
  obtain ⟨h1, h2⟩ := (mem_cells h).mp hc
  refine ⟨by rw [h1, hd], fun i hi => ?_⟩
  have := inB_bd h1 h2 (fun j hj => (h.each j hj).2) i hi
  exact ⟨by omega, by omega⟩
theorem len_cellsR (ss : List Nat) : (cellsR ss).length = ss.foldr (fun s a => s * a) 1 := by
  induction ss with
  | nil => rfl
  | cons s ss ih =>
    unfold cellsR
    rw [List.length_flatMap]
    simp only [List.length_map]
    rw [List.foldr_cons, ← ih]
    have : ∀ (l : List Nat) (n : Nat), (l.map fun _ => n).sum = l.length * n := fun l n => by
      induction l with
      | nil => simp
      | cons a l ih2 => simp [ih2, Nat.add_mul]; omega
    rw [this]
    simp
theorem len_cells {b : List Int} (h : BoxOk b) : (cellsOf b).length ≤ 2000 := by
  rw [cellsOf_eq h, len_cellsR]
  have h1 := h.one
  have h3 := h.three
  have he := h.each
  have hf := h.few
  match b, h1, h3, he, hf with
  | [x], _, _, he, hf =>
    rw [prod_pos1] at hf
    simp only [List.map_cons, List.map_nil, List.foldr_cons, List.foldr_nil]
    omega
  | [x, y], _, _, he, hf =>
    rw [prod_pos2] at hf
    have hx := (he x (by simp)).1
    have hy := (he y (by simp)).1
    simp only [List.map_cons, List.map_nil, List.foldr_cons, List.foldr_nil, Nat.mul_one]
    have : ((x.toNat * y.toNat : Nat) : Int) = x * y := by rw [Int.natCast_mul, Int.toNat_of_nonneg hx, Int.toNat_of_nonneg hy]
    omega
  | [x, y, z], _, _, he, hf =>
    rw [prod_pos3] at hf
    have hx := (he x (by simp)).1
    have hy := (he y (by simp)).1
    have hz := (he z (by simp)).1
    simp only [List.map_cons, List.map_nil, List.foldr_cons, List.foldr_nil, Nat.mul_one]
    have : ((x.toNat * (y.toNat * z.toNat) : Nat) : Int) = x * y * z := by rw [Int.natCast_mul, Int.natCast_mul, Int.toNat_of_nonneg hx, Int.toNat_of_nonneg hy, Int.toNat_of_nonneg hz, Int.mul_assoc]
    omega
end Lk

/-! Lookscan: Scan.order, Scan.__init__. -/
namespace Lk
open PySem PySem.Spec PyProof.Rows L2 Evl
/-- [e for x in g], g a generator that walks r -/
theorem el_lg {wi : TGr} {σ : L2.St} {H : Hp} {te : TE} {j : Nat} {r : List (List Int)} (hwi : ∀ H1, Ex H H1 → ∀ cont : List (List Int) → Hp → Prop, (∀ H2, Ex H1 H2 → cont r H2) → wi σ H1 cont) (R : List Int → V → Hp → Prop) (hR : ∀ c v H H', Tx H H' → R c v H → R c v H')
    (turn : ∀ c ∈ r, ∀ x H1, Ex H H1 → Pl H1 x c → EvX te ((wipe σ [j]).set j (some x)) H1 (fun v H2 => R c v H2)) (hz : r.length ≤ 100000) : EvLs (tLg wi (gName j) te [j]) σ H (fun ys H2 => Paired (fun y c => R c y H2) ys r) := fun H0 e Q q => hwi H0 e _ fun H1 e1 => by
  intro D hD
  refine ⟨fun rest H2 => ∃ dn ys, dn ++ rest = r ∧ Ex H1 H2 ∧ H2 D = some (.lst ys) ∧ Paired (fun y c => R c y H2) ys dn, ⟨[], [], rfl, Ex.new hD, upd_same, .nil⟩, ?_, ?_⟩
  · rintro H2 H3 ⟨dn, ys, hr, e2, hy, hp⟩ e3
    rw [List.append_nil] at hr
    subst hr
    exact q D ys H3 (fresh_back e1 hD) (e1.trans (e2.trans e3)) (e3 D _ hy) (Paired.mapP hp fun _ _ z => hR _ _ _ _ (tx_of e3) z)
  · rintro c cs H2 ⟨dn, ys, hr, e2, hy, hp⟩ x H3 e3 hx
    refine ⟨wipe1, ?_⟩
    have hc : c ∈ r := by rw [← hr]; simp
    refine turn c hc x H3 (((e.trans e1).trans e2).trans e3) hx H3 (Ex.refl _) _ fun v H4 e4 hv => ?_
    have h4 := e4 D _ (e3 D _ hy)
    have t4 := (tx_of (e3.trans e4)).trans (Tx.lst (zs := ys ++ [v]) h4)
    refine ⟨ys, h4, ?_, fun b o hb ho => ?_, dn ++ [c], ys ++ [v], by rw [← hr]; simp, ((e2.trans e3).trans e4).mut hD, upd_same, ?_⟩
    · have h1 := hp.length
      have h2 : dn.length ≤ r.length := by rw [← hr]; simp
      exact sz_lt (by have : r.length = dn.length + (c :: cs).length := by rw [← hr]; simp
                      simp at this; omega)
    · rw [upd_ne hb]; exact e4 b o ho
    · exact paired_append (Paired.mapP hp fun _ _ z => hR _ _ _ _ t4 z) (.cons (hR _ _ _ _ (Tx.lst h4) hv) .nil)
/-- the places of the box in the order of the scan -/
structure OrderOk (T : Tr) (ds b : List Int) (cs : List (List Int)) : Prop where
  perm : cs.Perm (cellsOf b)
  sorted : cs.Pairwise fun p q => ¬ pathOf T ds q < pathOf T ds p
theorem order_of {T : Tr} {ds b : List Int} {bs : List (List Int × List Int)} (h : bs = ((cellsOf b).map fun c => (pathOf T ds c, c)).mergeSort dataP) : OrderOk T ds b (bs.map (·.2)) := by
  have hp := List.mergeSort_perm ((cellsOf b).map fun c => (pathOf T ds c, c)) dataP
  rw [← h] at hp
  refine ⟨?_, ?_⟩
  · have z := hp.map (fun x : List Int × List Int => x.2)
    rw [List.map_map] at z
    have : (cellsOf b).map ((fun x : List Int × List Int => x.2) ∘ fun c => (pathOf T ds c, c)) = cellsOf b := by simp [Function.comp_def]
    rw [this] at z
    exact z
  · have hs := sorted_pairs ((cellsOf b).map fun c => (pathOf T ds c, c))
    rw [← h] at hs
    rw [List.pairwise_map]
    have hm : ∀ x ∈ bs, x.1 = pathOf T ds x.2 := fun x hx => by
      obtain ⟨c, _, rfl⟩ := List.mem_map.mp (hp.mem_iff.mp hx)
      rfl
    refine List.Pairwise.imp_of_mem (fun {x y} hx hy hxy => ?_) hs
    rw [← hm x hx, ← hm y hy]
    exact hxy
section
variable {P : Program} {w : World} {K : PySem.W.Frag} {mg : Str → Option Value} {base : Heap} {leaf C fi fc dp dg fo : Addr} {σ : L2.St} {H : Hp} {te : TE} {ta : TA} {v : V} {ds : List Int} {T : Tr}
abbrev sScanOrder : Stmt := inClass (top 54) 10
theorem scScanOrder : FnScope ["self", "box", "pairs", "cell", "path"] ["self", "box"] (defScope sScanOrder) := ⟨rfl, rfl, rfl, by decide +kernel, rfl, by decide +kernel, by decide +kernel⟩
def spOrder (C : Addr) : Sp := fun vs H Q _ => ∃ v x ds T b, vs = [v, x] ∧ ScanAt C H v ds T ∧ ScanOk ds T ∧ Pl H x b ∧ BoxOk b ∧ b.length = ds.length ∧ ∀ D ys cs H', H D = none → Ex H H' → H' D = some (.lst ys) → Paired (fun y c => Pl H' y c) ys cs → OrderOk T ds b cs → Q (.ref D) H'
theorem ok_order (B : Bt mg) (S : ScanK K mg leaf C fi fc dp dg fo) (h_need_cells : Ok P w K mg base 6 "need_cells" ["box", "many"] spNeedCells) (h_cells : OkG P w K mg base 5 "cells" ["box"] spCells) (h_path_of : Ok P w K mg base 6 "path_of" ["tree", "divisors", "place"] spPathOf) : OkF P w K mg base 7 fo ["self", "box"] (spOrder C) := by
  refine okf_of S.ordD scScanOrder (fun vs H Q E h => by obtain ⟨v, x, ds, T, b, rfl, _⟩ := h; rfl) (fun dV _ _ _ _ _ _ us hl e => by subst e; exact match us, hl with | [_, _], _ => rfl) fun cdv A outer s H vs Q E hr h => ?_
  obtain ⟨v, x, ds, T, b, rfl, hs, ho, hx, hb, hd, k⟩ := h
  refine ⟨_, (pss_cons (ps_expr (pe_do h_need_cells hr rfl (pa_cons (pv 1) (pa_cons (pe_callB call_len_seq rfl B.len PySem.boot_len (pa_cons (pe_fld (pv 0) rfl) pa_nil)) pa_nil))))
      (pss_cons (ps_set (i := 2) scScanOrder.nd rfl (Or.inl rfl) (pe_callB (cr_sortP (hu_in hr)) rfl B.sorted (by decide +kernel) (pa_cons (pe_lg (own := [("cell", 3)]) (g := (gName 3)) (te := (tTup (tCons (tCall spPathOf [] E0 (tCons (tFld K (tVar 0) "held_tree") (tCons (tFld K (tVar 0) "held_divisors") (tCons (tVar 3) tNil)))) (tCons (tVar 3) tNil)))) rfl scScanOrder.nd hr (pgk_call h_cells (hr.mono (by decide)) rfl (pa_cons (pv 1) pa_nil)) (blkOk_by (own := [("cell", 3)]) (N := ["self", "box", "pairs", "cell", "path"]) (sc := defScope sScanOrder) (by decide +kernel)) (by decide +kernel) (fun _ _ _ _ _ => (pg_name (i := 3) scScanOrder.nd rfl (Or.inl rfl) (Or.inr rfl))) (fun _ _ _ _ _ => (pe_tup (pa_cons (pe_do h_path_of hr rfl (pa_cons (pe_fld (pv 0) rfl) (pa_cons (pe_fld (pv 0) rfl) (pa_cons (pv 3) pa_nil)))) (pa_cons (pv 3) pa_nil))))) pa_nil)))
      (pss_one (ps_ret (pe_lc (own := [("path", 4), ("cell", 3)]) (g := (gTup K 2 (gCons (gName 4) (gCons (gName 3) gNil)))) (tt := tYes) (te := (tVar 3)) rfl scScanOrder.nd (pi_list (pv 2)) (blkOk_by (own := [("path", 4), ("cell", 3)]) (N := ["self", "box", "pairs", "cell", "path"]) (sc := defScope sScanOrder) (by decide +kernel)) (fun _ _ _ _ _ => (pg_tup rfl (pgs_cons (pg_name (i := 4) scScanOrder.nd rfl (Or.inl rfl) (Or.inr rfl)) (pgs_cons (pg_name (i := 3) scScanOrder.nd rfl (Or.inl rfl) (Or.inr rfl)) pgs_nil)))) (fun _ _ _ _ _ => pts_nil) (fun _ _ _ _ _ => (pv 3))))))), ?_⟩
  have d3 := ho.div.three
  obtain ⟨n, hn, ht⟩ := ho.tree
  have lc := len_cells hb
  refine q_drop (v := .non) (fun H1 e1 Q1 k1 => ?_) fun H1 e1 => ?_
  · obtain ⟨x1, h1, h2⟩ := ex_div (te := tVar 0) (σ := start ["self", "box", "pairs", "cell", "path"] [v, x]) S (ev_var rfl) (hs.ex e1)
    exact ex_call (Pz := fun v _ => v = .non) (ea2 (ev_var rfl) (ev_lenT h2 h1)) (fun H2 e2 Q2 E2 q2 => ⟨x, b, by rw [List.length_map, hd]; rfl, hx.tx (tx_of (e1.trans e2)), by omega, hb.sm, hb.few, fun H3 e3 => q2 _ H3 e3 rfl⟩) H1 (Ex.refl _) _ fun v H2 e2 hv => by subst hv; exact k1 H2 e2
  refine q_asgLs (Pz := fun ys H2 => Paired (Pr H2) ys (((cellsOf b).map fun c => (pathOf T ds c, c)).mergeSort dataP)) (fun H2 e2 Q2 k2 => ?_) fun D ys H2 hD e2 hy hp => ?_
  · have z : EvLs (tLg (fun σ H cont => (tCons (tVar 1) tNil) σ H fun vs H1 => ∃ r, spCells vs H1 r ∧ cont r H1) (gName 3) (tTup (tCons (tCall spPathOf [] E0 (tCons (tFld K (tVar 0) "held_tree") (tCons (tFld K (tVar 0) "held_divisors") (tCons (tVar 3) tNil)))) (tCons (tVar 3) tNil))) [3]) (start ["self", "box", "pairs", "cell", "path"] [v, x]) H2 (fun ys H3 => Paired (fun y c => Pr H3 y (pathOf T ds c, c)) ys (cellsOf b)) := by
      refine el_lg (r := cellsOf b) (fun H3 e3 cont hc => ⟨_, rfl, cellsOf b, ⟨x, b, rfl, hx.tx (tx_of ((e1.trans e2).trans e3)), hb, rfl⟩, hc H3 (Ex.refl _)⟩) (fun c y H3 => Pr H3 y (pathOf T ds c, c)) (fun c v H H' t z => z.tx t) (fun c hc u H3 e3 hu => ?_) (by omega)
      have e13 := (e1.trans e2).trans e3
      obtain ⟨x1, h1, h2⟩ := ex_div (te := tVar 0) (σ := (wipe (start ["self", "box", "pairs", "cell", "path"] [v, x]) [3]).set 3 (some u)) S (ev_var rfl) (hs.ex e13)
      obtain ⟨x2, h3, h4⟩ := ex_tree (te := tVar 0) (σ := (wipe (start ["self", "box", "pairs", "cell", "path"] [v, x]) [3]).set 3 (some u)) S (ev_var rfl) (hs.ex e13)
      have ea : EvA (tCons (tFld K (tVar 0) "held_tree") (tCons (tFld K (tVar 0) "held_divisors") (tCons (tVar 3) tNil))) ((wipe (start ["self", "box", "pairs", "cell", "path"] [v, x]) [3]).set 3 (some u)) H3 [x2, x1, u] := fun H4 e4 Q4 q4 => h4 H4 e4 _ fun H5 e5 => h2 H5 (e4.trans e5) _ fun H6 e6 => ⟨_, rfl, q4 H6 (e5.trans e6)⟩
      have pc : PlaceOk ds c := cell_ok hb hd hc
      have ec := ex_call (sp := spPathOf) (Pz := fun v H => Pl H v (pathOf T ds c)) ea fun H4 e4 Q4 E4 q4 => ⟨x2, x1, u, T, ds, c, n, rfl, h3.tx (tx_of e4), h1.tx (tx_of e4), hu.tx (tx_of e4), ho.div, hn, ht, by have := ho.ht; omega, pc, q4⟩
      intro H4 e4 Q4 q4
      refine ec H4 e4 _ fun y H5 e5 hy => ⟨_, rfl, sz_of (by simp), fun p hp => q4 _ _ (e5.trans (Ex.new hp)) ⟨y, u, ⟨p, rfl, upd_same⟩, hy.tx (Tx.new hp), hu.tx (tx_of ((e4.trans e5).trans (Ex.new hp)))⟩⟩
    refine z H2 (Ex.refl _) (fun x H1 => rSortP K [x] H1 Q2) fun D ys H3 hD e3 hy hp => ?_
    exact ⟨D, ys, _, rfl, SqL.of hy, paired_map hp, fun zs l hz hl => k2 l zs _ (fresh_back e3 hl) (e3.trans (Ex.new hl)) upd_same (Paired.mapP hz fun _ _ z => z.tx (Tx.new hl))⟩
  have e12 := e1.trans e2
  generalize hbs : ((cellsOf b).map fun c => (pathOf T ds c, c)).mergeSort dataP = bs at hp
  have ook := order_of hbs.symm
  have hlen : ys.length ≤ 2000 := by rw [hp.length, ← hbs, List.length_mergeSort, List.length_map]; exact lc
  refine ⟨_, rfl, D, rfl, ⟨ys, SqL.of hy⟩, ?_⟩
  refine lc_feeds (Q := Q) (fun _ => true) (fun i u H3 => ∀ c, bs[i]? = some c → Pl H3 u c.2) (feeds_list (SqL.of hy)) (Nat.lt_of_le_of_lt hlen (by decide)) (fun i v H H' t z c hc => (z c hc).tx t) ?_ ?_
  · intro i y H3 hi e3 hyi Q3 k3
    obtain ⟨c, hc, u1, u2, ⟨t, rfl, ht2⟩, hu1, hu2⟩ := paired_getL hp hyi
    refine ⟨t, _, rfl, SqT.of (e3 t _ ht2), rfl, _, _, rfl, _, _, rfl, rfl, k3 _ H3 (Ex.refl _) (wipe2 (by decide)) evB_yes fun _ H4 e4 Q4 k4 => ⟨_, rfl, k4 _ H4 (Ex.refl _) fun c' hc' => ?_⟩⟩
    rw [hc] at hc'
    cases hc'
    exact hu2.tx (tx_of (e3.trans e4))
  · intro D2 zs H3 hD2 e3 hz each
    rw [filter_yes] at each
    refine k D2 zs (bs.map (·.2)) H3 (fresh_back e12 hD2) (e12.trans e3) hz ?_ ook
    have hl : zs.length = ys.length := by rw [each.length, List.length_range]
    have hl2 := hp.length
    have key : ∀ (zs : List V) (ns : List Nat) (cs : List (List Int × List Int)), Paired (fun u i => ∀ c, bs[i]? = some c → Pl H3 u c.2) zs ns → ns.length = cs.length → (∀ k : Nat, ∀ i, ns[k]? = some i → bs[i]? = cs[k]?) → Paired (fun y c => Pl H3 y c) zs (cs.map (·.2)) := by
      intro zs ns cs h
      induction h generalizing cs with
      | nil =>
        intro hl _
        cases cs with
        | nil => exact .nil
        | cons => simp at hl
      | cons a b ih =>
        intro hl hk
        cases cs with
        | nil => simp at hl
        | cons z zs =>
          refine .cons (a z ?_) (ih zs (by simpa using hl) fun k i hi => ?_)
          · exact hk 0 _ rfl
          · exact hk (k + 1) i (by simpa using hi)
    refine key zs _ bs each (by rw [List.length_range]; exact hl2) fun k i hi => ?_
    have hk : k < ys.length := by
      have := (List.getElem?_eq_some_iff.mp hi).1
      rw [List.length_range] at this
      exact this
    rw [List.getElem?_range hk] at hi
    cases hi
    rfl
end
end Lk


/-! Lookscan: Scan.__init__, need_all, causes. -/
namespace Lk
open PySem PySem.Spec PyProof.Rows L2 Evl
theorem putF_len2 {f : Str} {v : V} : ∀ {fs : List (Str × V)} {n : Nat}, fs.length ≤ n → (putF f v fs).length ≤ n + 1
  | [], n, _ => by show 1 ≤ n + 1; omega
  | (g, x) :: r, n, h => by
    unfold putF
    simp only [List.length_cons] at h
    split
    · simp only [List.length_cons]; omega
    · have := putF_len2 (f := f) (v := v) (fs := r) (n := n - 1) (by omega)
      simp only [List.length_cons]; omega
theorem putF_small {f : Str} {v : V} {fs : List (Str × V)} (h : fs.length ≤ 900) : (putF f v fs).length < 1000 := by
  have := putF_len2 (f := f) (v := v) h
  omega
section
variable {P : Program} {w : World} {K : PySem.W.Frag} {mg : Str → Option Value} {base : Heap} {leaf C fi fc dp dg fo : Addr} {σ : L2.St} {H : Hp} {te : TE} {ta : TA} {v : V} {ds : List Int} {T : Tr}
abbrev sScanInit : Stmt := inClass (top 54) 2
theorem scScanInit : FnScope ["self", "divisors", "tree", "many"] ["self", "divisors", "tree"] (defScope sScanInit) := ⟨rfl, rfl, rfl, by decide +kernel, rfl, by decide +kernel, by decide +kernel⟩
def spInit (C : Addr) : Sp := fun vs H Q _ => ∃ x dx dv tv ds T, vs = [.ref x, dv, tv] ∧ H x = some (.ins C dx []) ∧ Pl H dv ds ∧ TrAt H T tv ∧ ScanOk ds T ∧ ∀ H' fs, ExB x H H' → H' x = some (.ins C dx fs) → fs.lookup (Str.ofString "held_divisors") = some dv → fs.lookup (Str.ofString "held_tree") = some tv → fs.lookup (Str.ofString "order") = none → Q .non H'
theorem ok_init (B : Bt mg) (S : ScanK K mg leaf C fi fc dp dg fo) (h_class_count : Ok P w K mg base 5 "class_count" ["divisors"] spClassCount) (h_is_tree : Ok P w K mg base 5 "is_tree" ["value", "directions", "many"] spIsTree) (h_node_count : Ok P w K mg base 5 "node_count" ["tree"] (spNodeCount 3)) : OkF P w K mg base 6 fi ["self", "divisors", "tree"] (spInit C) := by
  obtain ⟨fd, F⟩ := S.initD
  obtain ⟨es, hes, hbn⟩ := F.binds1 (ps := ["self", "divisors", "tree"]) 3 1 (by simp) rfl fun T kV doc pm an cdv ct us its h1 h2 => by
    match us, h1, its, h2 with
    | [_, _, _], _, [_], _ => exact ⟨_, rfl, rfl⟩
  cases hes
  refine ⟨fd, hbn, F.ok scScanInit (fun vs H Q E h => by obtain ⟨x, dx, dv, tv, ds, T, rfl, _⟩ := h; rfl) fun cdv A outer s H vs Q E hr h => ?_⟩
  suffices z : ∃ t, PSs (cxOf CX0 P w K mg base ["self", "divisors", "tree", "many"] "Scan.__init__" (defScope sScanInit) fi cdv A outer s H E).nox (defBody sScanInit) t ∧ t { nx := fun _ H' => Q .non H', rt := Q } (start ["self", "divisors", "tree", "many"] vs) H by
    obtain ⟨t, h1, h2⟩ := z
    exact ⟨t, h1.nox, h2⟩
  obtain ⟨x, dx, dv, tv, ds, T, rfl, hx, hd, ht, ho, k⟩ := h
  refine ⟨_, (pss_cons (ps_set (i := 3) scScanInit.nd rfl (Or.inl rfl) (pe_do h_class_count hr rfl (pa_cons (pv 1) pa_nil)))
      (pss_cons (ps_if (pt_not (pt_val (pe_do h_is_tree hr rfl (pa_cons (pv 2) (pa_cons (pe_callB call_len_seq rfl B.len PySem.boot_len (pa_cons (pv 1) pa_nil)) (pa_cons (pv 3) pa_nil)))))) (pss_one ps_never) pss_nil)
      (pss_cons (ps_fld (pv 0) (pv 1) rfl)
      (pss_cons (ps_fld (pv 0) (pv 2) rfl)
      (pss_cons (ps_fld (pv 0) (pv 3) rfl)
      (pss_one (ps_fld (pv 0) (pe_do h_node_count hr rfl (pa_cons (pv 2) pa_nil)) rfl))))))), ?_⟩
  have d1 := ho.div.one
  have d3 := ho.div.three
  obtain ⟨n, hn, hT⟩ := ho.tree
  have hn12 := ho.div.few
  have n1 : 1 ≤ n := by
    have z : ∀ (l : List Int) (a : Int), 1 ≤ a → (∀ d ∈ l, 1 ≤ d) → 1 ≤ l.foldl (fun a b => a * b) a := fun l => by
      induction l with
      | nil => intro a h _; exact h
      | cons d l ih =>
        intro a h hd
        refine ih (a * d) ?_ fun e he => hd e (List.mem_cons_of_mem _ he)
        have h1 := hd d List.mem_cons_self
        have : 1 * 1 ≤ a * d := Int.mul_le_mul h h1 (by decide) (by omega)
        omega
    have := z ds 1 (Int.le_refl _) fun d hd => (ho.div.pos d hd).1
    have e : prodP ds = ds.foldl (fun a b => a * b) 1 := rfl
    omega
  have hh := ho.ht
  refine q_asgX (Pz := fun v _ => v = .int (n : Nat)) (ex_call (ea1 (ev_var rfl)) fun H1 e1 Q1 E1 q1 => ⟨dv, ds, rfl, hd.tx (tx_of e1), ho.div, fun H2 e2 => q1 _ H2 e2 (by rw [hn])⟩) fun v H1 e1 hv => ?_
  subst hv
  refine q_when (b := false) (fun H2 e2 Q2 k2 => ?_) (fun z => by cases z) fun _ H2 e2 => ?_
  · have ea : EvA (tCons (tVar 2) (tCons (tCB (rLenS K) (tCons (tVar 1) tNil)) (tCons (tVar 3) tNil))) [some (.ref x), some dv, some tv, some (.int (n : Nat))] H1 [tv, .int (ds.length : Nat), .int (n : Nat)] := fun H3 e3 Q3 q3 => ⟨_, rfl, (ev_is (ev_lenT (ev_var rfl) (hd.tx (tx_of e1))) (by rw [List.length_map])) H3 e3 _ fun H4 e4 => ⟨_, rfl, q3 H4 e4⟩⟩
    exact ex_call (sp := spIsTree) (Pz := fun v _ => v = .bl true) ea (fun H3 e3 Q3 E3 q3 => ⟨tv, T, ds.length, n, rfl, ht.tx (tx_of (e1.trans e3)), hT, hh, by omega, n1, by omega, fun H4 e4 => q3 _ H4 e4 rfl⟩) H2 e2 _ fun v H3 e3 hv => ⟨true, hv, k2 H3 e3⟩
  have e12 := e1.trans e2
  have hx2 := e12 x _ hx
  have f1 : ∀ {o : HO}, Tx H2 (upd H2 x o) := fun {o} a xs h => by
    rw [upd_ne (fun z => by rw [z, hx2] at h; cases h)]
    exact h
  refine ⟨_, rfl, _, rfl, x, C, dx, [], rfl, hx2, S.cls, S.n1, by decide, ?_⟩
  refine ⟨_, rfl, _, rfl, x, C, dx, _, rfl, upd_same, S.cls, S.n2, Nat.lt_of_le_of_lt (putF_len2 (Nat.le_refl 0)) (by decide), ?_⟩
  rw [upd_upd]
  refine ⟨_, rfl, _, rfl, x, C, dx, _, rfl, upd_same, S.cls, S.n3, Nat.lt_of_le_of_lt (putF_len2 (putF_len2 (Nat.le_refl 0))) (by decide), ?_⟩
  rw [upd_upd]
  refine ex_call (sp := spNodeCount 3) (Pz := fun v _ => ∃ m : Int, v = .int m) (tA := tCons (tVar 2) tNil) (vs := [tv]) (σ := [some (.ref x), some dv, some tv, some (.int (n : Nat))]) (ea1 (ev_var rfl)) (fun H3 e3 Q3 E3 q3 => ⟨tv, T, ds.length, n, rfl, ((ht.tx (tx_of e12)).tx f1).tx (tx_of e3), by omega, hT, n1, by omega, fun m H4 e4 => q3 _ H4 e4 ⟨m, rfl⟩⟩) _ (Ex.refl _) _ fun v H3 e3 ⟨m, hm⟩ => ?_
  refine ⟨_, rfl, x, C, dx, _, rfl, e3 x _ upd_same, S.cls, S.n4, Nat.lt_of_le_of_lt (putF_len2 (putF_len2 (putF_len2 (Nat.le_refl 0)))) (by decide), ?_⟩
  refine k _ _ (fun b o hb ho => ?_) upd_same (by rw [lookup_putF, if_neg (by decide), lookup_putF, if_neg (by decide), lookup_putF, if_neg (by decide), lookup_putF, if_pos rfl]) (by rw [lookup_putF, if_neg (by decide), lookup_putF, if_neg (by decide), lookup_putF, if_pos rfl]) (by rw [lookup_putF, if_neg (by decide), lookup_putF, if_neg (by decide), lookup_putF, if_neg (by decide), lookup_putF, if_neg (by decide)]; rfl)
  rw [upd_ne hb]
  refine e3 b o ?_
  rw [upd_ne hb]
  exact e12 b o ho
/-! ### need_all -/
abbrev sNeedAll : Stmt := top 36
theorem scNeedAll : FnScope ["scan", "looks", "box"] ["scan", "looks", "box"] (defScope sNeedAll) := ⟨rfl, rfl, rfl, by decide +kernel, rfl, by decide +kernel, by decide +kernel⟩
def spNeedAll (C : Addr) : Sp := fun vs H Q _ => ∃ v l x ds T ps b, vs = [v, l, x] ∧ ScanAt C H v ds T ∧ ScanOk ds T ∧ Ls H l ps ∧ LooksOk ds.length ps ∧ Pl H x b ∧ BoxOk b ∧ b.length = ds.length ∧ ∀ H', Ex H H' → Q .non H'
theorem ok_need_all (B : Bt mg) (S : ScanK K mg leaf C fi fc dp dg fo) (F : Df K mg "need_all" sNeedAll) (h_need_looks : Ok P w K mg base 4 "need_looks" ["looks", "directions"] spNeedLooks) (h_need_cells : Ok P w K mg base 4 "need_cells" ["box", "many"] spNeedCells) (h_directions : OkF P w K mg base 3 dg ["self"] (spDirections C)) : Ok P w K mg base 5 "need_all" ["scan", "looks", "box"] (spNeedAll C) := by
  refine ok_of F scNeedAll (fun vs H Q E h => by obtain ⟨v, l, x, ds, T, ps, b, rfl, _⟩ := h; rfl) (fun dV _ _ _ _ _ _ us hl e => by subst e; exact match us, hl with | [_, _, _], _ => rfl) fun f cdv A outer s H vs Q E hr h => ?_
  obtain ⟨v, l, x, ds, T, ps, b, rfl, hs, ho, hl, hps, hx, hb, hd, k⟩ := h
  refine ⟨_, (pss_cons (ps_expr (pe_do h_need_looks hr rfl (pa_cons (pv 1) (pa_cons (pe_doP h_directions (pv 0) S.cls S.directions hr rfl) pa_nil))))
      (pss_one (ps_expr (pe_do h_need_cells hr rfl (pa_cons (pv 2) (pa_cons (pe_doP h_directions (pv 0) S.cls S.directions hr rfl) pa_nil)))))), ?_⟩
  have d3 := ho.div.three
  refine q_drop (v := .non) (fun H1 e1 Q1 k1 => ?_) fun H1 e1 => ?_
  · exact ex_call (Pz := fun v _ => v = .non) (ea2 (ev_var rfl) (ev_directions (ev_var rfl) (hs.ex e1))) (fun H2 e2 Q2 E2 q2 => ⟨l, ps, ds.length, rfl, hl.ex (e1.trans e2), by omega, hps, fun H3 e3 => q2 _ H3 e3 rfl⟩) H1 (Ex.refl _) _ fun v H2 e2 hv => by subst hv; exact k1 H2 e2
  refine s_drop (v := .non) (fun H2 e2 Q1 k1 => ?_) fun H2 e2 => k H2 (e1.trans e2)
  exact ex_call (Pz := fun v _ => v = .non) (ea2 (ev_var rfl) (ev_directions (ev_var rfl) (hs.ex (e1.trans e2)))) (fun H3 e3 Q2 E2 q2 => ⟨x, b, by rw [hd]; rfl, hx.tx (tx_of ((e1.trans e2).trans e3)), by omega, hb.sm, hb.few, fun H4 e4 => q2 _ H4 e4 rfl⟩) H2 (Ex.refl _) _ fun v H3 e3 hv => by subst hv; exact k1 H3 e3
end
end Lk


/-! Lookscan: causes. -/
namespace Lk
open PySem PySem.Spec PyProof.Rows L2 Evl
/-- a place and a step -/
def Cz (H : Hp) (y : V) (q : List Int × Int) : Prop := ∃ z, Tp H y [z, .int q.2] ∧ Pl H z q.1
theorem Cz.tx {H H' : Hp} (e : Tx H H') {y : V} {q : List Int × Int} (h : Cz H y q) : Cz H' y q := by
  obtain ⟨z, h1, h2⟩ := h
  exact ⟨z, h1.tx e, h2.tx e⟩
def causeOf (T : Tr) (ds box cell look : List Int) : List (List Int × Int) :=
  (if inB box (addP cell look) && before T ds (addP cell look) cell then [(addP cell look, 1)] else []) ++ (if inB box (subP cell look) && before T ds (subP cell look) cell then [(subP cell look, 0)] else [])
def causesOf (T : Tr) (ds : List Int) (looks : List (List Int)) (box cell : List Int) : List (List Int × Int) := looks.flatMap (causeOf T ds box cell)
theorem len_add (p q : List Int) (h : p.length = q.length) : (addP p q).length = p.length := by unfold addP; simp [h]
theorem len_sub (p q : List Int) (h : p.length = q.length) : (subP p q).length = p.length := by unfold subP; simp [h]
theorem zip_bd {f : Int → Int → Int} {P Q R : Int → Prop} (h : ∀ a b, P a → Q b → R (f a b)) : ∀ {p q : List Int}, (∀ a ∈ p, P a) → (∀ b ∈ q, Q b) → ∀ c ∈ List.zipWith f p q, R c
  | [], _, _, _, c, hc => by simp at hc
  | _ :: _, [], _, _, c, hc => by simp at hc
  | a :: p, b :: q, hp, hq, c, hc => by
    rcases List.mem_cons.mp hc with rfl | hc
    · exact h a b (hp a List.mem_cons_self) (hq b List.mem_cons_self)
    · exact zip_bd h (fun x hx => hp x (List.mem_cons_of_mem _ hx)) (fun x hx => hq x (List.mem_cons_of_mem _ hx)) c hc
theorem add_ok {ds box cell look : List Int} (hb : BoxOk box) (hd : box.length = ds.length) (hc : cell ∈ cellsOf box) (hl : IsLook ds.length look) : PlaceOk ds (addP cell look) := by
  obtain ⟨h1, h2⟩ := (mem_cells hb).mp hc
  have h3 := inB_bd h1 h2 fun j hj => (hb.each j hj).2
  refine ⟨by rw [len_add _ _ (by rw [h1, hd, hl.1]), h1, hd], zip_bd (P := fun a => 0 ≤ a ∧ a < 1000) (Q := fun b => -9 ≤ b ∧ b ≤ 9) (fun a b ha hb => ⟨by omega, by omega⟩) h3 hl.2.2⟩
theorem sub_ok {ds box cell look : List Int} (hb : BoxOk box) (hd : box.length = ds.length) (hc : cell ∈ cellsOf box) (hl : IsLook ds.length look) : PlaceOk ds (subP cell look) := by
  obtain ⟨h1, h2⟩ := (mem_cells hb).mp hc
  have h3 := inB_bd h1 h2 fun j hj => (hb.each j hj).2
  refine ⟨by rw [len_sub _ _ (by rw [h1, hd, hl.1]), h1, hd], zip_bd (P := fun a => 0 ≤ a ∧ a < 1000) (Q := fun b => -9 ≤ b ∧ b ≤ 9) (fun a b ha hb => ⟨by omega, by omega⟩) h3 hl.2.2⟩
theorem len_cause (T : Tr) (ds box cell look : List Int) : (causeOf T ds box cell look).length ≤ 2 := by
  unfold causeOf
  rw [List.length_append]
  split <;> split <;> simp
theorem len_causes (T : Tr) (ds box cell : List Int) : ∀ looks : List (List Int), (causesOf T ds looks box cell).length ≤ 2 * looks.length
  | [] => Nat.le_refl _
  | l :: ls => by
    have h1 := len_cause T ds box cell l
    have h2 := len_causes T ds box cell ls
    unfold causesOf at h2 ⊢
    rw [List.flatMap_cons, List.length_append, List.length_cons]
    omega
theorem causes_take (T : Tr) (ds box cell : List Int) (looks : List (List Int)) {i : Nat} {l : List Int} (h : looks[i]? = some l) : causesOf T ds (looks.take (i + 1)) box cell = causesOf T ds (looks.take i) box cell ++ causeOf T ds box cell l := by
  unfold causesOf
  rw [take_next _ h, List.flatMap_append]
  simp
section
variable {P : Program} {w : World} {K : PySem.W.Frag} {mg : Str → Option Value} {base : Heap} {leaf C fi fc dp dg fo : Addr}
abbrev sCauses : Stmt := top 34
theorem scCauses : FnScope ["scan", "looks", "box", "cell", "found", "look", "seen", "seer"] ["scan", "looks", "box", "cell"] (defScope sCauses) := ⟨rfl, rfl, rfl, by decide +kernel, rfl, by decide +kernel, by decide +kernel⟩
def spCauses (C : Addr) : Sp := fun vs H Q _ => ∃ v l x y ds T ps b c, vs = [v, l, x, y] ∧ ScanAt C H v ds T ∧ ScanOk ds T ∧ Ls H l ps ∧ LooksOk ds.length ps ∧ Pl H x b ∧ BoxOk b ∧ b.length = ds.length ∧ Pl H y c ∧ c ∈ cellsOf b ∧
  ∀ D ys H', H D = none → Ex H H' → H' D = some (.lst ys) → Paired (fun y q => Cz H' y q) ys (causesOf T ds ps b c) → Q (.ref D) H'
theorem ok_causes (B : Bt mg) (S : ScanK K mg leaf C fi fc dp dg fo) (F : Df K mg "causes" sCauses) (h_plus : Ok P w K mg base 4 "plus" ["one", "other"] (sp2 addP)) (h_minus : Ok P w K mg base 4 "minus" ["one", "other"] (sp2 subP)) (h_is_in : Ok P w K mg base 4 "is_in" ["box", "place"] spIsIn) (h_call : OkF P w K mg base 4 fc ["self", "one", "other"] (spScanCall C)) : Ok P w K mg base 5 "causes" ["scan", "looks", "box", "cell"] (spCauses C) := by
  refine ok_of F scCauses (fun vs H Q E h => by obtain ⟨v, l, x, y, ds, T, ps, b, c, rfl, _⟩ := h; rfl) (fun dV _ _ _ _ _ _ us hl e => by subst e; exact match us, hl with | [_, _, _, _], _ => rfl) fun f cdv A outer s H vs Q E hr h => ?_
  obtain ⟨v, l, x, y, ds, T, ps, b, c, rfl, hs, ho, ⟨xs, ⟨a, rfl, ha⟩, hp⟩, hps, hx, hb, hd, hy, hc, k⟩ := h
  refine ⟨_, (pss_cons (ps_set (i := 4) scCauses.nd rfl (Or.inl rfl) (pe_lst pa_nil))
      (pss_cons (ps_for PassesOwn.never rfl (pi_list (pv 1)) (pg_name (i := 5) scCauses.nd rfl (Or.inl rfl))
      (pss_cons (ps_par (i := 6) (j := 7) rfl scCauses.nd rfl rfl (by decide) rfl rfl (pa_cons (pe_do h_plus hr rfl (pa_cons (pv 3) (pa_cons (pv 5) pa_nil))) (pa_cons (pe_do h_minus hr rfl (pa_cons (pv 3) (pa_cons (pv 5) pa_nil))) pa_nil)) rfl)
      (pss_cons (ps_if (PW.pt (pw_and (pt_val (pe_do h_is_in hr rfl (pa_cons (pv 2) (pa_cons (pv 6) pa_nil)))) (pw_and1 (pt_val (pe_doC h_call (pv 0) S.call hr (pa_cons (pv 6) (pa_cons (pv 3) pa_nil))))))) (pss_one (ps_expr (pe_bm PySem.F.plainAttrs_list PySem.F.slot_list_append PySem.F.type_list_append mt_append (pv 4) (pa_cons (pe_tup (pa_cons (pv 6) (pa_cons pe_int pa_nil))) pa_nil)))) pss_nil)
      (pss_one (ps_if (PW.pt (pw_and (pt_val (pe_do h_is_in hr rfl (pa_cons (pv 2) (pa_cons (pv 7) pa_nil)))) (pw_and1 (pt_val (pe_doC h_call (pv 0) S.call hr (pa_cons (pv 7) (pa_cons (pv 3) pa_nil))))))) (pss_one (ps_expr (pe_bm PySem.F.plainAttrs_list PySem.F.slot_list_append PySem.F.type_list_append mt_append (pv 4) (pa_cons (pe_tup (pa_cons (pv 7) (pa_cons pe_int pa_nil))) pa_nil)))) pss_nil)))))
      (pss_one (ps_ret (pv 4))))), ?_⟩
  have d3 := ho.div.three
  have hxl := hp.length
  have cok := cell_ok hb hd hc
  obtain ⟨c1, c2⟩ := (mem_cells hb).mp hc
  refine q_asgL el_nil fun D H1 hD e1 h1 => ?_
  refine ⟨_, rfl, a, rfl, ⟨xs, SqL.of (e1 a _ ha)⟩, for_feeds (H0 := H) (feeds_list (SqL.of ha)) (fun i σ H' => Ex H H' ∧ ∃ u1 u2 u3 ys, σ = [some v, some (.ref a), some x, some y, some (.ref D), u1, u2, u3] ∧ H' D = some (.lst ys) ∧ Paired (fun y q => Cz H' y q) ys (causesOf T ds (ps.take i) b c)) ⟨e1, _, _, _, [], rfl, h1, .nil⟩ (fun i σ H' h => h.1) ?_ ?_⟩
  · rintro i lv σ H2 H3 hi ⟨e2, u1, u2, u3, ys, rfl, h2, hys⟩ e3 hlv
    obtain ⟨lk, hlk, hlp⟩ := paired_getL hp hlv
    have e23 := e2.trans e3
    have lok := hps.2.2.2 lk (List.mem_of_getElem? hlk)
    have pa := add_ok hb hd hc lok
    have ps' := sub_ok hb hd hc lok
    have lenk : c.length = lk.length := by rw [c1, hd, lok.1]
    -- seen, seer
    refine (ex_sp2 (f := addP) (σ := [some v, some (.ref a), some x, some y, some (.ref D), some lv, u2, u3]) (H := H3) (ta := tCons (tVar 3) (tCons (tVar 5) tNil)) (ea2 (ev_var rfl) (ev_var rfl)) (hy.tx (tx_of e23)) (hlp.tx (tx_of e23)) lenk (by omega)) H3 (Ex.refl _) _ fun seen H4 e4 hseen => ?_
    refine (ex_sp2 (f := subP) (σ := [some v, some (.ref a), some x, some y, some (.ref D), some lv, u2, u3]) (H := H4) (ta := tCons (tVar 3) (tCons (tVar 5) tNil)) (ea2 (ev_var rfl) (ev_var rfl)) (hy.tx (tx_of (e23.trans e4))) (hlp.tx (tx_of (e23.trans e4))) lenk (by omega)) H4 (Ex.refl _) _ fun seer H5 e5 hseer => ⟨_, _, rfl, ?_⟩
    have e25 := (e23.trans e4).trans e5
    have h5 := ((e3.trans e4).trans e5) D _ h2
    have hys5 := Paired.mapP hys fun _ _ z => z.tx (tx_of ((e3.trans e4).trans e5))
    have hseen5 := hseen.tx (tx_of e5)
    have bnd := len_causes T ds b c ps
    have bnd2 : (causesOf T ds (ps.take i) b c).length ≤ 8 := by
      have := len_causes T ds b c (ps.take i)
      rw [List.length_take] at this
      have := hps.2.1
      omega
    -- one of the two
    have one : ∀ {n : Nat} {st : Int} {z : V} {q : List Int} {N : L2.St → Hp → Prop} {D' : Ends} {H6 : Hp} {zs : List V} {cs : List (List Int × Int)} (te : TE), n = 6 ∨ n = 7 → [some v, some (.ref a), some x, some y, some (.ref D), some lv, some seen, some seer][n]? = some (some z) → Ex H H6 → H6 D = some (.lst zs) → Pl H6 z q → PlaceOk ds q → q.length = b.length →
        Paired (fun y q => Cz H6 y q) zs cs → cs.length ≤ 20 → D'.nx = N → (∀ H7 zs', Ex H H7 → H7 D = some (.lst zs') → Tx H6 H7 → Paired (fun y q => Cz H7 y q) zs' (cs ++ (if inB b q && before T ds q c then [(q, st)] else [])) → N [some v, some (.ref a), some x, some y, some (.ref D), some lv, some seen, some seer] H7) →
        tIfS (tAnd (tB (tCall spIsIn [] E0 (tCons (tVar 2) (tCons (tVar n) tNil)))) (tB (StX.tCallO (cxOf CX0 P w K mg base ["scan", "looks", "box", "cell", "found", "look", "seen", "seer"] "causes" (defScope sCauses) f cdv A outer s H E).nox C (fun vs H Q E => spScanCall C (vs ++ []) H Q E) E0 (tVar 0) (tCons (tVar n) (tCons (tVar 3) tNil)))))
          (tDrop (tBM K "list" rAppend (tVar 4) (tCons (tTup (tCons (tVar n) (tCons (tC (.int st)) tNil))) tNil))) tNext D' [some v, some (.ref a), some x, some y, some (.ref D), some lv, some seen, some seer] H6 := by
      intro n st z q N D' H6 zs cs te hn hz e6 h6 hq hqp hql hzs hcs hN hk
      subst hN
      refine s_if (b := inB b q && before T ds q c) (et_and (et_B (ev_is_in (ea2 (ev_var rfl) (ev_var hz)) (hx.tx (tx_of e6)) hq hql (by rw [hql]; omega))) fun _ => et_B (ev_scan_call (ev_var rfl) (ea2 (ev_var hz) (ev_var rfl)) (hs.ex e6) ho hq (hy.tx (tx_of e6)) hqp cok)) (fun hb1 H7 e7 => ?_) (fun hb1 H7 e7 => ?_)
      · refine s_appU (l := D) (xs := zs) (ys := [z, .int st]) (e7 D _ h6) (ev_var rfl) (fun H8 e8 Q8 q8 => ⟨_, hz, sz_of (by simp), fun p hp => q8 p _ hp (Ex.new hp) upd_same⟩) (by have := hzs.length; omega) fun p H8 hp e8 h8 => ?_
        have h8D := e8 D _ (e7 D _ h6)
        have t8 : Tx H6 (upd H8 D (.lst (zs ++ [.ref p]))) := (tx_of (e7.trans e8)).trans (Tx.lst h8D)
        refine hk _ (zs ++ [.ref p]) (((e6.trans e7).trans e8).mut hD) upd_same t8 ?_
        rw [if_pos hb1]
        refine paired_append (Paired.mapP hzs fun _ _ z => z.tx t8) (.cons ⟨z, ⟨p, rfl, ?_⟩, hq.tx t8⟩ .nil)
        rw [upd_ne (fun z => by rw [z, h8D] at h8; cases h8)]
        exact h8
      · refine hk H7 zs (e6.trans e7) (e7 D _ h6) (tx_of e7) ?_
        rw [if_neg (by rw [hb1]; decide), List.append_nil]
        exact Paired.mapP hzs fun _ _ z => z.tx (tx_of e7)
    refine one (st := 1) (z := seen) (q := addP c lk) (cs := causesOf T ds (ps.take i) b c) (tVar 0) (.inl rfl) rfl e25 h5 hseen5 pa (by rw [pa.len, hd]) hys5 (by omega) rfl fun H7 zs' e7 h7 t7 hz7 => ?_
    refine one (st := 0) (z := seer) (q := subP c lk) (tVar 0) (.inr rfl) rfl e7 h7 (hseer.tx t7) ps' (by rw [ps'.len, hd]) hz7 (by rw [List.length_append]; split <;> simp <;> omega) rfl fun H8 zs'' e8 h8 t8 hz8 => ?_
    refine ⟨e8, _, _, _, zs'', rfl, h8, ?_⟩
    rw [causes_take T ds b c ps hlk]
    unfold causeOf
    rw [← List.append_assoc]
    exact hz8
  · rintro σ H2 ⟨e2, u1, u2, u3, ys, rfl, h2, hys⟩
    rw [hxl, List.take_length] at hys
    exact ⟨_, rfl, k D ys H2 hD e2 h2 hys⟩
end
end Lk


/-! Lookscan: numbered. -/
namespace Lk
open PySem PySem.Spec PyProof.Rows L2 Evl
/-- the places of paired items as their numbers tell them -/
theorem paired_range {α : Type} {F : V → α → Prop} {cs : List α} {n : Nat} (hn : n = cs.length) {ys : List V} (h : Paired (fun v (i : Nat) => ∀ c, cs[i]? = some c → F v c) ys (List.range n)) : Paired F ys cs := by
  have key : ∀ (ys : List V) (ns : List Nat) (zs : List α), Paired (fun v (i : Nat) => ∀ c, cs[i]? = some c → F v c) ys ns → ns.length = zs.length → (∀ k i : Nat, ns[k]? = some i → cs[i]? = zs[k]?) → Paired F ys zs := by
    intro ys ns zs h
    induction h generalizing zs with
    | nil =>
      intro hl _
      cases zs with
      | nil => exact .nil
      | cons => simp at hl
    | cons a b ih =>
      intro hl hk
      cases zs with
      | nil => simp at hl
      | cons z zs =>
        refine .cons (a z ?_) (ih zs (by simpa using hl) fun k i hi => ?_)
        · exact hk 0 _ rfl
        · exact hk (k + 1) i (by simpa using hi)
  refine key ys _ cs h (by rw [List.length_range]; exact hn) fun k i hi => ?_
  have hk : k < n := by
    have := (List.getElem?_eq_some_iff.mp hi).1
    rw [List.length_range] at this
    exact this
  rw [List.getElem?_range hk] at hi
  cases hi
  rfl
theorem paired_eq {α : Type} {f : α → V} : ∀ {ys : List V} {cs : List α}, Paired (fun v c => v = f c) ys cs → ys = cs.map f
  | _, _, .nil => rfl
  | _, _, .cons a t => by rw [a, paired_eq t]; rfl
/-- [e for x, s in causes] -/
theorem el_lcPairs {K : PySem.W.Frag} {σ : L2.St} {H : Hp} {te tl : TE} {j k : Nat} {qs : List (List Int × Int)} (hjk : j ≠ k) (h : EvLs tl σ H (fun ys H2 => Paired (fun y q => Cz H2 y q) ys qs)) (f : List Int × Int → V)
    (he : ∀ q ∈ qs, ∀ z H1, Ex H H1 → Pl H1 z q.1 → Ev te (((wipe σ [j, k]).set j (some z)).set k (some (.int q.2))) H1 (f q)) (hz : qs.length ≤ 1000) : EvL (tLc (iList K tl) (gTup K 2 (gCons (gName j) (gCons (gName k) gNil))) tYes te [j, k]) σ H (qs.map f) := fun H0 e Q q => h H0 e _ fun D ys H1 hD e1 hy hp => by
  have hl := hp.length
  refine ⟨D, rfl, ⟨ys, SqL.of hy⟩, ?_⟩
  refine lc_feeds (Q := Q) (fun _ => true) (fun i u H3 => ∀ c, qs[i]? = some c → u = f c) (feeds_list (SqL.of hy)) (Nat.lt_of_le_of_lt (show ys.length ≤ 1000 by omega) (by decide)) (fun _ _ _ _ _ z => z) ?_ ?_
  · intro i y H3 hi e3 hyi Q3 k3
    obtain ⟨c, hc, z, ⟨t, rfl, ht2⟩, hz2⟩ := paired_getL hp hyi
    refine ⟨t, _, rfl, SqT.of (e3 t _ ht2), rfl, _, _, rfl, _, _, rfl, rfl, k3 _ H3 (Ex.refl _) (wipe2 hjk) evB_yes fun _ H4 e4 Q4 k4 => ?_⟩
    refine he c (List.mem_of_getElem? hc) z H4 (((e.trans e1).trans e3).trans e4) (hz2.tx (tx_of (e3.trans e4))) H4 (Ex.refl _) _ fun H5 e5 => k4 _ H5 e5 fun c' hc' => ?_
    rw [hc] at hc'
    cases hc'
    rfl
  · intro D2 zs H3 hD2 e3 hz each
    rw [filter_yes] at each
    have ey := paired_eq (paired_range (F := fun v c => v = f c) hl each)
    exact q D2 H3 (fresh_back e1 hD2) (e1.trans e3) (by rw [hz, ey])
theorem s_dput {D : Ends} {σ : L2.St} {H : Hp} {td ty tv : TE} {v : V} (h : Ev tv σ H v) (k : ∀ H1, Ex H H1 → td σ H1 fun x H2 => ty σ H2 fun y H3 => ∃ a H4, x = .ref a ∧ DPut H3 a y v H4 ∧ D.nx σ H4) : sDPut td ty tv D σ H := h H (Ex.refl H) _ k
/-! ### the numbers -/
abbrev Nums := List (List Int × Int)
def lkN (done : Nums) (o : List Int) : Int := ((done.find? fun e => decide (e.1 = o)).map (·.2)).getD 0
def maxL (ns : List Int) : Int := ns.foldl max 1
def stepN (T : Tr) (ds : List Int) (looks : List (List Int)) (box : List Int) (done : Nums) (c : List Int) : Nums := done ++ [(c, maxL ((causesOf T ds looks box c).map fun q => lkN done q.1 + q.2))]
def numsL (T : Tr) (ds : List Int) (looks : List (List Int)) (box : List Int) (cs : List (List Int)) : Nums := cs.foldl (stepN T ds looks box) []
def kvsOf (done : Nums) : List (List Key × V) := done.map fun e => (ky e.1, .int e.2)
theorem nums_keys (T : Tr) (ds : List Int) (looks : List (List Int)) (box : List Int) : ∀ (cs : List (List Int)) (done : Nums), (cs.foldl (stepN T ds looks box) done).map (·.1) = done.map (·.1) ++ cs
  | [], done => by simp
  | c :: cs, done => by
    rw [List.foldl_cons, nums_keys T ds looks box cs]
    unfold stepN
    simp
theorem numsL_keys (T : Tr) (ds : List Int) (looks : List (List Int)) (box : List Int) (cs : List (List Int)) : (numsL T ds looks box cs).map (·.1) = cs := by
  unfold numsL
  rw [nums_keys]
  rfl
theorem numsL_take (T : Tr) (ds : List Int) (looks : List (List Int)) (box : List Int) (cs : List (List Int)) {i : Nat} {c : List Int} (h : cs[i]? = some c) : numsL T ds looks box (cs.take (i + 1)) = stepN T ds looks box (numsL T ds looks box (cs.take i)) c := by
  unfold numsL
  rw [fold_take _ _ _ h]
theorem valV_kvs (done : Nums) (o : List Int) (h : o ∈ done.map (·.1)) : valV (kvsOf done) (ky o) = some (.int (lkN done o)) := by
  induction done with
  | nil => simp at h
  | cons e done ih =>
    unfold kvsOf lkN
    by_cases he : e.1 = o
    · rw [List.map_cons, valV_pos (by rw [he])]
      simp [he]
    · have h2 : o ∈ done.map (·.1) := by
        rw [List.map_cons, List.mem_cons] at h
        exact h.resolve_left (Ne.symm he)
      rw [List.map_cons, valV_neg (fun z => he (ky_inj z))]
      have := ih h2
      unfold kvsOf lkN at this
      rw [this]
      simp [he]
theorem put_new (done : Nums) (c : List Int) (m : Int) (h : c ∉ done.map (·.1)) : putK (kvsOf done) (ky c) (.int m) = kvsOf (done ++ [(c, m)]) := by
  unfold putK
  rw [if_neg]
  · unfold kvsOf; simp
  · intro z
    rw [List.any_eq_true] at z
    obtain ⟨kv, hk, hd⟩ := z
    unfold kvsOf at hk
    obtain ⟨e, he, rfl⟩ := List.mem_map.mp hk
    have := ky_inj (of_decide_eq_true hd)
    exact h (List.mem_map.mpr ⟨e, he, this⟩)
theorem maxL_ge : ∀ (ns : List Int) (a : Int), a ≤ ns.foldl max a ∧ ∀ n ∈ ns, n ≤ ns.foldl max a
  | [], a => ⟨Int.le_refl _, fun n h => by cases h⟩
  | m :: ns, a => by
    obtain ⟨h1, h2⟩ := maxL_ge ns (max a m)
    refine ⟨Int.le_trans (Int.le_max_left a m) h1, fun n hn => ?_⟩
    rcases List.mem_cons.mp hn with rfl | hn
    · exact Int.le_trans (Int.le_max_right a _) h1
    · exact h2 n hn
theorem maxL_mem : ∀ (ns : List Int) (a : Int), ns.foldl max a = a ∨ ns.foldl max a ∈ ns
  | [], a => .inl rfl
  | m :: ns, a => by
    rcases maxL_mem ns (max a m) with h | h
    · rw [List.foldl_cons, h]
      by_cases hm : a ≤ m
      · right
        rw [Int.max_eq_right hm]
        exact List.mem_cons_self
      · left
        exact Int.max_eq_left (by omega)
    · exact .inr (List.mem_cons_of_mem _ h)
theorem maxL_uniq {ns : List Int} {m : Int} (h1 : m ∈ 1 :: ns) (h2 : ∀ y ∈ 1 :: ns, y ≤ m) : m = maxL ns := by
  obtain ⟨g1, g2⟩ := maxL_ge ns 1
  unfold maxL
  refine Int.le_antisymm ?_ ?_
  · rcases List.mem_cons.mp h1 with rfl | h
    · exact g1
    · exact g2 m h
  · rcases maxL_mem ns 1 with h | h
    · rw [h]; exact h2 1 List.mem_cons_self
    · exact h2 _ (List.mem_cons_of_mem _ h)
theorem ev_max1 {K : PySem.W.Frag} {σ : L2.St} {H : Hp} {te : TE} {vals : List Int} (h : EvL te σ H (vals.map V.int)) (hz : vals.length ≤ 1000) : Ev (tCB (rMax K) (tCons (tOp rCat (tLst (tCons (tC (.int 1)) tNil)) te) tNil)) σ H (.int (maxL vals)) := fun H1 e Q q => ⟨by decide, fun p1 hp1 => by
  have e1 : Ex H1 (upd H1 p1 (.lst [.int 1])) := Ex.new hp1
  refine h _ (e.trans e1) (fun y H3 => rCat (.ref p1) y H3 fun x H4 => rMax K [x] H4 Q) fun p2 H3 hp2 e3 h3 => ?_
  refine ⟨p1, p2, _, _, rfl, rfl, e3 p1 _ upd_same, h3, sz_of (by simp only [List.length_map, List.length_cons, List.length_nil]; omega), fun p3 hp3 => ?_⟩
  refine ⟨p3, 1 :: vals, rfl, SqL.of upd_same, by simp, fun m h1 h2 => ?_⟩
  rw [maxL_uniq h1 h2]
  exact q _ ((e1.trans e3).trans (Ex.new hp3))⟩
/-- a cause stands in the box and comes before -/
theorem cause_mem {T : Tr} {ds box c : List Int} {looks : List (List Int)} {q : List Int × Int} (hb : BoxOk box) (hd : box.length = ds.length) (hc : c ∈ cellsOf box) (hl : ∀ l ∈ looks, IsLook ds.length l) (hq : q ∈ causesOf T ds looks box c) : q.1 ∈ cellsOf box ∧ pathOf T ds q.1 < pathOf T ds c := by
  unfold causesOf at hq
  obtain ⟨l, hlm, hq⟩ := List.mem_flatMap.mp hq
  have h1 := add_ok hb hd hc (hl l hlm)
  have h2 := sub_ok hb hd hc (hl l hlm)
  unfold causeOf at hq
  rcases List.mem_append.mp hq with hq | hq
  · split at hq
    · rename_i hcnd
      rw [Bool.and_eq_true] at hcnd
      rw [List.mem_singleton.mp hq]
      exact ⟨(mem_cells hb).mpr ⟨by rw [h1.len, hd], hcnd.1⟩, of_decide_eq_true hcnd.2⟩
    · cases hq
  · split at hq
    · rename_i hcnd
      rw [Bool.and_eq_true] at hcnd
      rw [List.mem_singleton.mp hq]
      exact ⟨(mem_cells hb).mpr ⟨by rw [h2.len, hd], hcnd.1⟩, of_decide_eq_true hcnd.2⟩
    · cases hq
theorem earlier {T : Tr} {ds box : List Int} {cs : List (List Int)} (h : OrderOk T ds box cs) {i : Nat} {c o : List Int} (hc : cs[i]? = some c) (ho : o ∈ cellsOf box) (hlt : pathOf T ds o < pathOf T ds c) : o ∈ cs.take i := by
  have hm : o ∈ cs := h.perm.mem_iff.mpr ho
  rw [← List.take_append_drop i cs, List.mem_append] at hm
  rcases hm with hm | hm
  · exact hm
  · exfalso
    have hi := (List.getElem?_eq_some_iff.mp hc).1
    rw [List.drop_eq_getElem_cons hi] at hm
    have ec : cs[i] = c := (List.getElem?_eq_some_iff.mp hc).2
    rw [ec] at hm
    rcases List.mem_cons.mp hm with rfl | hm
    · exact List.lt_irrefl _ hlt
    · have hs := h.sorted
      rw [← List.take_append_drop i cs, List.drop_eq_getElem_cons hi, ec, List.pairwise_append] at hs
      exact (List.pairwise_cons.mp hs.2.1).1 o hm hlt
section
variable {P : Program} {w : World} {K : PySem.W.Frag} {mg : Str → Option Value} {base : Heap} {leaf C fi fc dp dg fo : Addr}
abbrev sNumbered : Stmt := top 35
theorem scNumbered : FnScope ["scan", "looks", "box", "found", "cell", "other", "step"] ["scan", "looks", "box"] (defScope sNumbered) := ⟨rfl, rfl, rfl, by decide +kernel, rfl, by decide +kernel, by decide +kernel⟩
def spNumbered (C : Addr) : Sp := fun vs H Q _ => ∃ v l x ds T ps b, vs = [v, l, x] ∧ ScanAt C H v ds T ∧ ScanOk ds T ∧ Ls H l ps ∧ LooksOk ds.length ps ∧ Pl H x b ∧ BoxOk b ∧ b.length = ds.length ∧
  ∀ d cs H', H d = none → Ex H H' → H' d = some (.dT (kvsOf (numsL T ds ps b cs))) → OrderOk T ds b cs → Q (.ref d) H'
theorem ok_numbered (B : Bt mg) (S : ScanK K mg leaf C fi fc dp dg fo) (F : Df K mg "numbered" sNumbered) (h_order : OkF P w K mg base 7 fo ["self", "box"] (spOrder C)) (h_causes : Ok P w K mg base 7 "causes" ["scan", "looks", "box", "cell"] (spCauses C)) : Ok P w K mg base 8 "numbered" ["scan", "looks", "box"] (spNumbered C) := by
  refine ok_of F scNumbered (fun vs H Q E h => by obtain ⟨v, l, x, ds, T, ps, b, rfl, _⟩ := h; rfl) (fun dV _ _ _ _ _ _ us hl e => by subst e; exact match us, hl with | [_, _, _], _ => rfl) fun f cdv A outer s H vs Q E hr h => ?_
  obtain ⟨v, l, x, ds, T, ps, b, rfl, hs, ho, hl, hps, hx, hb, hd, k⟩ := h
  refine ⟨_, (pss_cons (ps_set (i := 3) scNumbered.nd rfl (Or.inr rfl) pe_dnewT)
      (pss_cons (ps_for PassesOwn.never rfl (pi_list (pe_dom h_order (pv 0) S.cls S.order hr (pa_cons (pv 2) pa_nil))) (pg_name (i := 4) scNumbered.nd rfl (Or.inl rfl))
      (pss_one (ps_dput (hu_of hr) (pv 3) (pv 4) (pe_callB (cr_max rfl) rfl B.max (by decide +kernel) (pa_cons (pe_op op_cat (pe_lst (pa_cons pe_int pa_nil)) (pe_lc (own := [("other", 5), ("step", 6)]) (g := (gTup K 2 (gCons (gName 5) (gCons (gName 6) gNil)))) (tt := tYes) (te := (tOp (rI0 fun i j => .int (i + j)) (tDGet (tVar 3) (tVar 5)) (tVar 6))) rfl scNumbered.nd (pi_list (pe_do h_causes hr rfl (pa_cons (pv 0) (pa_cons (pv 1) (pa_cons (pv 2) (pa_cons (pv 4) pa_nil)))))) (blkOk_by (own := [("other", 5), ("step", 6)]) (N := ["scan", "looks", "box", "found", "cell", "other", "step"]) (sc := defScope sNumbered) (by decide +kernel)) (fun _ _ _ _ _ => (pg_tup rfl (pgs_cons (pg_name (i := 5) scNumbered.nd rfl (Or.inl rfl) (Or.inr rfl)) (pgs_cons (pg_name (i := 6) scNumbered.nd rfl (Or.inl rfl) (Or.inr rfl)) pgs_nil)))) (fun _ _ _ _ _ => pts_nil) (fun _ _ _ _ _ => (pe_op op_add (pe_dget (hu_of hr) (pv 3) (pv 5) (fun _ _ => rfl)) (pv 6))))) pa_nil)) rfl)))
      (pss_one (ps_ret (pv 3))))), ?_⟩
  have d3 := ho.div.three
  intro d hdn
  have e0 : Ex H (upd H d (.dT [])) := Ex.new hdn
  -- scan.order(box)
  obtain ⟨sa, sdx, sfs, sx1, sx2, rfl, g1, g2, g3, g4, g5, g6⟩ := id hs
  refine ⟨_, rfl, sa, sdx, sfs, rfl, e0 sa _ g1, g6, ?_⟩
  refine ⟨_, rfl, _, x, ds, T, b, rfl, hs.ex e0, ho, hx.tx (tx_of e0), hb, hd, fun L ys cs H1 hL e1 hy hp hord => ?_⟩
  have e01 := e0.trans e1
  have hdL : d ≠ L := fun z => by rw [z, upd_same] at hL; cases hL
  have hd1 : H1 d = some (.dT (kvsOf [])) := e1 d _ upd_same
  have nd : cs.Nodup := (hord.perm.nodup_iff).mpr (nodup_cells hb)
  have lcs : cs.length ≤ 2000 := by rw [hord.perm.length_eq]; exact len_cells hb
  have hyl := hp.length
  refine ⟨L, rfl, ⟨ys, SqL.of hy⟩, ?_⟩
  refine for_list (fun i σ H' => Ex H H' ∧ H' L = some (.lst ys) ∧ Paired (fun y c => Pl H' y c) ys cs ∧ H' d = some (.dT (kvsOf (numsL T ds ps b (cs.take i)))) ∧ ∃ u1 u2 u3, σ = [some (.ref sa), some l, some x, some (.ref d), u1, u2, u3]) ⟨e01, hy, hp, hd1, _, _, _, rfl⟩ (fun i σ H' hi h => SqL.of h.2.1) ?_ ?_
  · rintro i y σ H2 hi ⟨e2, h2L, h2p, h2d, u1, u2, u3, rfl⟩
    obtain ⟨c, hci, hyc⟩ := paired_getL h2p hi
    have hcm : c ∈ cellsOf b := hord.perm.mem_iff.mp (List.mem_of_getElem? hci)
    have keys := numsL_keys T ds ps b (cs.take i)
    -- the comprehension
    have z : EvL (tLc (iList K (tCall (spCauses C) [] E0 (tCons (tVar 0) (tCons (tVar 1) (tCons (tVar 2) (tCons (tVar 4) tNil)))))) (gTup K 2 (gCons (gName 5) (gCons (gName 6) gNil))) tYes (tOp (rI0 fun i j => .int (i + j)) (tDGet (tVar 3) (tVar 5)) (tVar 6)) [5, 6]) [some (.ref sa), some l, some x, some (.ref d), some y, u2, u3] H2
        ((causesOf T ds ps b c).map fun q => V.int (lkN (numsL T ds ps b (cs.take i)) q.1 + q.2)) := by
      refine el_lcPairs (by decide) (fun H3 e3 Q3 q3 => ⟨_, rfl, _, rfl, _, rfl, _, rfl, .ref sa, l, x, y, ds, T, ps, b, c, rfl, hs.ex (e2.trans e3), ho, hl.ex (e2.trans e3), hps, hx.tx (tx_of (e2.trans e3)), hb, hd, hyc.tx (tx_of e3), hcm, fun D zs H4 hD e4 hz hpz => q3 D zs H4 hD e4 hz hpz⟩) _ (fun q hq z H3 e3 hz => ?_) (by have := len_causes T ds b c ps; have := hps.2.1; omega)
      obtain ⟨m1, m2⟩ := cause_mem hb hd hcm hps.2.2.2 hq
      have hin := earlier hord hci m1 m2
      have hv := valV_kvs (numsL T ds ps b (cs.take i)) q.1 (by rw [keys]; exact hin)
      intro H4 e4 Q4 q4
      obtain ⟨t, rfl, ht⟩ := hz.tx (tx_of e4)
      refine ⟨_, rfl, _, rfl, d, _, rfl, ?_, ⟨_, rfl, _, _, rfl, rfl, q4 H4 (Ex.refl _)⟩⟩
      rw [← hv]
      exact DGet.t ((e3.trans e4) d _ h2d) (by rw [ky_val]; exact ht)
    have z2 : EvL (tLc (iList K (tCall (spCauses C) [] E0 (tCons (tVar 0) (tCons (tVar 1) (tCons (tVar 2) (tCons (tVar 4) tNil)))))) (gTup K 2 (gCons (gName 5) (gCons (gName 6) gNil))) tYes (tOp (rI0 fun i j => .int (i + j)) (tDGet (tVar 3) (tVar 5)) (tVar 6)) [5, 6]) [some (.ref sa), some l, some x, some (.ref d), some y, u2, u3] H2
        (((causesOf T ds ps b c).map fun q => lkN (numsL T ds ps b (cs.take i)) q.1 + q.2).map V.int) := by
      rw [List.map_map]
      exact z
    refine s_dput (ev_max1 (K := K) z2 (by rw [List.length_map]; have := len_causes T ds b c ps; have := hps.2.1; omega)) fun H3 e3 => ?_
    obtain ⟨t, rfl, ht⟩ := hyc
    have h3d := e3 d _ h2d
    have hnew : c ∉ (numsL T ds ps b (cs.take i)).map (·.1) := by
      rw [keys]
      intro hm
      obtain ⟨j, hj, ej⟩ := List.mem_iff_getElem.mp hm
      rw [List.length_take] at hj
      rw [List.getElem_take] at ej
      have hi2 := (List.getElem?_eq_some_iff.mp hci).1
      have ei := (List.getElem?_eq_some_iff.mp hci).2
      have := (List.getElem_inj nd).mp (ej.trans ei.symm)
      omega
    have hlen : (kvsOf (numsL T ds ps b (cs.take i))).length < sizeLine := by
      unfold kvsOf
      have z := congrArg List.length keys
      rw [List.length_map] at z ⊢
      rw [z, List.length_take]
      exact sz_lt (by omega)
    have tx3 : Tx H2 (upd H3 d (.dT (putK (kvsOf (numsL T ds ps b (cs.take i))) (ky c) (.int (maxL ((causesOf T ds ps b c).map fun q => lkN (numsL T ds ps b (cs.take i)) q.1 + q.2)))))) := fun a xs h => by
      rw [upd_ne (fun z => by rw [z, h2d] at h; cases h)]
      exact e3 a _ h
    refine ⟨_, rfl, _, rfl, d, _, rfl, DPut.t h3d (by rw [ky_val]; exact e3 t _ ht) hlen, (e2.trans e3).mut hdn, ?_, ?_, ?_, _, _, _, rfl⟩
    · rw [upd_ne (Ne.symm hdL)]; exact e3 L _ h2L
    · exact Paired.mapP h2p fun _ _ z => z.tx tx3
    · rw [upd_same, put_new _ _ _ hnew, numsL_take T ds ps b cs hci]
      rfl
  · rintro σ H2 ⟨e2, h2L, h2p, h2d, u1, u2, u3, rfl⟩
    rw [hyl, List.take_length] at h2d
    exact ⟨_, rfl, k d cs H2 hdn e2 h2d hord⟩
end
end Lk


/-! Lookscan: the numbers, plainly. -/
namespace Lk
open PySem PySem.Spec PyProof.Rows L2 Evl
/-- the numbers of a box -/
def IsNum (F : List Int → Int) (T : Tr) (ds : List Int) (ps : List (List Int)) (b : List Int) : Prop := ∀ c ∈ cellsOf b, F c = maxL ((causesOf T ds ps b c).map fun q => F q.1 + q.2)
structure BoxFor (ds b : List Int) (ps : List (List Int)) : Prop where
  box : BoxOk b
  len : b.length = ds.length
  looks : ∀ l ∈ ps, IsLook ds.length l
theorem lkN_append {a r : Nums} {o : List Int} (h : o ∈ a.map (·.1)) : lkN (a ++ r) o = lkN a o := by
  unfold lkN
  rw [List.find?_append]
  have : (a.find? fun e => decide (e.1 = o)).isSome = true := by
    rw [List.find?_isSome]
    obtain ⟨e, he, e2⟩ := List.mem_map.mp h
    exact ⟨e, he, by simp [e2]⟩
  cases hq : a.find? fun e => decide (e.1 = o) with
  | none => rw [hq] at this; cases this
  | some e => rfl
theorem foldl_prefix (T : Tr) (ds : List Int) (ps : List (List Int)) (b : List Int) : ∀ (cs : List (List Int)) (done : Nums), ∃ r, cs.foldl (stepN T ds ps b) done = done ++ r
  | [], done => ⟨[], by simp⟩
  | c :: cs, done => by
    obtain ⟨r, hr⟩ := foldl_prefix T ds ps b cs (stepN T ds ps b done c)
    refine ⟨[(c, maxL ((causesOf T ds ps b c).map fun q => lkN done q.1 + q.2))] ++ r, ?_⟩
    rw [List.foldl_cons, hr]
    unfold stepN
    rw [List.append_assoc]
theorem numsL_prefix (T : Tr) (ds : List Int) (ps : List (List Int)) (b : List Int) (cs : List (List Int)) (i : Nat) : ∃ r, numsL T ds ps b cs = numsL T ds ps b (cs.take i) ++ r := by
  have e : numsL T ds ps b cs = (cs.drop i).foldl (stepN T ds ps b) (numsL T ds ps b (cs.take i)) := by
    unfold numsL
    rw [← List.foldl_append, List.take_append_drop]
  rw [e]
  exact foldl_prefix T ds ps b _ _
theorem lkN_take {T : Tr} {ds : List Int} {ps : List (List Int)} {b : List Int} {cs : List (List Int)} {i : Nat} {o : List Int} (h : o ∈ cs.take i) : lkN (numsL T ds ps b cs) o = lkN (numsL T ds ps b (cs.take i)) o := by
  obtain ⟨r, hr⟩ := numsL_prefix T ds ps b cs i
  rw [hr]
  exact lkN_append (by rw [numsL_keys]; exact h)
theorem isNum_nums {T : Tr} {ds b : List Int} {ps : List (List Int)} {cs : List (List Int)} (h : BoxFor ds b ps) (ho : OrderOk T ds b cs) : IsNum (lkN (numsL T ds ps b cs)) T ds ps b := fun c hc => by
  have hm : c ∈ cs := ho.perm.mem_iff.mpr hc
  obtain ⟨i, hi, ei⟩ := List.mem_iff_getElem.mp hm
  have hci : cs[i]? = some c := by rw [List.getElem?_eq_getElem hi, ei]
  have nd : cs.Nodup := (ho.perm.nodup_iff).mpr (nodup_cells h.box)
  have e1 : lkN (numsL T ds ps b cs) c = lkN (numsL T ds ps b (cs.take (i + 1))) c := lkN_take (by rw [take_next _ hci]; simp)
  rw [e1, numsL_take T ds ps b cs hci]
  have hn : c ∉ (numsL T ds ps b (cs.take i)).map (·.1) := by
    rw [numsL_keys]
    intro hm
    obtain ⟨j, hj, ej⟩ := List.mem_iff_getElem.mp hm
    rw [List.length_take] at hj
    rw [List.getElem_take] at ej
    have := (List.getElem_inj nd).mp (ej.trans ei.symm)
    omega
  have e2 : lkN (stepN T ds ps b (numsL T ds ps b (cs.take i)) c) c = maxL ((causesOf T ds ps b c).map fun q => lkN (numsL T ds ps b (cs.take i)) q.1 + q.2) := by
    unfold stepN lkN
    rw [List.find?_append]
    have : (numsL T ds ps b (cs.take i)).find? (fun e => decide (e.1 = c)) = none := by
      rw [List.find?_eq_none]
      intro e he hd
      exact hn (List.mem_map.mpr ⟨e, he, of_decide_eq_true hd⟩)
    rw [this]
    simp
  rw [e2]
  congr 1
  apply List.map_congr_left
  intro q hq
  obtain ⟨m1, m2⟩ := cause_mem h.box h.len hc h.looks hq
  rw [lkN_take (earlier ho hci m1 m2)]
theorem maxL_one (ns : List Int) : 1 ≤ maxL ns := (maxL_ge ns 1).1
theorem maxL_mono {xs ys : List Int} (h : ∀ x ∈ xs, ∃ y ∈ ys, x ≤ y) : maxL xs ≤ maxL ys := by
  rcases maxL_mem xs 1 with e | e
  · unfold maxL at *
    rw [e]
    exact (maxL_ge ys 1).1
  · obtain ⟨y, hy, hle⟩ := h _ e
    exact Int.le_trans hle ((maxL_ge ys 1).2 y hy)
/-- fewer causes, fewer numbers -/
theorem num_mono {F G : List Int → Int} {T : Tr} {ds b b' : List Int} {ps ps' : List (List Int)} {cs : List (List Int)} (h : BoxFor ds b ps) (ho : OrderOk T ds b cs) (hF : IsNum F T ds ps b) (hG : IsNum G T ds ps' b') (hsub : ∀ c ∈ cellsOf b, c ∈ cellsOf b')
    (hc : ∀ c ∈ cellsOf b, ∀ q ∈ causesOf T ds ps b c, q ∈ causesOf T ds ps' b' c) : ∀ c ∈ cellsOf b, F c ≤ G c := by
  have key : ∀ (n i : Nat) (c : List Int), i ≤ n → cs[i]? = some c → F c ≤ G c := fun n => by
    induction n with
    | zero =>
      intro i c hi hci
      have i0 : i = 0 := by omega
      subst i0
      have hcm : c ∈ cellsOf b := ho.perm.mem_iff.mp (List.mem_of_getElem? hci)
      rw [hF c hcm, hG c (hsub c hcm)]
      refine maxL_mono fun x hx => ?_
      obtain ⟨q, hq, rfl⟩ := List.mem_map.mp hx
      obtain ⟨m1, m2⟩ := cause_mem h.box h.len hcm h.looks hq
      have := earlier ho hci m1 m2
      simp at this
    | succ n ih =>
      intro i c hi hci
      have hcm : c ∈ cellsOf b := ho.perm.mem_iff.mp (List.mem_of_getElem? hci)
      rw [hF c hcm, hG c (hsub c hcm)]
      refine maxL_mono fun x hx => ?_
      obtain ⟨q, hq, rfl⟩ := List.mem_map.mp hx
      obtain ⟨m1, m2⟩ := cause_mem h.box h.len hcm h.looks hq
      have hin := earlier ho hci m1 m2
      obtain ⟨j, hj, ej⟩ := List.mem_iff_getElem.mp hin
      rw [List.length_take] at hj
      rw [List.getElem_take] at ej
      have hle := ih j q.1 (by omega) (by rw [List.getElem?_eq_getElem (by omega), ej])
      exact ⟨G q.1 + q.2, List.mem_map.mpr ⟨q, hc c hcm q hq, rfl⟩, by omega⟩
  intro c hcm
  obtain ⟨i, hi, ei⟩ := List.mem_iff_getElem.mp (ho.perm.mem_iff.mpr hcm)
  exact key i i c (Nat.le_refl _) (by rw [List.getElem?_eq_getElem hi, ei])
theorem num_uniq {F G : List Int → Int} {T : Tr} {ds b : List Int} {ps : List (List Int)} {cs : List (List Int)} (h : BoxFor ds b ps) (ho : OrderOk T ds b cs) (hF : IsNum F T ds ps b) (hG : IsNum G T ds ps b) : ∀ c ∈ cellsOf b, F c = G c := fun c hc =>
  Int.le_antisymm (num_mono h ho hF hG (fun _ h => h) (fun _ _ _ h => h) c hc) (num_mono h ho hG hF (fun _ h => h) (fun _ _ _ h => h) c hc)
theorem num_pos {F : List Int → Int} {T : Tr} {ds b : List Int} {ps : List (List Int)} (hF : IsNum F T ds ps b) : ∀ c ∈ cellsOf b, 1 ≤ F c := fun c hc => by rw [hF c hc]; exact maxL_one _
/-- a wider box -/
def Wider (b w : List Int) : Prop := ∀ p : List Int, p.length = b.length → inB b p = true → inB w p = true
theorem wider_cells {b w : List Int} (hb : BoxOk b) (hw : BoxOk w) (hl : b.length = w.length) (h : Wider b w) : ∀ c ∈ cellsOf b, c ∈ cellsOf w := fun c hc => by
  obtain ⟨h1, h2⟩ := (mem_cells hb).mp hc
  exact (mem_cells hw).mpr ⟨by rw [h1, hl], h c h1 h2⟩
theorem causes_sub {T : Tr} {ds b w c : List Int} {ps ps' : List (List Int)} (hb : BoxFor ds b ps) (hc : c ∈ cellsOf b) (h : Wider b w) (hp : ∀ l ∈ ps, l ∈ ps') : ∀ q ∈ causesOf T ds ps b c, q ∈ causesOf T ds ps' w c := fun q hq => by
  unfold causesOf at hq ⊢
  obtain ⟨l, hl, hq⟩ := List.mem_flatMap.mp hq
  refine List.mem_flatMap.mpr ⟨l, hp l hl, ?_⟩
  have h1 := add_ok hb.box hb.len hc (hb.looks l hl)
  have h2 := sub_ok hb.box hb.len hc (hb.looks l hl)
  unfold causeOf at hq ⊢
  rw [List.mem_append] at hq ⊢
  rcases hq with hq | hq
  · left
    split at hq
    · rename_i hcnd
      rw [Bool.and_eq_true] at hcnd
      rw [if_pos (by rw [h _ (by rw [h1.len, hb.len]) hcnd.1, hcnd.2]; rfl)]
      exact hq
    · cases hq
  · right
    split at hq
    · rename_i hcnd
      rw [Bool.and_eq_true] at hcnd
      rw [if_pos (by rw [h _ (by rw [h2.len, hb.len]) hcnd.1, hcnd.2]; rfl)]
      exact hq
    · cases hq
/-! ### the steps of a chain -/
theorem sub_add : ∀ {c l : List Int}, c.length = l.length → subP (addP c l) c = l
  | [], [], _ => rfl
  | [], _ :: _, h => by simp at h
  | _ :: _, [], h => by simp at h
  | a :: c, b :: l, h => by
    have := sub_add (c := c) (l := l) (by simpa using h)
    unfold subP addP at this ⊢
    simp only [List.zipWith_cons_cons, this]
    congr 1
    omega
theorem sub_sub : ∀ {c l : List Int}, c.length = l.length → subP c (subP c l) = l
  | [], [], _ => rfl
  | [], _ :: _, h => by simp at h
  | _ :: _, [], h => by simp at h
  | a :: c, b :: l, h => by
    have := sub_sub (c := c) (l := l) (by simpa using h)
    unfold subP at this ⊢
    simp only [List.zipWith_cons_cons, this]
    congr 1
    omega
theorem add_back : ∀ {c l : List Int}, c.length = l.length → addP c (subP (subP c l) c) = subP c l
  | [], [], _ => rfl
  | [], _ :: _, h => by simp at h
  | _ :: _, [], h => by simp at h
  | a :: c, b :: l, h => by
    have := add_back (c := c) (l := l) (by simpa using h)
    unfold subP addP at this ⊢
    simp only [List.zipWith_cons_cons, this]
    congr 1
    omega
/-- a cause that gives the number -/
structure Link (F : List Int → Int) (T : Tr) (ds : List Int) (ps : List (List Int)) (b o c : List Int) : Prop where
  mo : o ∈ cellsOf b
  mc : c ∈ cellsOf b
  bef : before T ds o c = true
  near : subP o c ∈ ps ∨ subP c o ∈ ps
  step : F c = F o + (if subP o c ∈ ps then 1 else 0)
theorem link_of {F : List Int → Int} {T : Tr} {ds b o c : List Int} {ps : List (List Int)} {s : Int} (h : BoxFor ds b ps) (hF : IsNum F T ds ps b) (hc : c ∈ cellsOf b) (hq : (o, s) ∈ causesOf T ds ps b c) (he : F o + s = F c) : Link F T ds ps b o c := by
  obtain ⟨m1, m2⟩ := cause_mem h.box h.len hc h.looks hq
  have hlen : ∀ l ∈ ps, c.length = l.length := fun l hl => by
    rw [((mem_cells h.box).mp hc).1, h.len, (h.looks l hl).1]
  refine ⟨m1, hc, decide_eq_true m2, ?_, ?_⟩
  · unfold causesOf at hq
    obtain ⟨l, hl, hq⟩ := List.mem_flatMap.mp hq
    unfold causeOf at hq
    rcases List.mem_append.mp hq with hq | hq
    · split at hq
      · have := List.mem_singleton.mp hq
        cases this
        rw [sub_add (hlen l hl)]
        exact .inl hl
      · cases hq
    · split at hq
      · have := List.mem_singleton.mp hq
        cases this
        rw [sub_sub (hlen l hl)]
        exact .inr hl
      · cases hq
  · have hq0 := hq
    unfold causesOf at hq
    obtain ⟨l, hl, hq⟩ := List.mem_flatMap.mp hq
    unfold causeOf at hq
    rcases List.mem_append.mp hq with hq | hq
    · split at hq
      · have := List.mem_singleton.mp hq
        cases this
        rw [sub_add (hlen l hl), if_pos hl]
        omega
      · cases hq
    · split at hq
      · rename_i hcnd
        have := List.mem_singleton.mp hq
        cases this
        by_cases hin : subP (subP c l) c ∈ ps
        · exfalso
          have hbk := add_back (hlen l hl)
          have hm : (subP c l, (1 : Int)) ∈ causesOf T ds ps b c := by
            unfold causesOf
            refine List.mem_flatMap.mpr ⟨subP (subP c l) c, hin, ?_⟩
            unfold causeOf
            rw [hbk, if_pos hcnd]
            simp
          have hge := (maxL_ge ((causesOf T ds ps b c).map fun q => F q.1 + q.2) 1).2 (F (subP c l) + 1) (List.mem_map.mpr ⟨_, hm, rfl⟩)
          have e := hF c hc
          unfold maxL at e
          omega
        · rw [if_neg hin]
          omega
      · cases hq
/-- there is such a cause, where the number is more than 1 -/
theorem link_ex {F : List Int → Int} {T : Tr} {ds b c : List Int} {ps : List (List Int)} (hF : IsNum F T ds ps b) (hc : c ∈ cellsOf b) (h1 : 1 < F c) : ∃ q ∈ causesOf T ds ps b c, F q.1 + q.2 = F c := by
  have e := hF c hc
  rcases maxL_mem ((causesOf T ds ps b c).map fun q => F q.1 + q.2) 1 with h | h
  · unfold maxL at e
    omega
  · obtain ⟨q, hq, e2⟩ := List.mem_map.mp h
    exact ⟨q, hq, by unfold maxL at e; omega⟩
/-- a chain of causes, c the last -/
inductive Chn (F : List Int → Int) (T : Tr) (ds : List Int) (ps : List (List Int)) (b : List Int) : List (List Int) → Prop where
  | one {c : List Int} : c ∈ cellsOf b → Chn F T ds ps b [c]
  | cons {o c : List Int} {r : List (List Int)} : Link F T ds ps b o c → Chn F T ds ps b (c :: r) → Chn F T ds ps b (o :: c :: r)
end Lk

/-! Lookscan: waves, wave_count. -/
namespace Lk
open PySem PySem.Spec PyProof.Rows L2 Evl
theorem nums_vals : ∀ (done : Nums), (done.map (·.1)).Nodup → done.map (·.2) = (done.map (·.1)).map (lkN done)
  | [], _ => rfl
  | e :: done, h => by
    rw [List.map_cons, List.nodup_cons] at h
    obtain ⟨h1, h2⟩ := h
    have ih := nums_vals done h2
    rw [List.map_cons, List.map_cons, List.map_cons, ih]
    congr 1
    · unfold lkN; simp
    · apply List.map_congr_left
      intro c hc
      unfold lkN
      rw [List.find?_cons_of_neg]
      intro z
      have := of_decide_eq_true z
      exact h1 (this ▸ hc)
theorem nums_map {T : Tr} {ds b : List Int} {ps cs : List (List Int)} (nd : cs.Nodup) : (numsL T ds ps b cs).map (·.2) = cs.map (lkN (numsL T ds ps b cs)) := by
  rw [nums_vals _ (by rw [numsL_keys]; exact nd), numsL_keys]
theorem kvs_vals (done : Nums) : (kvsOf done).map (·.2) = (done.map (·.2)).map V.int := by
  unfold kvsOf
  rw [List.map_map, List.map_map]
  rfl
theorem kvs_keys (done : Nums) : (kvsOf done).map (·.1) = (done.map (·.1)).map ky := by
  unfold kvsOf
  rw [List.map_map, List.map_map]
  rfl
/-- the most of the numbers -/
structure Top (F : List Int → Int) (cs : List (List Int)) (M : Nat) : Prop where
  ub : ∀ c ∈ cs, F c ≤ M
  hit : M = 0 ∨ ∃ c ∈ cs, F c = M
theorem ev_values {K : PySem.W.Frag} {σ : L2.St} {H : Hp} {td : TE} {d : Addr} {kvs : List (List Key × V)} (h : Ev td σ H (.ref d)) (hd : H d = some (.dT kvs)) : ∀ H1, Ex H H1 → ∀ Q : VK, (∀ p H2, H1 p = none → Ex H1 H2 → H2 p = some (valuesO p d) → Q (.ref p) H2) → tBM0 K "dict" rValuesT td σ H1 Q := fun H1 e Q q => h H1 e _ fun H2 e2 => by
  have h2 := e2 d _ (e d _ hd)
  exact ⟨.inr (.inr (.inl ⟨rfl, .inr ⟨_, h2⟩⟩)), d, kvs, rfl, rfl, h2, fun p hp => q p _ (fresh_back e2 hp) (e2.trans (Ex.new hp)) upd_same⟩
theorem ev_top {K : PySem.W.Frag} {σ : L2.St} {H : Hp} {td : TE} {d : Addr} {done : Nums} {cs : List (List Int)} (h : Ev td σ H (.ref d)) (hd : H d = some (.dT (kvsOf done))) (hk : done.map (·.1) = cs) (nd : cs.Nodup) (hp : ∀ c ∈ cs, 1 ≤ lkN done c) (hz : cs.length ≤ 2000) :
    ∃ M : Nat, Top (lkN done) cs M ∧ Ev (tCB (rMax K) (tCons (tLst (tCons (tC (.int 0)) (tStarV (tBM0 K "dict" rValuesT td) tNil))) tNil)) σ H (.int M) := by
  subst hk
  have hv := nums_vals done nd
  have hmax : ∃ M : Nat, Top (lkN done) (done.map (·.1)) M ∧ ∀ m : Int, m ∈ (0 : Int) :: (done.map (·.2) : List Int) → (∀ y : Int, y ∈ (0 : Int) :: (done.map (·.2) : List Int) → y ≤ m) → m = M := by
    refine ⟨(List.foldl max (0 : Int) (done.map (·.2))).toNat, ?_, ?_⟩
    · obtain ⟨g1, g2⟩ := maxL_ge (done.map (·.2)) 0
      refine ⟨fun c hc => ?_, ?_⟩
      · rw [Int.toNat_of_nonneg g1]
        exact g2 _ (by rw [hv]; exact List.mem_map.mpr ⟨c, hc, rfl⟩)
      · rcases maxL_mem (done.map (·.2)) 0 with e | e
        · left; rw [e]; rfl
        · right
          rw [Int.toNat_of_nonneg g1]
          rw [hv] at e ⊢
          obtain ⟨c, hc, e⟩ := List.mem_map.mp e
          exact ⟨c, hc, e⟩
    · intro m h1 h2
      obtain ⟨g1, g2⟩ := maxL_ge (done.map (·.2)) 0
      rw [Int.toNat_of_nonneg g1]
      refine Int.le_antisymm ?_ ?_
      · rcases List.mem_cons.mp h1 with rfl | h
        · exact g1
        · exact g2 m h
      · rcases maxL_mem (done.map (·.2)) 0 with e | e
        · rw [e]; exact h2 0 List.mem_cons_self
        · exact h2 _ (List.mem_cons_of_mem _ e)
  obtain ⟨M, hM, hu⟩ := hmax
  refine ⟨M, hM, fun H1 e Q q => ?_⟩
  refine ev_values (K := K) h hd H1 e _ fun p H2 hp e2 hv2 => ?_
  have hd2 := e2 d _ (e d _ hd)
  refine ⟨p, d, _, rfl, hv2, hd2, ?_⟩
  have hl : (kvsOf done).length = done.length := by unfold kvsOf; rw [List.length_map]
  refine ⟨sz_of (by rw [List.length_map] at hz; simp only [List.length_append, List.length_map, List.length_cons, List.length_nil, hl]; omega), fun p3 hp3 => ?_⟩
  refine ⟨p3, 0 :: done.map (·.2), rfl, SqL.of ?_, by simp, fun m h1 h2 => ?_⟩
  · rw [upd_same, kvs_vals, List.append_nil]; rfl
  · rw [hu m h1 h2]
    exact q _ (e2.trans (Ex.new hp3))
/-- [[] for _ in ..] -/
theorem lc_fresh {J : It} {H1 : Hp} {n : Nat} {S : Nat → V → Hp → Prop} {j : Nat} {σ : L2.St} {Q : VK} (F : Feeds J n S H1) (hn : n < sizeLine)
    (hq : ∀ D as H', H1 D = none → Ex H1 H' → H' D = some (.lst (as.map V.ref)) → as.length = n → (D :: as).Nodup → (∀ a ∈ as, H1 a = none ∧ H' a = some (.lst [])) → Q (.ref D) H') :
    ∀ D, H1 D = none → ∃ W : Nat → Nat → Hp → Prop, (∃ m, W 0 m (upd H1 D (.lst []))) ∧ ∀ i m H, W i m H →
      (J.stop i H ∧ Q (.ref D) H) ∨ (J.go i H ∧ ∃ Nx : Hp → Prop, (∀ H', Nx H' → ∃ m', m' < m ∧ W (i + 1) m' H') ∧ ∀ x H', J.yld i H x H' → gName j x (wipe σ [j]) H' fun σ2 H2 => wipe σ2 [j] = wipe σ [j] ∧ tYes σ2 H2 fun b H3 =>
        if b = true then tLst tNil σ2 H3 fun y H4 => ∃ acc, H4 D = some (.lst acc) ∧ acc.length < sizeLine ∧ Nx (upd H4 D (.lst (acc ++ [y]))) else Nx H3) := by
  intro D hD
  refine ⟨fun i m H => m = n - i ∧ i ≤ n ∧ Ex H1 H ∧ ∃ as : List Addr, H D = some (.lst (as.map V.ref)) ∧ as.length = i ∧ (D :: as).Nodup ∧ ∀ a ∈ as, H1 a = none ∧ H a = some (.lst []), ⟨n, rfl, Nat.zero_le _, Ex.new hD, [], upd_same, rfl, by simp, fun a h => by cases h⟩, ?_⟩
  rintro i m H ⟨rfl, hi, e, as, hy, hl, nd, each⟩
  by_cases hlt : i < n
  · refine .inr ⟨F.go i H hlt e, fun H' => i + 1 ≤ n ∧ Ex H1 H' ∧ ∃ as : List Addr, H' D = some (.lst (as.map V.ref)) ∧ as.length = i + 1 ∧ (D :: as).Nodup ∧ ∀ a ∈ as, H1 a = none ∧ H' a = some (.lst []), fun H' h => ⟨n - (i + 1), by omega, rfl, h⟩, fun x H' y => ?_⟩
    obtain ⟨e2, hS⟩ := F.yld i H x H' hlt e y
    refine ⟨wipe1, ?_⟩
    unfold tYes
    dsimp only
    rw [if_pos rfl]
    refine ⟨by decide, fun p hp => ?_⟩
    have hD' := e2 D _ hy
    have hpD : p ≠ D := fun z => by rw [z, hD'] at hp; cases hp
    have hpa : p ∉ as := fun z => by rw [e2 p _ (each p z).2] at hp; cases hp
    have e3 := e2.trans (Ex.new (o := .lst []) hp)
    refine ⟨as.map V.ref, e3 D _ hy, by rw [List.length_map]; omega, hlt, (e.trans e3).mut hD, as ++ [p], by rw [upd_same, List.map_append]; rfl, by simp [hl], ?_, fun a ha => ?_⟩
    · rw [List.nodup_cons] at nd ⊢
      refine ⟨fun z => ?_, ?_⟩
      · rcases List.mem_append.mp z with z | z
        · exact nd.1 z
        · exact hpD (List.mem_singleton.mp z).symm
      · rw [List.nodup_append]
        refine ⟨nd.2, by simp, fun a ha b hb => ?_⟩
        rw [List.mem_singleton.mp hb]
        exact fun z => hpa (z ▸ ha)
    · rcases List.mem_append.mp ha with ha | ha
      · refine ⟨(each a ha).1, ?_⟩
        rw [upd_ne (fun z => (List.nodup_cons.mp nd).1 (by rw [← z]; exact ha))]
        exact e3 a _ (each a ha).2
      · rw [List.mem_singleton.mp ha]
        refine ⟨fresh_back (e.trans e2) hp, ?_⟩
        rw [upd_ne hpD, upd_same]
  · have ei : i = n := by omega
    subst ei
    exact .inl ⟨F.stop H e, hq D as H hD e hy hl nd each⟩
theorem q_asgF {ta : TA} {ta0 : TE} {tz : TS} {D0 : Ends} {σ : L2.St} {H : Hp} {i j : Nat} {n : Nat} (h : Ev ta0 σ H (.int (n : Nat))) (hta : ta = tCons ta0 tNil) (hn : n < 100000)
    (k : ∀ D as H', H D = none → Ex H H' → H' D = some (.lst (as.map V.ref)) → as.length = n → (D :: as).Nodup → (∀ a ∈ as, H a = none ∧ H' a = some (.lst [])) → tz D0 (σ.set i (some (.ref D))) H') :
    tSeq (tAsg (tLc (iRng1 ta) (gName j) tYes (tLst tNil) [j]) (gName i)) tz D0 σ H := by
  subst hta
  refine h H (Ex.refl H) _ fun H1 e1 => ⟨_, rfl, by omega, by omega, fun D hD => ?_⟩
  refine lc_fresh (j := j) (σ := σ) (Q := fun x H1 => tz D0 (σ.set i (some x)) H1) (n := (n : Int).toNat) (feeds_range 0 _) (by have e : (n : Int).toNat = n := Int.toNat_natCast n; rw [e]; exact sz_lt (by omega)) (fun D as H' hD e hy hl nd each => ?_) D hD
  exact k D as H' (fresh_back e1 hD) (e1.trans e) hy (by rw [hl]; omega) nd fun a ha => ⟨fresh_back e1 (each a ha).1, (each a ha).2⟩
/-- rows of places: the k-th has those whose number is k + 1 -/
structure RowsAt (H : Hp) (as : List Addr) (F : List Int → Int) (cs : List (List Int)) : Prop where
  row : ∀ (k : Nat) (a : Addr), as[k]? = some a → ∃ zs, H a = some (.lst zs) ∧ Paired (fun y c => Pl H y c) zs (cs.filter fun c => decide (F c = (k : Int) + 1))
theorem cause_step {T : Tr} {ds box c : List Int} {ps : List (List Int)} {q : List Int × Int} (hq : q ∈ causesOf T ds ps box c) : q.2 = 0 ∨ q.2 = 1 := by
  unfold causesOf at hq
  obtain ⟨l, hl, hq⟩ := List.mem_flatMap.mp hq
  unfold causeOf at hq
  rcases List.mem_append.mp hq with hq | hq
  · split at hq
    · rw [List.mem_singleton.mp hq]; exact .inr rfl
    · cases hq
  · split at hq
    · rw [List.mem_singleton.mp hq]; exact .inl rfl
    · cases hq
theorem num_le {F : List Int → Int} {T : Tr} {ds b : List Int} {ps cs : List (List Int)} (h : BoxFor ds b ps) (ho : OrderOk T ds b cs) (hF : IsNum F T ds ps b) : ∀ c ∈ cs, F c ≤ cs.length := by
  have key : ∀ (n i : Nat) (c : List Int), i ≤ n → cs[i]? = some c → F c ≤ i + 1 := fun n => by
    induction n with
    | zero =>
      intro i c hi hci
      have hcm : c ∈ cellsOf b := ho.perm.mem_iff.mp (List.mem_of_getElem? hci)
      rw [hF c hcm]
      rcases maxL_mem ((causesOf T ds ps b c).map fun q => F q.1 + q.2) 1 with e | e
      · unfold maxL; rw [e]; omega
      · obtain ⟨q, hq, e2⟩ := List.mem_map.mp e
        obtain ⟨m1, m2⟩ := cause_mem h.box h.len hcm h.looks hq
        have := earlier ho hci m1 m2
        have i0 : i = 0 := by omega
        subst i0
        simp at this
    | succ n ih =>
      intro i c hi hci
      have hcm : c ∈ cellsOf b := ho.perm.mem_iff.mp (List.mem_of_getElem? hci)
      rw [hF c hcm]
      rcases maxL_mem ((causesOf T ds ps b c).map fun q => F q.1 + q.2) 1 with e | e
      · unfold maxL; rw [e]; omega
      · obtain ⟨q, hq, e2⟩ := List.mem_map.mp e
        obtain ⟨m1, m2⟩ := cause_mem h.box h.len hcm h.looks hq
        have hin := earlier ho hci m1 m2
        obtain ⟨j, hj, ej⟩ := List.mem_iff_getElem.mp hin
        rw [List.length_take] at hj
        rw [List.getElem_take] at ej
        have hle := ih j q.1 (by omega) (by rw [List.getElem?_eq_getElem (by omega), ej])
        have hst := cause_step hq
        unfold maxL
        rw [← e2]
        omega
  intro c hcm
  obtain ⟨i, hi, ei⟩ := List.mem_iff_getElem.mp hcm
  have := key i i c (Nat.le_refl _) (by rw [List.getElem?_eq_getElem hi, ei])
  omega
section
variable {P : Program} {w : World} {K : PySem.W.Frag} {mg : Str → Option Value} {base : Heap} {leaf C fi fc dp dg fo : Addr}
abbrev sWaves : Stmt := top 37
theorem scWaves : FnScope ["scan", "looks", "box", "numbers", "rows", "at", "cell"] ["scan", "looks", "box"] (defScope sWaves) := ⟨rfl, rfl, rfl, by decide +kernel, rfl, by decide +kernel, by decide +kernel⟩
def spWaves (C : Addr) : Sp := fun vs H Q _ => ∃ v l x ds T ps b, vs = [v, l, x] ∧ ScanAt C H v ds T ∧ ScanOk ds T ∧ Ls H l ps ∧ LooksOk ds.length ps ∧ Pl H x b ∧ BoxOk b ∧ b.length = ds.length ∧
  ∀ D as M F cs qs H', H D = none → Ex H H' → H' D = some (.lst (as.map V.ref)) → as.length = M → OrderOk T ds b cs → IsNum F T ds ps b → Top F cs M → qs.Perm cs → RowsAt H' as F qs → (∀ a ∈ as, H a = none) → Q (.ref D) H'
theorem ok_waves (B : Bt mg) (S : ScanK K mg leaf C fi fc dp dg fo) (F : Df K mg "waves" sWaves) (h_need_all : Ok P w K mg base 8 "need_all" ["scan", "looks", "box"] (spNeedAll C)) (h_numbered : Ok P w K mg base 8 "numbered" ["scan", "looks", "box"] (spNumbered C)) : Ok P w K mg base 9 "waves" ["scan", "looks", "box"] (spWaves C) := by
  refine ok_of F scWaves (fun vs H Q E h => by obtain ⟨v, l, x, ds, T, ps, b, rfl, _⟩ := h; rfl) (fun dV _ _ _ _ _ _ us hl e => by subst e; exact match us, hl with | [_, _, _], _ => rfl) fun f cdv A outer s H vs Q E hr h => ?_
  obtain ⟨v, l, x, ds, T, ps, b, rfl, hs, ho, hl, hps, hx, hb, hd, k⟩ := h
  refine ⟨_, (pss_cons (ps_expr (pe_do h_need_all hr rfl (pa_cons (pv 0) (pa_cons (pv 1) (pa_cons (pv 2) pa_nil)))))
      (pss_cons (ps_set (i := 3) scWaves.nd rfl (Or.inl rfl) (pe_do h_numbered hr rfl (pa_cons (pv 0) (pa_cons (pv 1) (pa_cons (pv 2) pa_nil)))))
      (pss_cons (ps_setLc (i := 4) (own := [("at", 5)]) (g := (gName 5)) (tt := tYes) (te := (tLst tNil)) rfl scWaves.nd rfl rfl (sw_true rfl rfl rfl (by decide +kernel)) (pi_range1 rfl B.range (pa_cons (pe_callB (cr_max rfl) rfl B.max (by decide +kernel) (pa_cons (pe_lst (pa_cons pe_int (pa_starV (pe_bm0 PySem.F.plainAttrs_dict PySem.F.slot_dict_values PySem.F.type_dict_values mt_valuesT (pv 3)) pa_nil rfl))) pa_nil)) pa_nil)) (blkOk_by (own := [("at", 5)]) (N := ["scan", "looks", "box", "numbers", "rows", "at", "cell"]) (sc := defScope sWaves) (by decide +kernel)) (fun _ _ _ _ _ => (pg_name (i := 5) scWaves.nd rfl (Or.inl rfl) (Or.inr rfl))) (fun _ _ _ _ _ => pts_nil) (fun _ _ _ _ _ => (pe_lst pa_nil)))
      (pss_cons (ps_for PassesOwn.never rfl (pi_list (pe_callB (cr_sortD (hu_in hr) rfl) rfl B.sorted (by decide +kernel) (pa_cons (pv 3) pa_nil))) (pg_name (i := 6) scWaves.nd rfl (Or.inl rfl))
      (pss_one (ps_expr (pe_bm PySem.F.plainAttrs_list PySem.F.slot_list_append PySem.F.type_list_append mt_append (pe_ix ix_list (pv 4) (pe_op op_sub (pe_dget (hu_of hr) (pv 3) (pv 6) (fun _ _ => rfl)) pe_int) (fun _ _ => rfl)) (pa_cons (pv 6) pa_nil)))))
      (pss_one (ps_ret (pv 4))))))), ?_⟩
  have hbf : BoxFor ds b ps := ⟨hb, hd, hps.2.2.2⟩
  refine q_drop (v := .non) (fun H1 e1 Q1 k1 => ⟨_, rfl, _, rfl, _, rfl, v, l, x, ds, T, ps, b, rfl, hs.ex e1, ho, hl.ex e1, hps, hx.tx (tx_of e1), hb, hd, fun H2 e2 => k1 H2 e2⟩) fun H1 e1 => ?_
  refine ⟨_, rfl, _, rfl, _, rfl, v, l, x, ds, T, ps, b, rfl, hs.ex e1, ho, hl.ex e1, hps, hx.tx (tx_of e1), hb, hd, fun d cs H2 hdn e2 h2d hord => ?_⟩
  have nd : cs.Nodup := (hord.perm.nodup_iff).mpr (nodup_cells hb)
  have lcs : cs.length ≤ 2000 := by rw [hord.perm.length_eq]; exact len_cells hb
  have hnum := isNum_nums hbf hord
  have hpos : ∀ c ∈ cs, 1 ≤ lkN (numsL T ds ps b cs) c := fun c hc => num_pos hnum c (hord.perm.mem_iff.mp hc)
  obtain ⟨M, hM, hev⟩ := ev_top (K := K) (σ := [some v, some l, some x, some (.ref d), none, none, none]) (td := tVar 3) (H := H2) (ev_var rfl) h2d (numsL_keys T ds ps b cs) nd hpos lcs
  generalize hF : lkN (numsL T ds ps b cs) = F at hnum hpos hM
  -- rows
  have hMle : M ≤ 2000 := by
    rcases hM.hit with h0 | ⟨c, hc, hc2⟩
    · omega
    · have := num_le hbf hord hnum c hc
      omega
  refine q_asgF hev rfl (by omega) fun D as H4 hD e4 h4 hlen2 nodup each => ?_
  have e14 := (e1.trans e2).trans e4
  have h4d : H4 d = some (.dT (kvsOf (numsL T ds ps b cs))) := e4 d _ h2d
  -- sorted(numbers)
  refine ⟨_, rfl, d, _, cs, rfl, h4d, by rw [kvs_keys, numsL_keys], fun p hp hp0 => ?_, fun ys qs L hperm hpair hL => ?_⟩
  · have h1 := ((mem_cells hb).mp (hord.perm.mem_iff.mp hp)).1
    have h2 := ho.div.one
    rw [hp0] at h1
    simp at h1
    omega
  have e4L : Ex H4 (upd H4 L (.lst ys)) := Ex.new hL
  have hyl := hpair.length
  have hdn2 : ∀ a ∈ as, d ≠ a := fun a ha z => by
    rw [← z] at ha
    have := (each d ha).1
    rw [h2d] at this
    cases this
  have hLn : ∀ a ∈ as, L ≠ a := fun a ha z => by
    rw [z, (each a ha).2] at hL
    cases hL
  have hDn : ∀ a ∈ as, D ≠ a := fun a ha z => (List.nodup_cons.mp nodup).1 (z ▸ ha)
  refine ⟨L, rfl, ⟨ys, SqL.of upd_same⟩, ?_⟩
  refine for_list (fun i σ H' => Ex H H' ∧ H' L = some (.lst ys) ∧ Paired (fun y c => Pl H' y c) ys qs ∧ H' d = some (.dT (kvsOf (numsL T ds ps b cs))) ∧ H' D = some (.lst (as.map V.ref)) ∧ RowsAt H' as F (qs.take i) ∧ ∃ u1 u2, σ = [some v, some l, some x, some (.ref d), some (.ref D), u1, u2]) ⟨e14.trans e4L, upd_same, Paired.mapP hpair fun _ _ z => z.tx (tx_of e4L), e4L d _ h4d, e4L D _ h4, ⟨fun k a ha => ⟨[], e4L a _ (each a (List.mem_of_getElem? ha)).2, .nil⟩⟩, _, _, rfl⟩ (fun i σ H' hi h => SqL.of h.2.1) ?_ ?_
  · rintro i y σ H5 hi ⟨e5, h5L, h5p, h5d, h5D, rows, u1, u2, rfl⟩
    obtain ⟨c, hci, hyc⟩ := paired_getL h5p hi
    have hcm : c ∈ cs := hperm.mem_iff.mp (List.mem_of_getElem? hci)
    have h1 := hpos c hcm
    have h2 := hM.ub c hcm
    have hk : (F c - 1).toNat < as.length := by omega
    obtain ⟨a, ha⟩ : ∃ a, as[(F c - 1).toNat]? = some a := ⟨as[(F c - 1).toNat], List.getElem?_eq_getElem hk⟩
    have ham : a ∈ as := List.mem_of_getElem? ha
    obtain ⟨zs, hz, hzp⟩ := rows.row _ a ha
    have hv := valV_kvs (numsL T ds ps b cs) c (by rw [numsL_keys]; exact hcm)
    rw [hF] at hv
    have evn : Ev (tDGet (tVar 3) (tVar 6)) [some v, some l, some x, some (.ref d), some (.ref D), u1, some y] H5 (.int (F c)) := fun H6 e6 Q6 q6 => by
      obtain ⟨t, rfl, ht⟩ := hyc.tx (tx_of e6)
      refine ⟨_, rfl, _, rfl, d, _, rfl, ?_, q6 H6 (Ex.refl _)⟩
      rw [← hv]
      exact DGet.t (e6 d _ h5d) (by rw [ky_val]; exact ht)
    have evl : Ev (tOp (rIxL K) (tVar 4) (tOp (rI0 fun i j => .int (i - j)) (tDGet (tVar 3) (tVar 6)) (tC (.int 1)))) [some v, some l, some x, some (.ref d), some (.ref D), u1, some y] H5 (.ref a) :=
      ev_ixL (F c - 1).toNat (ev_var rfl) ⟨D, rfl, h5D⟩ (ev_i0 (f := fun i j => .int (i - j)) evn ev_c) (by omega) (by rw [List.getElem?_map, ha]; rfl)
    refine s_app hz evl (ev_var rfl) ?_ fun H6 e6 => ?_
    · have z1 := hzp.length
      have z2 := List.length_filter_le (fun c' => decide (F c' = (((F c - 1).toNat : Nat) : Int) + 1)) (qs.take i)
      rw [List.length_take] at z2
      have z3 := hperm.length_eq
      omega
    have tx6 : Tx H5 (upd H6 a (.lst (zs ++ [y]))) := (tx_of e6).trans (Tx.lst (e6 a _ hz))
    have han : H a = none := fresh_back (e1.trans e2) (each a ham).1
    refine ⟨(e5.trans e6).mut han, ?_, Paired.mapP h5p fun _ _ z => z.tx tx6, ?_, ?_, ⟨fun k' a' ha' => ?_⟩, _, _, rfl⟩
    · rw [upd_ne (hLn a ham)]; exact e6 L _ h5L
    · rw [upd_ne (hdn2 a ham)]; exact e6 d _ h5d
    · rw [upd_ne (hDn a ham)]; exact e6 D _ h5D
    · rw [take_next _ hci, List.filter_append]
      by_cases hkk : k' = (F c - 1).toNat
      · have ea : a' = a := by rw [hkk, ha] at ha'; exact (Option.some.inj ha').symm
        subst ea
        refine ⟨zs ++ [y], upd_same, ?_⟩
        have hf : (([c] : List (List Int)).filter fun c => decide (F c = (k' : Int) + 1)) = [c] := by
          rw [List.filter_cons, if_pos (by rw [hkk]; exact decide_eq_true (by omega))]; rfl
        rw [hf]
        rw [← hkk] at hzp
        exact paired_append (Paired.mapP hzp fun _ _ z => z.tx tx6) (.cons (hyc.tx tx6) .nil)
      · have hne : a' ≠ a := fun z => by
          rw [z] at ha'
          have nd2 := (List.nodup_cons.mp nodup).2
          obtain ⟨g1, g2⟩ := List.getElem?_eq_some_iff.mp ha
          obtain ⟨g3, g4⟩ := List.getElem?_eq_some_iff.mp ha'
          exact hkk ((List.getElem_inj nd2).mp (g4.trans g2.symm))
        obtain ⟨zs', hz', hzp'⟩ := rows.row k' a' ha'
        refine ⟨zs', by rw [upd_ne hne]; exact e6 a' _ hz', ?_⟩
        have hf : (([c] : List (List Int)).filter fun c => decide (F c = (k' : Int) + 1)) = [] := by
          rw [List.filter_cons, if_neg]
          · rfl
          · intro z
            have := of_decide_eq_true z
            omega
        rw [hf, List.append_nil]
        exact Paired.mapP hzp' fun _ _ z => z.tx tx6
  · rintro σ H5 ⟨e5, h5L, h5p, h5d, h5D, rows, u1, u2, rfl⟩
    rw [hyl, List.take_length] at rows
    exact ⟨_, rfl, k D as M F cs qs H5 (fresh_back (e1.trans e2) hD) e5 h5D hlen2 hord hnum hM hperm rows fun a ha => fresh_back (e1.trans e2) (each a ha).1⟩
end
end Lk


/-! Lookscan: wave_count, wave_chain. -/
namespace Lk
open PySem PySem.Spec PyProof.Rows L2 Evl
theorem first_of {R : Nat → V → Hp → Prop} {zs : List V} {n : Nat} {f : Nat → Bool} {H : Hp} (h : Each R zs ((List.range n).filter f) H) (hex : ∃ i, i < n ∧ f i = true) : ∃ z i, zs[0]? = some z ∧ i < n ∧ f i = true ∧ R i z H := by
  obtain ⟨i, hi, hf⟩ := hex
  have hm : i ∈ (List.range n).filter f := List.mem_filter.mpr ⟨List.mem_range.mpr hi, hf⟩
  cases hq : (List.range n).filter f with
  | nil => rw [hq] at hm; cases hm
  | cons k ks =>
    have hk : k ∈ (List.range n).filter f := by rw [hq]; exact List.mem_cons_self
    obtain ⟨k1, k2⟩ := List.mem_filter.mp hk
    unfold Each at h
    rw [hq] at h
    cases h with
    | cons a t => exact ⟨_, k, rfl, List.mem_range.mp k1, k2, a⟩
theorem ex_first {K : PySem.W.Frag} {σ : L2.St} {H : Hp} {lc : TE} {Pz : V → Hp → Prop} (h : ∀ H1, Ex H H1 → ∀ Q : VK, (∀ D zs z H2, Ex H1 H2 → H2 D = some (.lst zs) → zs[0]? = some z → Pz z H2 → Q (.ref D) H2) → lc σ H1 Q) : EvX (tOp (rIxL K) lc (tC (.int 0))) σ H Pz := fun H1 e Q q => h H1 e _ fun D zs z H2 e2 hz h0 hp =>
  ⟨D, zs, _, z, rfl, rfl, SqL.of hz, atI_nat h0, q z H2 e2 hp⟩
theorem ev_num {σ : L2.St} {H : Hp} {i j : Nat} {d : Addr} {y : V} {c : List Int} {done : Nums} (hd : σ[i]? = some (some (.ref d))) (hy : σ[j]? = some (some y)) (h : Pl H y c) (hc : c ∈ done.map (·.1)) (hH : H d = some (.dT (kvsOf done))) : Ev (tDGet (tVar i) (tVar j)) σ H (.int (lkN done c)) := fun H6 e6 Q6 q6 => by
  obtain ⟨t, rfl, ht⟩ := h.tx (tx_of e6)
  refine ⟨_, hd, _, hy, d, _, rfl, ?_, q6 H6 (Ex.refl _)⟩
  rw [← valV_kvs done c hc]
  exact DGet.t (e6 d _ hH) (by rw [ky_val]; exact ht)
theorem ev_maxV {K : PySem.W.Frag} {σ : L2.St} {H : Hp} {td : TE} {d : Addr} {done : Nums} {cs : List (List Int)} {M : Nat} (h : Ev td σ H (.ref d)) (hd : H d = some (.dT (kvsOf done))) (hk : done.map (·.1) = cs) (nd : cs.Nodup) (hp : ∀ c ∈ cs, 1 ≤ lkN done c) (hM : Top (lkN done) cs M) (hne : cs ≠ []) :
    Ev (tCB rMaxV (tCons (tBM0 K "dict" rValuesT td) tNil)) σ H (.int M) := fun H1 e Q q => by
  refine ev_values (K := K) h hd H1 e _ fun p H2 hp2 e2 hv2 => ?_
  have hd2 := e2 d _ (e d _ hd)
  subst hk
  have hv := nums_vals done nd
  refine ⟨p, d, _, done.map (·.2), rfl, hv2, hd2, kvs_vals done, ?_, fun m h1 h2 => ?_⟩
  · cases done with
    | nil => exact absurd rfl hne
    | cons e l => simp
  · have : m = M := by
      rw [hv] at h1 h2
      obtain ⟨c, hc, ec⟩ := List.mem_map.mp h1
      have g1 := hM.ub c hc
      have g2 := hp c hc
      rcases hM.hit with h0 | ⟨c', hc', ec'⟩
      · omega
      · have := h2 _ (List.mem_map.mpr ⟨c', hc', rfl⟩)
        omega
    rw [this]
    exact q H2 e2
/-- a chain of causes, and where it ends -/
def ChainOk (F : List Int → Int) (T : Tr) (ds : List Int) (ps : List (List Int)) (b : List Int) (ch : List (List Int)) (M : Nat) : Prop :=
  (ch = [] ∧ M = 0) ∨ (Chn F T ds ps b ch ∧ (∃ c, ch.head? = some c ∧ F c = 1) ∧ ∃ c, ch.getLast? = some c ∧ F c = M)
section
variable {P : Program} {w : World} {K : PySem.W.Frag} {mg : Str → Option Value} {base : Heap} {leaf C fi fc dp dg fo : Addr}
abbrev sWaveCount : Stmt := top 38
theorem scWaveCount : FnScope ["scan", "looks", "box"] ["scan", "looks", "box"] (defScope sWaveCount) := ⟨rfl, rfl, rfl, by decide +kernel, rfl, by decide +kernel, by decide +kernel⟩
def spWaveCount (C : Addr) : Sp := fun vs H Q _ => ∃ v l x ds T ps b, vs = [v, l, x] ∧ ScanAt C H v ds T ∧ ScanOk ds T ∧ Ls H l ps ∧ LooksOk ds.length ps ∧ Pl H x b ∧ BoxOk b ∧ b.length = ds.length ∧
  ∀ M F cs H', Ex H H' → OrderOk T ds b cs → IsNum F T ds ps b → Top F cs M → Q (.int (M : Nat)) H'
theorem ok_wave_count (B : Bt mg) (S : ScanK K mg leaf C fi fc dp dg fo) (F : Df K mg "wave_count" sWaveCount) (h_waves : Ok P w K mg base 9 "waves" ["scan", "looks", "box"] (spWaves C)) : Ok P w K mg base 10 "wave_count" ["scan", "looks", "box"] (spWaveCount C) := by
  refine ok_of F scWaveCount (fun vs H Q E h => by obtain ⟨v, l, x, ds, T, ps, b, rfl, _⟩ := h; rfl) (fun dV _ _ _ _ _ _ us hl e => by subst e; exact match us, hl with | [_, _, _], _ => rfl) fun f cdv A outer s H vs Q E hr h => ?_
  obtain ⟨v, l, x, ds, T, ps, b, rfl, hs, ho, hl, hps, hx, hb, hd, k⟩ := h
  refine ⟨_, (pss_one (ps_ret (pe_callB call_len_seq rfl B.len PySem.boot_len (pa_cons (pe_do h_waves hr rfl (pa_cons (pv 0) (pa_cons (pv 1) (pa_cons (pv 2) pa_nil)))) pa_nil)))), ?_⟩
  refine ⟨_, rfl, _, rfl, _, rfl, v, l, x, ds, T, ps, b, rfl, hs, ho, hl, hps, hx, hb, hd, fun D as M F cs qs H2 hD e2 h2 hlen hord hnum hM hperm rows each => ?_⟩
  refine ⟨D, as.map V.ref, rfl, .inl (SqL.of h2), ?_⟩
  rw [List.length_map, hlen]
  exact k M F cs H2 e2 hord hnum hM
abbrev sWaveChain : Stmt := top 39
theorem scWaveChain : FnScope ["scan", "looks", "box", "numbers", "here", "cell", "found", "other", "step"] ["scan", "looks", "box"] (defScope sWaveChain) := ⟨rfl, rfl, rfl, by decide +kernel, rfl, by decide +kernel, by decide +kernel⟩
def spWaveChain (C : Addr) : Sp := fun vs H Q _ => ∃ v l x ds T ps b, vs = [v, l, x] ∧ ScanAt C H v ds T ∧ ScanOk ds T ∧ Ls H l ps ∧ LooksOk ds.length ps ∧ Pl H x b ∧ BoxOk b ∧ b.length = ds.length ∧
  ∀ D ys ch M F cs H', H D = none → Ex H H' → H' D = some (.lst ys) → Paired (fun y c => Pl H' y c) ys ch → OrderOk T ds b cs → IsNum F T ds ps b → Top F cs M → ChainOk F T ds ps b ch M → ch.length ≤ 2001 → Q (.ref D) H'
theorem ok_wave_chain (B : Bt mg) (S : ScanK K mg leaf C fi fc dp dg fo) (F : Df K mg "wave_chain" sWaveChain) (h_need_all : Ok P w K mg base 8 "need_all" ["scan", "looks", "box"] (spNeedAll C)) (h_numbered : Ok P w K mg base 8 "numbered" ["scan", "looks", "box"] (spNumbered C)) (h_causes : Ok P w K mg base 8 "causes" ["scan", "looks", "box", "cell"] (spCauses C)) : Ok P w K mg base 9 "wave_chain" ["scan", "looks", "box"] (spWaveChain C) := by
  refine ok_of F scWaveChain (fun vs H Q E h => by obtain ⟨v, l, x, ds, T, ps, b, rfl, _⟩ := h; rfl) (fun dV _ _ _ _ _ _ us hl e => by subst e; exact match us, hl with | [_, _, _], _ => rfl) fun f cdv A outer s H vs Q E hr h => ?_
  obtain ⟨v, l, x, ds, T, ps, b, rfl, hs, ho, hl, hps, hx, hb, hd, k⟩ := h
  refine ⟨_, (pss_cons (ps_expr (pe_do h_need_all hr rfl (pa_cons (pv 0) (pa_cons (pv 1) (pa_cons (pv 2) pa_nil)))))
      (pss_cons (ps_set (i := 3) scWaveChain.nd rfl (Or.inr rfl) (pe_do h_numbered hr rfl (pa_cons (pv 0) (pa_cons (pv 1) (pa_cons (pv 2) pa_nil)))))
      (pss_cons (ps_if (pt_cmpR (op_eqE hr.units0) (pv 3) pe_dnewT (nomark _)) (pss_one (ps_ret (pe_lst pa_nil))) pss_nil)
      (pss_cons (ps_set (i := 4) scWaveChain.nd rfl (Or.inr rfl) (pe_ix ix_list (pe_lc (own := [("cell", 5)]) (g := (gName 5)) (tt := (tTest (tOp rEq (tDGet (tVar 3) (tVar 5)) (tCB rMaxV (tCons (tBM0 K "dict" rValuesT (tVar 3)) tNil))))) (te := (tVar 5)) rfl scWaveChain.nd (pi_list (pe_callB (cr_sortD (hu_in hr) rfl) rfl B.sorted (by decide +kernel) (pa_cons (pv 3) pa_nil))) (blkOk_by (own := [("cell", 5)]) (N := ["scan", "looks", "box", "numbers", "here", "cell", "found", "other", "step"]) (sc := defScope sWaveChain) (by decide +kernel)) (fun _ _ _ _ _ => (pg_name (i := 5) scWaveChain.nd rfl (Or.inl rfl) (Or.inr rfl))) (fun _ _ _ _ _ => pts_one (pt_cmpR op_eq (pe_dget (hu_of hr) (pv 3) (pv 5) (fun _ _ => rfl)) (pe_callB (cr_maxV rfl) rfl B.max (by decide +kernel) (pa_cons (pe_bm0 PySem.F.plainAttrs_dict PySem.F.slot_dict_values PySem.F.type_dict_values mt_valuesT (pv 3)) pa_nil)) (nomark _))) (fun _ _ _ _ _ => (pv 5))) pe_int (fun _ _ => rfl)))
      (pss_cons (ps_set (i := 6) scWaveChain.nd rfl (Or.inl rfl) (pe_lst (pa_cons (pv 4) pa_nil)))
      (pss_cons (ps_while PassesOwn.never (pt_cmpR op_gt (pe_dget (hu_of hr) (pv 3) (pv 4) (fun _ _ => rfl)) pe_int (nomark _)) (pss_cons (ps_set (i := 4) scWaveChain.nd rfl (Or.inr rfl) (pe_ix ix_list (pe_lc (own := [("other", 7), ("step", 8)]) (g := (gTup K 2 (gCons (gName 7) (gCons (gName 8) gNil)))) (tt := (tTest (tOp rEq (tOp (rI0 fun i j => .int (i + j)) (tDGet (tVar 3) (tVar 7)) (tVar 8)) (tDGet (tVar 3) (tVar 4))))) (te := (tVar 7)) rfl scWaveChain.nd (pi_list (pe_do h_causes hr rfl (pa_cons (pv 0) (pa_cons (pv 1) (pa_cons (pv 2) (pa_cons (pv 4) pa_nil)))))) (blkOk_by (own := [("other", 7), ("step", 8)]) (N := ["scan", "looks", "box", "numbers", "here", "cell", "found", "other", "step"]) (sc := defScope sWaveChain) (by decide +kernel)) (fun _ _ _ _ _ => (pg_tup rfl (pgs_cons (pg_name (i := 7) scWaveChain.nd rfl (Or.inl rfl) (Or.inr rfl)) (pgs_cons (pg_name (i := 8) scWaveChain.nd rfl (Or.inl rfl) (Or.inr rfl)) pgs_nil)))) (fun _ _ _ _ _ => pts_one (pt_cmpR op_eq (pe_op op_add (pe_dget (hu_of hr) (pv 3) (pv 7) (fun _ _ => rfl)) (pv 8)) (pe_dget (hu_of hr) (pv 3) (pv 4) (fun _ _ => rfl)) (nomark _))) (fun _ _ _ _ _ => (pv 7))) pe_int (fun _ _ => rfl)))
      (pss_one (ps_expr (pe_bm PySem.F.plainAttrs_list PySem.F.slot_list_insert PySem.F.type_list_insert mt_insert (pv 6) (pa_cons pe_int (pa_cons (pv 4) pa_nil)))))))
      (pss_one (ps_ret (pv 6))))))))), ?_⟩
  have hbf : BoxFor ds b ps := ⟨hb, hd, hps.2.2.2⟩
  refine q_drop (v := .non) (fun H1 e1 Q1 k1 => ⟨_, rfl, _, rfl, _, rfl, v, l, x, ds, T, ps, b, rfl, hs.ex e1, ho, hl.ex e1, hps, hx.tx (tx_of e1), hb, hd, fun H2 e2 => k1 H2 e2⟩) fun H1 e1 => ?_
  refine ⟨_, rfl, _, rfl, _, rfl, v, l, x, ds, T, ps, b, rfl, hs.ex e1, ho, hl.ex e1, hps, hx.tx (tx_of e1), hb, hd, fun d cs H2 hdn e2 h2d hord => ?_⟩
  have nd : cs.Nodup := (hord.perm.nodup_iff).mpr (nodup_cells hb)
  have lcs : cs.length ≤ 2000 := by rw [hord.perm.length_eq]; exact len_cells hb
  have hnum := isNum_nums hbf hord
  have hkeys := numsL_keys T ds ps b cs
  have hpos : ∀ c ∈ cs, 1 ≤ lkN (numsL T ds ps b cs) c := fun c hc => num_pos hnum c (hord.perm.mem_iff.mp hc)
  obtain ⟨M, hM, _⟩ := ev_top (K := K) (σ := [some v, some l, some x, some (.ref d), none, none, none]) (td := tVar 3) (H := H2) (ev_var rfl) h2d hkeys nd hpos lcs
  generalize hdone : numsL T ds ps b cs = done at hnum hpos hM h2d hkeys
  have e12 := e1.trans e2
  have hlen : (kvsOf done).length = cs.length := by
    unfold kvsOf
    rw [List.length_map, ← hkeys, List.length_map]
  -- numbers == {}
  have etst : EvT (tTest (tOp rEqE (tVar 3) tDNewT)) [some v, some l, some x, some (.ref d), none, none, none, none, none] H2 (cs.length == 0) := fun H3 e3 Q3 q3 => ⟨_, rfl, fun p hp => ⟨d, p, _, rfl, rfl, Ex.new hp d _ (e3 d _ h2d), upd_same, _, rfl, by rw [hlen]; exact q3 _ (Ex.new hp)⟩⟩
  refine q_when etst (fun hb0 H3 e3 => ?_) fun hb0 H3 e3 => ?_
  · have hcs : cs = [] := List.eq_nil_of_length_eq_zero (by simpa using hb0)
    subst hcs
    refine ⟨by decide, fun p hp => ?_⟩
    refine k p [] [] M (lkN done) [] _ (fresh_back (e12.trans e3) hp) ((e12.trans e3).trans (Ex.new hp)) upd_same .nil hord hnum hM (.inl ⟨rfl, ?_⟩) (by simp)
    rcases hM.hit with h | ⟨c, hc, _⟩
    · exact h
    · cases hc
  have hcs : cs ≠ [] := fun z => by rw [z] at hb0; simp at hb0
  have e13 := e12.trans e3
  have h3d := e3 d _ h2d
  have hok : ∀ c ∈ cs, c ∈ done.map (·.1) := fun c hc => by rw [hkeys]; exact hc
  obtain ⟨cM, hcM, ecM⟩ : ∃ c ∈ cs, lkN done c = M := by
    rcases hM.hit with h | h
    · obtain ⟨c, hc⟩ := List.exists_mem_of_ne_nil _ hcs
      have := hM.ub c hc
      have := hpos c hc
      omega
    · exact h
  have hne : ∀ c ∈ cs, c ≠ [] := fun p hp hp0 => by
    have h1 := ((mem_cells hb).mp (hord.perm.mem_iff.mp hp)).1
    have h2 := ho.div.one
    rw [hp0] at h1
    simp at h1
    omega
  -- here
  have fst : EvX (tOp (rIxL K) (tLc (iList K (tCB rSortD (tCons (tVar 3) tNil))) (gName 5) (tTest (tOp rEq (tDGet (tVar 3) (tVar 5)) (tCB rMaxV (tCons (tBM0 K "dict" rValuesT (tVar 3)) tNil)))) (tVar 5) [5]) (tC (.int 0))) [some v, some l, some x, some (.ref d), none, none, none, none, none] H3 (fun u H => ∃ c ∈ cs, lkN done c = M ∧ Pl H u c) := by
    refine ex_first fun H4 e4 Q4 q4 => ⟨_, rfl, d, _, cs, rfl, e4 d _ h3d, by rw [kvs_keys, hkeys], hne, fun ys qs L hperm hpair hL => ?_⟩
    have e4L : Ex H4 (upd H4 L (.lst ys)) := Ex.new hL
    have hyl := hpair.length
    refine ⟨L, rfl, ⟨ys, SqL.of upd_same⟩, ?_⟩
    refine lc_feeds (Q := Q4) (fun i => decide (∃ c, qs[i]? = some c ∧ lkN done c = M)) (fun i u H => ∀ c, qs[i]? = some c → Pl H u c) (feeds_list (SqL.of upd_same)) (sz_lt (by have := hperm.length_eq; omega)) (fun i u H H' t z c hc => (z c hc).tx t) ?_ ?_
    · intro i y H5 hi e5 hyi Q5 k5
      obtain ⟨c, hci, hyc⟩ := paired_getL hpair hyi
      have hcm : c ∈ cs := hperm.mem_iff.mp (List.mem_of_getElem? hci)
      have hd5 := e5 d _ (e4L d _ (e4 d _ h3d))
      have hy5 : Pl H5 y c := hyc.tx (tx_of (e4L.trans e5))
      refine turn_name (i := 0) (j := 5) (R := fun u H => ∀ c, qs[i]? = some c → Pl H u c) wipe1 ?_ (fun _ H6 e6 Q6 q6 => ⟨y, rfl, q6 y H6 (Ex.refl _) fun c' hc' => ?_⟩) Q5 k5
      · intro Q6 q6
        have t := et_test (ev_eqI (ev_num (σ := (wipe [some v, some l, some x, some (.ref d), none, none, none, none, none] [5]).set 5 (some y)) (i := 3) (j := 5) (H := H5) rfl rfl hy5 (hok c hcm) hd5) (ev_maxV (K := K) (td := tVar 3) (ev_var rfl) hd5 hkeys nd hpos hM hcs))
        have eb : decide (lkN done c = M) = decide (∃ c, qs[i]? = some c ∧ lkN done c = M) := by
          by_cases hh : lkN done c = M
          · rw [decide_eq_true hh, decide_eq_true ⟨c, hci, hh⟩]
          · rw [decide_eq_false hh, decide_eq_false]
            rintro ⟨c', h1, h2⟩
            rw [hci] at h1
            cases h1
            exact hh h2
        rw [eb] at t
        exact t H5 (Ex.refl _) Q6 q6
      · rw [hci] at hc'
        cases hc'
        exact hy5.tx (tx_of e6)
    · intro D zs H5 hD e5 hz each
      obtain ⟨i, hi, ei⟩ := List.mem_iff_getElem.mp (hperm.mem_iff.mpr hcM)
      obtain ⟨z, i, h0, hi, hf, hz0⟩ := first_of each ⟨i, by omega, decide_eq_true ⟨cM, by rw [List.getElem?_eq_getElem hi, ei], ecM⟩⟩
      obtain ⟨c, hc, hc2⟩ := of_decide_eq_true hf
      exact q4 D zs z H5 (e4L.trans e5) hz h0 ⟨c, hperm.mem_iff.mp (List.mem_of_getElem? hc), hc2, hz0 c hc⟩
  refine q_asgX fst fun hv H4 e4 ⟨c0, hc0, ec0, hpv⟩ => ?_
  have e14 := e13.trans e4
  -- found
  refine ⟨_, rfl, sz_of (by simp), fun fa hfa => ?_⟩
  have e15 := e14.trans (Ex.new (o := .lst [hv]) hfa)
  have hfn : H fa = none := fresh_back e14 hfa
  obtain ⟨i0, hi0, ei0⟩ := List.mem_iff_getElem.mp hc0
  have hdf : d ≠ fa := fun z => by rw [← z, e4 d _ h3d] at hfa; cases hfa
  refine q_while (fun m σ H' => ∃ c hv ys ch u1 u2 u3, cs[m]? = some c ∧ σ = [some v, some l, some x, some (.ref d), some hv, u1, some (.ref fa), u2, u3] ∧ Ex H H' ∧ Pl H' hv c ∧ H' d = some (.dT (kvsOf done)) ∧ H' fa = some (.lst ys) ∧ Paired (fun y c => Pl H' y c) ys ch ∧ Chn (lkN done) T ds ps b ch ∧ ch.head? = some c ∧ (∃ c, ch.getLast? = some c ∧ lkN done c = M) ∧ ch.length + m ≤ 2001) i0 ⟨c0, hv, [hv], [c0], _, _, _, by rw [List.getElem?_eq_getElem hi0, ei0], rfl, e15, hpv.tx (Tx.new hfa), Ex.new hfa d _ (e4 d _ h3d), upd_same, .cons (hpv.tx (Tx.new hfa)) .nil, .one (hord.perm.mem_iff.mp hc0), rfl, ⟨c0, rfl, ec0⟩, by simp; omega⟩ ?_
  rintro m σ H5 ⟨c, hv, ys, ch, u1, u2, u3, hcm, rfl, e5, hpv, h5d, h5f, hyp, hch, hhd, hlast, hsz⟩
  have hcc : c ∈ cs := List.mem_of_getElem? hcm
  refine ⟨decide (1 < lkN done c), et_test (ev_i0 (f := fun i j => .bl (decide (j < i))) (ev_num (i := 3) (j := 4) rfl rfl hpv (hok c hcc) h5d) ev_c), fun hb1 H6 e6 => ?_, fun hb1 H6 e6 => ?_⟩
  · have hgt := of_decide_eq_true hb1
    have hccb := hord.perm.mem_iff.mp hcc
    refine ⟨fun σ H' => ∃ m', m' < m ∧ ∃ c hv ys ch u1 u2 u3, cs[m']? = some c ∧ σ = [some v, some l, some x, some (.ref d), some hv, u1, some (.ref fa), u2, u3] ∧ Ex H H' ∧ Pl H' hv c ∧ H' d = some (.dT (kvsOf done)) ∧ H' fa = some (.lst ys) ∧ Paired (fun y c => Pl H' y c) ys ch ∧ Chn (lkN done) T ds ps b ch ∧ ch.head? = some c ∧ (∃ c, ch.getLast? = some c ∧ lkN done c = M) ∧ ch.length + m' ≤ 2001, fun σ2 H2 h => h, ?_⟩
    obtain ⟨qM, hqM, eqM⟩ := link_ex hnum hccb hgt
    have nxt : EvX (tOp (rIxL K) (tLc (iList K (tCall (spCauses C) [] E0 (tCons (tVar 0) (tCons (tVar 1) (tCons (tVar 2) (tCons (tVar 4) tNil)))))) (gTup K 2 (gCons (gName 7) (gCons (gName 8) gNil))) (tTest (tOp rEq (tOp (rI0 fun i j => .int (i + j)) (tDGet (tVar 3) (tVar 7)) (tVar 8)) (tDGet (tVar 3) (tVar 4)))) (tVar 7) [7, 8]) (tC (.int 0))) [some v, some l, some x, some (.ref d), some hv, u1, some (.ref fa), u2, u3] H6
        (fun u H => ∃ q ∈ causesOf T ds ps b c, lkN done q.1 + q.2 = lkN done c ∧ Pl H u q.1) := by
      refine ex_first fun H7 e7 Q7 q7 => ⟨_, rfl, _, rfl, _, rfl, _, rfl, v, l, x, hv, ds, T, ps, b, c, rfl, hs.ex ((e5.trans e6).trans e7), ho, hl.ex ((e5.trans e6).trans e7), hps, hx.tx (tx_of ((e5.trans e6).trans e7)), hb, hd, hpv.tx (tx_of (e6.trans e7)), hccb, fun L zs H8 hL e8 hz hpz => ?_⟩
      have hzl := hpz.length
      have e68 := (e6.trans e7).trans e8
      refine ⟨L, rfl, ⟨zs, SqL.of hz⟩, ?_⟩
      refine lc_feeds (Q := Q7) (fun i => decide (∃ q, (causesOf T ds ps b c)[i]? = some q ∧ lkN done q.1 + q.2 = lkN done c)) (fun i u H => ∀ q, (causesOf T ds ps b c)[i]? = some q → Pl H u q.1) (feeds_list (SqL.of hz)) (sz_lt (by have := len_causes T ds b c ps; have := hps.2.1; omega)) (fun i u H H' t z q hq => (z q hq).tx t) ?_ ?_
      · intro i y H9 hi e9 hyi Q9 k9
        obtain ⟨q, hqi, z, ⟨t, rfl, ht2⟩, hz2⟩ := paired_getL hpz hyi
        obtain ⟨m1, m2⟩ := cause_mem hb hd hccb hps.2.2.2 (List.mem_of_getElem? hqi)
        have hqc : q.1 ∈ cs := hord.perm.mem_iff.mpr m1
        have h9d := e9 d _ (e68 d _ h5d)
        have hz9 : Pl H9 z q.1 := hz2.tx (tx_of e9)
        refine ⟨t, _, rfl, SqT.of (e9 t _ ht2), rfl, _, _, rfl, _, _, rfl, rfl, k9 _ H9 (Ex.refl _) (wipe2 (by decide)) ?_ fun _ H10 e10 Q10 q10 => ⟨z, rfl, q10 z H10 (Ex.refl _) fun q' hq' => ?_⟩⟩
        · intro Q10 q10
          have t := et_test (ev_eqI (ev_i0 (f := fun i j => .int (i + j)) (ev_num (σ := ((wipe [some v, some l, some x, some (.ref d), some hv, u1, some (.ref fa), u2, u3] [7, 8]).set 7 (some z)).set 8 (some (.int q.2))) (i := 3) (j := 7) (H := H9) rfl rfl hz9 (hok _ hqc) h9d) (ev_var (i := 8) rfl)) (ev_num (i := 3) (j := 4) rfl rfl (hpv.tx (tx_of (e68.trans e9))) (hok c hcc) h9d))
          have eb : decide (lkN done q.1 + q.2 = lkN done c) = decide (∃ q, (causesOf T ds ps b c)[i]? = some q ∧ lkN done q.1 + q.2 = lkN done c) := by
            by_cases hh : lkN done q.1 + q.2 = lkN done c
            · rw [decide_eq_true hh, decide_eq_true ⟨q, hqi, hh⟩]
            · rw [decide_eq_false hh, decide_eq_false]
              rintro ⟨q', h1, h2⟩
              rw [hqi] at h1
              cases h1
              exact hh h2
          rw [eb] at t
          exact t H9 (Ex.refl _) Q10 q10
        · rw [hqi] at hq'
          cases hq'
          exact hz9.tx (tx_of e10)
      · intro D zs2 H9 hD e9 hz9 each
        obtain ⟨i, hi, ei⟩ := List.mem_iff_getElem.mp hqM
        obtain ⟨z, i, h0, hi, hf, hz0⟩ := first_of each ⟨i, by omega, decide_eq_true ⟨qM, by rw [List.getElem?_eq_getElem hi, ei], eqM⟩⟩
        obtain ⟨q, hq, hq2⟩ := of_decide_eq_true hf
        exact q7 D zs2 z H9 (e8.trans e9) hz9 h0 ⟨q, List.mem_of_getElem? hq, hq2, hz0 q hq⟩
    refine q_asgX nxt fun nv H7 e7 ⟨q, hq, eq2, hpn⟩ => ?_
    obtain ⟨m1, m2⟩ := cause_mem hb hd hccb hps.2.2.2 hq
    have hlink := link_of hbf hnum hccb (o := q.1) (s := q.2) hq eq2
    have hin := earlier hord hcm m1 m2
    obtain ⟨j, hj, ej⟩ := List.mem_iff_getElem.mp hin
    rw [List.length_take] at hj
    rw [List.getElem_take] at ej
    have e67 := e6.trans e7
    have h7f := e67 fa _ h5f
    have tx7 : Tx H5 (upd H7 fa (.lst ([nv] ++ ys))) := (tx_of e67).trans (Tx.lst h7f)
    have hyl := hyp.length
    refine ⟨_, rfl, .inl ⟨rfl, _, SqL.of h7f⟩, _, rfl, fa, ys, 0, nv, rfl, rfl, h7f, sz_lt (by omega), by decide, by decide, j, by omega, q.1, nv, [nv] ++ ys, q.1 :: ch, _, _, _, by rw [List.getElem?_eq_getElem (by omega), ej], rfl, (e5.trans e67).mut hfn, hpn.tx (Tx.lst h7f), ?_, upd_same, .cons (hpn.tx (Tx.lst h7f)) (Paired.mapP hyp fun _ _ z => z.tx tx7), ?_, rfl, ?_, by simp; omega⟩
    · rw [upd_ne hdf]; exact e67 d _ h5d
    · cases ch with
      | nil => cases hhd
      | cons c' r =>
        have : c' = c := Option.some.inj hhd
        subst this
        exact .cons hlink hch
    · obtain ⟨cl, h1, h2⟩ := hlast
      refine ⟨cl, ?_, h2⟩
      rw [List.getLast?_cons, h1]
      rfl
  · refine ⟨_, rfl, k fa ys ch M (lkN done) cs H6 hfn (e5.trans e6) (e6 fa _ h5f) (Paired.mapP hyp fun _ _ z => z.tx (tx_of e6)) hord hnum hM (.inr ⟨hch, ⟨c, hhd, ?_⟩, hlast⟩) (by omega)⟩
    have h1 := of_decide_eq_false hb1
    have h2 := hpos c hcc
    omega
end
end Lk


/-! Lookscan: chain_waves. -/
namespace Lk
open PySem PySem.Spec PyProof.Rows L2 Evl
theorem Chn.mem {F : List Int → Int} {T : Tr} {ds b : List Int} {ps ch : List (List Int)} (h : Chn F T ds ps b ch) : ∀ c ∈ ch, c ∈ cellsOf b := by
  induction h with
  | one hc => intro c h; rw [List.mem_singleton.mp h]; exact hc
  | cons hl _ ih =>
    intro c h
    rcases List.mem_cons.mp h with rfl | h
    · exact hl.mo
    · exact ih c h
theorem Chn.link {F : List Int → Int} {T : Tr} {ds b : List Int} {ps ch : List (List Int)} (h : Chn F T ds ps b ch) : ∀ {i : Nat} {o c : List Int}, ch[i]? = some o → ch[i + 1]? = some c → Link F T ds ps b o c := by
  induction h with
  | one hc => intro i o c h1 h2; simp at h2
  | cons hl _ ih =>
    intro i o c h1 h2
    cases i with
    | zero =>
      rw [List.getElem?_cons_zero] at h1
      rw [List.getElem?_cons_succ, List.getElem?_cons_zero] at h2
      cases h1
      cases h2
      exact hl
    | succ i =>
      rw [List.getElem?_cons_succ] at h1 h2
      exact ih h1 h2
theorem Chn.ne {F : List Int → Int} {T : Tr} {ds b : List Int} {ps ch : List (List Int)} (h : Chn F T ds ps b ch) : ch ≠ [] := by
  cases h <;> exact List.cons_ne_nil _ _
/-- where a chain ends -/
theorem ChainOk.start {F : List Int → Int} {T : Tr} {ds b : List Int} {ps ch : List (List Int)} {M : Nat} (h : ChainOk F T ds ps b ch M) : ∀ o, ch[0]? = some o → F o = 1 := by
  intro o ho
  rcases h with ⟨h1, h2⟩ | ⟨h1, ⟨c, h2, h3⟩, _⟩
  · subst h1; simp at ho
  · rw [List.head?_eq_getElem?, ho] at h2
    cases h2
    exact h3
theorem ChainOk.stop {F : List Int → Int} {T : Tr} {ds b : List Int} {ps ch : List (List Int)} {M : Nat} (h : ChainOk F T ds ps b ch M) : ∀ o, ch[ch.length - 1]? = some o → F o = M := by
  intro o ho
  rcases h with ⟨h1, h2⟩ | ⟨h1, _, ⟨c, h2, h3⟩⟩
  · subst h1; simp at ho
  · rw [List.getLast?_eq_getElem?, ho] at h2
    cases h2
    exact h3
theorem cut_drop1 (xs : List V) : cutV xs (some 1) none = xs.drop 1 := by
  have e1 : HT.sIx xs.length 0 (some 1) = min 1 xs.length := by
    rw [show (1 : Int) = ((1 : Nat) : Int) from rfl, HT.sIx_nat]
  have e2 : HT.sIx xs.length xs.length none = xs.length := rfl
  unfold cutV
  rw [e1, e2]
  cases xs with
  | nil => rfl
  | cons x xs =>
    have : min 1 (x :: xs).length = 1 := by simp only [List.length_cons]; omega
    rw [this, List.take_of_length_le (by rw [List.length_drop]; exact Nat.le_refl _)]
theorem ev_intB {σ : L2.St} {H : Hp} {te : TE} {b : Bool} (h : Ev te σ H (.bl b)) : Ev (tCB (fun xs H Q => (∃ i, xs = [V.int i] ∧ Q (V.int i) H) ∨ ∃ k, xs = [V.bl k] ∧ Q (V.int (if k then 1 else 0)) H) (tCons te tNil)) σ H (.int (if b then 1 else 0)) := fun H1 e Q q => h H1 e _ fun H2 e2 => .inr ⟨b, rfl, q H2 e2⟩
theorem ev_inL {K : PySem.W.Frag} {σ : L2.St} {H : Hp} {ta tb : TE} {l : V} {p : List Int} {ps : List (List Int)} (h : EvX ta σ H fun v H2 => Pl H2 v p) (h2 : Ev tb σ H l) (hl : Ls H l ps) : Ev (tOp (rInD K) ta tb) σ H (.bl (decide (p ∈ ps))) := fun H1 e Q q => h H1 e _ fun v H2 e2 hv => h2 H2 (e.trans e2) _ fun H3 e3 => by
  obtain ⟨xs, ⟨a, rfl, ha⟩, hp⟩ := hl.ex ((e.trans e2).trans e3)
  refine ⟨_, _, dp_pl (hv.tx (tx_of e3)), .lst (SqL.of ha) (dpAll_pls hp), shaped_ints _, shaped_pls _, ?_⟩
  rw [any_pls]
  exact q H3 (e2.trans e3)
theorem ev_niL {K : PySem.W.Frag} {σ : L2.St} {H : Hp} {ta tb : TE} {l : V} {p : List Int} {ps : List (List Int)} (h : EvX ta σ H fun v H2 => Pl H2 v p) (h2 : Ev tb σ H l) (hl : Ls H l ps) : Ev (tOp (rNotInD K) ta tb) σ H (.bl (!decide (p ∈ ps))) := fun H1 e Q q => h H1 e _ fun v H2 e2 hv => h2 H2 (e.trans e2) _ fun H3 e3 => by
  obtain ⟨xs, ⟨a, rfl, ha⟩, hp⟩ := hl.ex ((e.trans e2).trans e3)
  refine ⟨_, _, dp_pl (hv.tx (tx_of e3)), .lst (SqL.of ha) (dpAll_pls hp), shaped_ints _, shaped_pls _, ?_⟩
  rw [any_pls]
  exact q H3 (e2.trans e3)
section
variable {P : Program} {w : World} {K : PySem.W.Frag} {mg : Str → Option Value} {base : Heap} {leaf C fi fc dp dg fo : Addr}
abbrev sChainWaves : Stmt := top 40
theorem scChainWaves : FnScope ["scan", "looks", "chain", "cell", "found", "one", "other"] ["scan", "looks", "chain"] (defScope sChainWaves) := ⟨rfl, rfl, rfl, by decide +kernel, rfl, by decide +kernel, by decide +kernel⟩
def spChainWaves (C : Addr) : Sp := fun vs H Q _ => ∃ v l y ds T ps b F ys ch M, vs = [v, l, y] ∧ ScanAt C H v ds T ∧ ScanOk ds T ∧ Ls H l ps ∧ LooksOk ds.length ps ∧ BoxOk b ∧ b.length = ds.length ∧ Lp H y ys ∧ Paired (fun y c => Pl H y c) ys ch ∧ ChainOk F T ds ps b ch M ∧ ch.length ≤ 2001 ∧
  ∀ H', Ex H H' → Q (.int (M : Nat)) H'
theorem ok_chain_waves (B : Bt mg) (S : ScanK K mg leaf C fi fc dp dg fo) (F : Df K mg "chain_waves" sChainWaves) (h_need_looks : Ok P w K mg base 4 "need_looks" ["looks", "directions"] spNeedLooks) (h_need_place : Ok P w K mg base 4 "need_place" ["value", "many"] spNeedPlace) (h_minus : Ok P w K mg base 4 "minus" ["one", "other"] (sp2 subP)) (h_directions : OkF P w K mg base 3 dg ["self"] (spDirections C)) (h_call : OkF P w K mg base 4 fc ["self", "one", "other"] (spScanCall C)) : Ok P w K mg base 5 "chain_waves" ["scan", "looks", "chain"] (spChainWaves C) := by
  refine ok_of F scChainWaves (fun vs H Q E h => by obtain ⟨v, l, y, ds, T, ps, b, G, ys, ch, M, rfl, _⟩ := h; rfl) (fun dV _ _ _ _ _ _ us hl e => by subst e; exact match us, hl with | [_, _, _], _ => rfl) fun f cdv A outer s H vs Q E hr h => ?_
  obtain ⟨v, l, y, ds, T, ps, b, G, ys, ch, M, rfl, hs, ho, hl, hps, hb, hd, ⟨ya, rfl, hya⟩, hyp, hch, hsz, k⟩ := h
  refine ⟨_, (pss_cons (ps_expr (pe_do h_need_looks hr rfl (pa_cons (pv 1) (pa_cons (pe_doP h_directions (pv 0) S.cls S.directions hr rfl) pa_nil))))
      (pss_cons (ps_for PassesOwn.never rfl (pi_list (pv 2)) (pg_name (i := 3) scChainWaves.nd rfl (Or.inl rfl))
      (pss_one (ps_expr (pe_do h_need_place hr rfl (pa_cons (pv 3) (pa_cons (pe_doP h_directions (pv 0) S.cls S.directions hr rfl) pa_nil))))))
      (pss_cons (ps_set (i := 4) scChainWaves.nd rfl (Or.inl rfl) (pe_callTy call_int1 rfl B.int (by decide +kernel) (pa_cons (pe_cmpR op_gt (pe_callB call_len_seq rfl B.len PySem.boot_len (pa_cons (pv 2) pa_nil)) pe_int (nomark _)) pa_nil)))
      (pss_cons (ps_for PassesOwn.never rfl (RZ.pi_zipA rfl B.zip (pa_cons (pv 2) (pa_cons (pe_slice sl_list (pv 2) (po_some pe_int) po_none) pa_nil))) (pg_tup rfl (pgs_cons (pg_name (i := 5) scChainWaves.nd rfl (Or.inl rfl)) (pgs_cons (pg_name (i := 6) scChainWaves.nd rfl (Or.inl rfl)) pgs_nil)))
      (pss_cons (ps_if (PW.pt (pw_or (pt_not (pt_val (pe_doC h_call (pv 0) S.call hr (pa_cons (pv 5) (pa_cons (pv 6) pa_nil))))) (pw_or1 (PW.pt (pw_and (pt_cmpR (op_notInD (hu65 hr)) (pe_do h_minus hr rfl (pa_cons (pv 5) (pa_cons (pv 6) pa_nil))) (pv 1) (by with_unfolding_all rfl)) (pw_and1 (pt_cmpR (op_notInD (hu65 hr)) (pe_do h_minus hr rfl (pa_cons (pv 6) (pa_cons (pv 5) pa_nil))) (pv 1) (by with_unfolding_all rfl)))))))) (pss_one (ps_ret pe_non)) pss_nil)
      (pss_one (ps_aug (i := 4) scChainWaves.nd rfl (Or.inl rfl) (pe_callTy call_int1 rfl B.int (by decide +kernel) (pa_cons (pe_cmpR (op_inD (hu65 hr)) (pe_do h_minus hr rfl (pa_cons (pv 5) (pa_cons (pv 6) pa_nil))) (pv 1) (by with_unfolding_all rfl)) pa_nil)) ip_add))))
      (pss_one (ps_ret (pv 4))))))), ?_⟩
  have d3 := ho.div.three
  have hyl := hyp.length
  have hmem : ∀ c ∈ ch, c ∈ cellsOf b := fun c hc => by
    rcases hch with ⟨h1, _⟩ | ⟨h1, _⟩
    · rw [h1] at hc; cases hc
    · exact h1.mem c hc
  refine q_drop (v := .non) (fun H1 e1 Q1 k1 => ?_) fun H1 e1 => ?_
  · exact ex_call (Pz := fun v _ => v = .non) (ea2 (ev_var rfl) (ev_directions (ev_var rfl) (hs.ex e1))) (fun H2 e2 Q2 E2 q2 => ⟨l, ps, ds.length, rfl, hl.ex (e1.trans e2), by omega, hps, fun H3 e3 => q2 _ H3 e3 rfl⟩) H1 (Ex.refl _) _ fun v H2 e2 hv => by subst hv; exact k1 H2 e2
  refine ⟨_, rfl, ya, rfl, ⟨ys, SqL.of (e1 ya _ hya)⟩, ?_⟩
  refine for_list (fun i σ H' => Ex H H' ∧ ∃ u, σ = [some v, some l, some (.ref ya), u, none, none, none]) ⟨e1, _, rfl⟩ (fun i σ H' hi h => SqL.of (h.1 ya _ hya)) ?_ ?_
  · rintro i y σ H2 hi ⟨e2, u, rfl⟩
    obtain ⟨c, hci, hyc⟩ := paired_getL hyp hi
    have hcb := hmem c (List.mem_of_getElem? hci)
    have cok := cell_ok hb hd hcb
    refine s_drop (ev_need_place (ea2 (ev_var rfl) (ev_directions (ev_var rfl) (hs.ex e2))) (hyc.tx (tx_of e2)) (by rw [cok.len]) (by rw [cok.len]; omega)) fun H3 e3 => ⟨e2.trans e3, _, rfl⟩
  rintro σ H2 ⟨e2, u, rfl⟩
  refine q_asg (ev_intB (ev_i0 (f := fun i j => .bl (decide (j < i))) (ev_len (K := K) (p := ya) (ev_var rfl) (SqL.of (e2 ya _ hya))) ev_c)) fun H3 e3 => ?_
  have e23 := e2.trans e3
  -- zip(chain, chain[1:])
  refine ⟨_, rfl, _, rfl, 1, rfl, ya, ys, rfl, SqL.of (e23 ya _ hya), fun zb hzb => ?_⟩
  rw [cut_drop1]
  have e4 : Ex H3 (upd H3 zb (.lst (ys.drop 1))) := Ex.new hzb
  have e24 := e23.trans e4
  have h4 := e24 ya _ hya
  refine ⟨ya, zb, ys, ys.drop 1, rfl, .inl ⟨SqL.of h4, SqL.of upd_same, ?_⟩⟩
  have hmin : min ys.length (ys.drop 1).length = ys.length - 1 := by rw [List.length_drop]; omega
  refine for_feeds (feeds_zipL (SqL.of h4) (SqL.of upd_same)) (fun i σ H' => Ex (upd H3 zb (.lst (ys.drop 1))) H' ∧ ∃ (n : Int) (u1 u2 u3 : Option V), σ = [some v, some l, some (.ref ya), u1, some (.int n), u2, u3] ∧ (∀ o, ch[i]? = some o → n = G o) ∧ (ch = [] → n = M)) ⟨Ex.refl _, _, _, _, _, rfl, fun o ho => ?_, fun h0 => ?_⟩ (fun i σ H' h => h.1) ?_ ?_
  · rw [hch.start o ho]
    have : 0 < ch.length := (List.getElem?_eq_some_iff.mp ho).1
    rw [decide_eq_true (by omega), if_pos rfl]
  · rcases hch with ⟨_, h2⟩ | ⟨h1, _⟩
    · have : ys.length = 0 := by rw [hyl, h0]; rfl
      rw [this, h2]
      rfl
    · exact absurd h0 h1.ne
  · rintro i z σ H5 H6 hi ⟨e5, n, u1, u2, u3, rfl, hn, hn0⟩ e6 ⟨y1, y2, ⟨t, rfl, ht⟩, hy1, hy2⟩
    rw [List.getElem?_drop, Nat.add_comm] at hy2
    obtain ⟨o, ho1, hp1⟩ := paired_getL hyp hy1
    obtain ⟨c, hc1, hp2⟩ := paired_getL hyp hy2
    have hcn : Chn G T ds ps b ch := by
      rcases hch with ⟨h1, _⟩ | ⟨h1, _⟩
      · rw [h1] at ho1; simp at ho1
      · exact h1
    have lk := hcn.link ho1 hc1
    have oko := cell_ok hb hd lk.mo
    have okc := cell_ok hb hd lk.mc
    have e26 := (e24.trans e5).trans e6
    refine ⟨t, _, rfl, SqT.of ht, rfl, _, _, rfl, _, _, rfl, rfl, ?_⟩
    have hmo : ∀ {H7 : Hp}, Ex H H7 → EvX (tCall (sp2 subP) [] E0 (tCons (tVar 5) (tCons (tVar 6) tNil))) [some v, some l, some (.ref ya), u1, some (.int n), some y1, some y2] H7 (fun v H2 => Pl H2 v (subP o c)) := fun e7 => ex_sp2 (ea2 (ev_var rfl) (ev_var rfl)) (hp1.tx (tx_of e7)) (hp2.tx (tx_of e7)) (by rw [oko.len, okc.len]) (by rw [oko.len]; omega)
    have hmc : ∀ {H7 : Hp}, Ex H H7 → EvX (tCall (sp2 subP) [] E0 (tCons (tVar 6) (tCons (tVar 5) tNil))) [some v, some l, some (.ref ya), u1, some (.int n), some y1, some y2] H7 (fun v H2 => Pl H2 v (subP c o)) := fun e7 => ex_sp2 (ea2 (ev_var rfl) (ev_var rfl)) (hp2.tx (tx_of e7)) (hp1.tx (tx_of e7)) (by rw [oko.len, okc.len]) (by rw [okc.len]; omega)
    have tst := et_or (et_not (et_B (ev_scan_call (X := (cxOf CX0 P w K mg base ["scan", "looks", "chain", "cell", "found", "one", "other"] "chain_waves" (defScope sChainWaves) f cdv A outer s H E).nox) (σ := [some v, some l, some (.ref ya), u1, some (.int n), some y1, some y2]) (te := tVar 0) (ta := tCons (tVar 5) (tCons (tVar 6) tNil)) (ev_var rfl) (ea2 (ev_var rfl) (ev_var rfl)) (hs.ex e26) ho (hp1.tx (tx_of e26)) (hp2.tx (tx_of e26)) oko okc))) fun _ => et_and (et_test (ev_niL (K := K) (tb := tVar 1) (hmo e26) (ev_var rfl) (hl.ex e26))) fun _ => et_test (ev_niL (K := K) (tb := tVar 1) (hmc e26) (ev_var rfl) (hl.ex e26))
    have tb : (!before T ds o c || (!decide (subP o c ∈ ps) && !decide (subP c o ∈ ps))) = false := by
      rw [lk.bef]
      rcases lk.near with h | h
      · rw [decide_eq_true h]; rfl
      · rw [decide_eq_true h]; simp
    rw [tb] at tst
    refine q_when tst (fun z => by cases z) fun _ H7 e7 => ?_
    have e27 := e26.trans e7
    refine s_aug rfl (ev_intB (ev_inL (K := K) (tb := tVar 1) (hmo e27) (ev_var rfl) (hl.ex e27))) fun H8 e8 => ⟨((e5.trans e6).trans e7).trans e8, _, _, _, _, rfl, fun o' ho' => ?_, fun h0 => ?_⟩
    · rw [hc1] at ho'
      cases ho'
      rw [lk.step, hn o ho1]
      by_cases hh : subP o c ∈ ps
      · rw [if_pos hh, decide_eq_true hh, if_pos rfl]
      · rw [if_neg hh, decide_eq_false hh, if_neg Bool.false_ne_true]
    · exact absurd h0 hcn.ne
  · rintro σ H5 ⟨e5, n, u1, u2, u3, rfl, hn, hn0⟩
    have : n = M := by
      by_cases h0 : ch = []
      · exact hn0 h0
      · have hpos : 0 < ch.length := List.length_pos_iff.mpr h0
        have hlt : ch.length - 1 < ch.length := by omega
        rw [hmin, hyl] at hn
        rw [hn _ (List.getElem?_eq_getElem hlt)]
        exact hch.stop _ (List.getElem?_eq_getElem hlt)
    subst this
    exact ⟨_, rfl, k H5 (e24.trans e5)⟩
end
end Lk


/-! Lookscan: the law's bag. -/
namespace Lk
open PySem PySem.Spec PyProof.Rows L2 Evl
/-- the bag -/
def BagAt (ba li : Addr) (H : Hp) : Prop := ∃ (ns : List Int) (i : Nat) (g s : Int), H ba = some (.lst [.ref li, .int (i : Nat), .int g, .int s]) ∧ li ≠ ba ∧ H li = some (.lst (ns.map V.int)) ∧ 0 ≤ g ∧ 0 ≤ s ∧ s < 2147483647
theorem ExB.refl {ba : Addr} (H : Hp) : ExB ba H H := fun _ _ _ h => h
theorem ExB.trans {ba : Addr} {H H1 H2 : Hp} (a : ExB ba H H1) (b : ExB ba H1 H2) : ExB ba H H2 := fun x o hx h => b x o hx (a x o hx h)
theorem ExB.of {ba : Addr} {H H' : Hp} (e : Ex H H') : ExB ba H H' := fun x o _ h => e x o h
theorem BagAt.ex {ba li : Addr} {H H' : Hp} (e : Ex H H') (h : BagAt ba li H) : BagAt ba li H' := by
  obtain ⟨ns, i, g, s, h1, h2, h3, h4⟩ := h
  exact ⟨ns, i, g, s, e ba _ h1, h2, e li _ h3, h4⟩
theorem BagAt.tx {ba li : Addr} {H H' : Hp} (h : BagAt ba li H) (e : ExB ba H H') : Tx H H' := fun a xs ha => by
  obtain ⟨ns, i, g, s, h1, _⟩ := h
  exact e a _ (fun z => by rw [z, h1] at ha; cases ha) ha
theorem BagAt.ne {ba li a : Addr} {H : Hp} (h : BagAt ba li H) (ha : H a = none) : a ≠ ba := fun z => by
  obtain ⟨ns, i, g, s, h1, _⟩ := h
  rw [z, h1] at ha
  cases ha
theorem BagAt.ne2 {ba li a : Addr} {H : Hp} (h : BagAt ba li H) (ha : H a = none) : a ≠ li := fun z => by
  obtain ⟨ns, i, g, s, h1, h2, h3, _⟩ := h
  rw [z, h3] at ha
  cases ha
theorem exb_mut {ba D : Addr} {H H' : Hp} {o : HO} (e : ExB ba H H') (h : H D = none) : ExB ba H (upd H' D o) := fun a u hb ha => by
  rw [upd_ne (fun z => by rw [z, h] at ha; cases ha)]
  exact e a u hb ha
theorem exb_bag {ba : Addr} {H H' : Hp} {o : HO} (e : ExB ba H H') : ExB ba H (upd H' ba o) := fun a u hb ha => by
  rw [upd_ne hb]
  exact e a u hb ha
theorem fresh_exb {ba D : Addr} {H H' : Hp} (e : ExB ba H H') (hD : D ≠ ba) (h : H' D = none) : H D = none := by
  cases hq : H D with
  | none => rfl
  | some o => rw [e D o hD hq] at h; cases h
theorem bag_mut {ba li D : Addr} {H : Hp} {o : HO} (h : BagAt ba li H) (h1 : D ≠ ba) (h2 : D ≠ li) : BagAt ba li (upd H D o) := by
  obtain ⟨ns, i, g, s, b1, b2, b3, b4⟩ := h
  exact ⟨ns, i, g, s, by rw [upd_ne (Ne.symm h1)]; exact b1, b2, by rw [upd_ne (Ne.symm h2)]; exact b3, b4⟩
section
variable {K : PySem.W.Frag} {σ : L2.St} {H : Hp} {ba li : Addr} {i g s : Int}
theorem ev_intI {te : TE} {k : Int} (h : Ev te σ H (.int k)) : Ev (tCB (fun xs H Q => (∃ i, xs = [V.int i] ∧ Q (V.int i) H) ∨ ∃ k, xs = [V.bl k] ∧ Q (V.int (if k then 1 else 0)) H) (tCons te tNil)) σ H (.int k) := fun H1 e Q q => h H1 e _ fun H2 e2 => .inl ⟨k, rfl, q H2 e2⟩
theorem ev_b0 (h : σ[0]? = some (some (.ref ba))) (hb : H ba = some (.lst [.ref li, .int i, .int g, .int s])) : Ev (tOp (rIxL K) (tVar 0) (tC (.int 0))) σ H (.ref li) := ev_ixL 0 (ev_var h) ⟨ba, rfl, hb⟩ ev_c rfl rfl
theorem ev_b1 (h : σ[0]? = some (some (.ref ba))) (hb : H ba = some (.lst [.ref li, .int i, .int g, .int s])) : Ev (tOp (rIxL K) (tVar 0) (tC (.int 1))) σ H (.int i) := ev_ixL 1 (ev_var h) ⟨ba, rfl, hb⟩ ev_c rfl rfl
theorem ev_b2 (h : σ[0]? = some (some (.ref ba))) (hb : H ba = some (.lst [.ref li, .int i, .int g, .int s])) : Ev (tOp (rIxL K) (tVar 0) (tC (.int 2))) σ H (.int g) := ev_ixL 2 (ev_var h) ⟨ba, rfl, hb⟩ ev_c rfl rfl
theorem ev_b3 (h : σ[0]? = some (some (.ref ba))) (hb : H ba = some (.lst [.ref li, .int i, .int g, .int s])) : Ev (tOp (rIxL K) (tVar 0) (tC (.int 3))) σ H (.int s) := ev_ixL 3 (ev_var h) ⟨ba, rfl, hb⟩ ev_c rfl rfl
end
section
variable {P : Program} {w : World} {K : PySem.W.Frag} {mg : Str → Option Value} {base : Heap} {leaf C fi fc dp dg fo : Addr}
abbrev sLawPull : Stmt := top 57
theorem scLawPull : FnScope ["_law_bag_here", "_law_amount", "_law_cell", "_law_got", "_law_seed"] ["_law_bag_here", "_law_amount"] (defScope sLawPull) := ⟨rfl, rfl, rfl, by decide +kernel, rfl, by decide +kernel, by decide +kernel⟩
def spLawPull : Sp := fun vs H Q _ => ∃ ba li n, vs = [.ref ba, .int n] ∧ BagAt ba li H ∧ 0 < n ∧ n < 2 ^ 64 ∧ ∀ r H', 0 ≤ r → r < n → ExB ba H H' → BagAt ba li H' → Q (.int r) H'
theorem ok_law_pull (B : Bt mg) (F : Df K mg "_law_pull" sLawPull) : Ok P w K mg base 1 "_law_pull" ["_law_bag_here", "_law_amount"] spLawPull := by
  refine ok_of F scLawPull (fun vs H Q E h => by obtain ⟨ba, li, n, rfl, _⟩ := h; rfl) (fun dV _ _ _ _ _ _ us hl e => by subst e; exact match us, hl with | [_, _], _ => rfl) fun f cdv A outer s H vs Q E hr h => ?_
  obtain ⟨ba, li, n, rfl, hbag, hn0, hn1, k⟩ := h
  refine ⟨_, (pss_cut (ps_if (PW.pt (pw_and (pt_cmpR op_eq (pe_ix ix_list (pv 0) pe_int (fun _ _ => rfl)) pe_int (nomark _)) (pw_and1 (pt_cmpR op_lt (pe_ix ix_list (pv 0) pe_int (fun _ _ => rfl)) (pe_callB call_len_seq rfl B.len PySem.boot_len (pa_cons (pe_ix ix_list (pv 0) pe_int (fun _ _ => rfl)) pa_nil)) (nomark _))))) (pss_cons (ps_set (i := 2) scLawPull.nd rfl (Or.inl rfl) (pe_ix ix_list (pe_ix ix_list (pv 0) pe_int (fun _ _ => rfl)) (pe_ix ix_list (pv 0) pe_int (fun _ _ => rfl)) (fun _ _ => rfl)))
      (pss_cons (ps_asg (pe_op op_add (pe_ix ix_list (pv 0) pe_int (fun _ _ => rfl)) pe_int) (pg_sub (pv 0) pe_int set_list))
      (pss_one (ps_if (pt_cmpR op_ge (pv 2) (pe_op op_pow pe_int pe_int) (nomark _)) (pss_one (ps_asg (pv 2) (pg_sub (pv 0) pe_int set_list))) (pss_one (ps_asg (pe_op op_mod (pe_callTy call_int1 rfl B.int (by decide +kernel) (pa_cons (pe_op op_add (pe_op op_add (pe_op op_mul (pe_ix ix_list (pv 0) pe_int (fun _ _ => rfl)) pe_int) (pe_op op_mul (pe_op op_mod (pe_callTy call_int1 rfl B.int (by decide +kernel) (pa_cons (pv 2) pa_nil)) pe_int) pe_int)) pe_int) pa_nil)) pe_int) (pg_sub (pv 0) pe_int set_list))))))) pss_nil)
      (pss_cons (ps_if (pt_cmpR op_gt (pe_ix ix_list (pv 0) pe_int (fun _ _ => rfl)) pe_int (nomark _)) (pss_cons (ps_set (i := 3) scLawPull.nd rfl (Or.inl rfl) (pe_op op_mod (pe_callTy call_int1 rfl B.int (by decide +kernel) (pa_cons (pe_ix ix_list (pv 0) pe_int (fun _ _ => rfl)) pa_nil)) (pv 1)))
      (pss_cons (ps_asg (pe_op op_fdivW (pe_ix ix_list (pv 0) pe_int (fun _ _ => rfl)) (pv 1)) (pg_sub (pv 0) pe_int set_list))
      (pss_one (ps_ret (pv 3))))) pss_nil)
      (pss_cons (ps_set (i := 4) scLawPull.nd rfl (Or.inl rfl) (pe_ix ix_list (pv 0) pe_int (fun _ _ => rfl)))
      (pss_cons (ps_asg (pe_op op_mod (pe_callTy call_int1 rfl B.int (by decide +kernel) (pa_cons (pe_op op_add (pe_op op_add (pe_op op_mul (pv 4) (pv 4)) (pe_op op_mul (pv 4) pe_int)) pe_int) pa_nil)) pe_int) (pg_sub (pv 0) pe_int set_list))
      (pss_one (ps_ret (pe_op op_mod (pe_callTy call_int1 rfl B.int (by decide +kernel) (pa_cons (pe_op op_add (pe_op op_fdivW (pe_ix ix_list (pv 0) pe_int (fun _ _ => rfl)) pe_int) (pe_op op_mul (pe_op op_mod (pe_callTy call_int1 rfl B.int (by decide +kernel) (pa_cons (pe_ix ix_list (pv 0) pe_int (fun _ _ => rfl)) pa_nil)) pe_int) pe_int)) pa_nil)) (pv 1)))))))), ?_⟩
  obtain ⟨ns, i, g, sd, hba, hne, hli, hg, hs0, hs1⟩ := hbag
  refine q_cut (M := fun σ' H' => ∃ (u1 u2 u3 : Option V), σ' = [some (.ref ba), some (.int n), u1, u2, u3] ∧ ExB ba H H' ∧ BagAt ba li H') ?_ ?_
  · have b0 := ev_b0 (K := K) (σ := [some (.ref ba), some (.int n), none, none, none]) rfl hba
    have b1 := ev_b1 (K := K) (σ := [some (.ref ba), some (.int n), none, none, none]) rfl hba
    have b2 := ev_b2 (K := K) (σ := [some (.ref ba), some (.int n), none, none, none]) rfl hba
    refine s_when (et_and (et_test (ev_eqI b2 ev_c)) fun _ => et_test (ev_i0 (f := fun i j => .bl (decide (i < j))) b1 (ev_len b0 (SqL.of hli)))) (fun hb H1 e1 => ?_) fun _ H1 e1 => ⟨_, _, _, rfl, ExB.of e1, ns, i, g, sd, e1 ba _ hba, hne, e1 li _ hli, hg, hs0, hs1⟩
    rw [Bool.and_eq_true] at hb
    have hi : i < ns.length := by
      have := of_decide_eq_true hb.2
      rw [List.length_map] at this
      omega
    have hba1 := e1 ba _ hba
    refine q_asg (v := .int ns[i]) (ev_ixL (K := K) i (b0.mono e1) ⟨li, rfl, e1 li _ hli⟩ (b1.mono e1) rfl (by rw [List.getElem?_map, List.getElem?_eq_getElem hi]; rfl)) fun H2 e2 => ?_
    have hba2 := e2 ba _ hba1
    have e12 := e1.trans e2
    refine q_setL (j := 1) hba2 (ev_i0 (f := fun i j => .int (i + j)) (ev_b1 (K := K) rfl hba2) ev_c) (ev_var rfl) ev_c (by simp) fun H3 e3 => ?_
    have e13 := e12.trans e3
    have hba3 : upd H3 ba (.lst [.ref li, .int ((i + 1 : Nat)), .int g, .int sd]) ba = some (.lst [.ref li, .int ((i + 1 : Nat) : Int), .int g, .int sd]) := upd_same
    have hli3 : upd H3 ba (.lst [.ref li, .int ((i + 1 : Nat)), .int g, .int sd]) li = some (.lst (ns.map V.int)) := by rw [upd_ne hne]; exact e13 li _ hli
    have x3 : ExB ba H (upd H3 ba (.lst [.ref li, .int ((i + 1 : Nat)), .int g, .int sd])) := exb_bag (ExB.of e13)
    change tIfS _ _ _ _ _ (upd H3 ba (.lst [.ref li, .int ((i + 1 : Nat) : Int), .int g, .int sd]))
    generalize upd H3 ba (.lst [.ref li, .int ((i + 1 : Nat) : Int), .int g, .int sd]) = H4 at hba3 hli3 x3
    refine s_if (et_test (ev_i0 (f := fun i j => .bl (decide (j ≤ i))) (ev_var (v := .int ns[i]) rfl) (ev_iC (C := CPow) (f := fun i j => .int (i ^ j.toNat)) (i := 10) (j := 18) ⟨by decide, by decide, by decide⟩ ev_c ev_c))) (fun hb H5 e5 => ?_) fun hb H5 e5 => ?_
    · refine s_setL (j := 2) (e5 ba _ hba3) (ev_var (v := .int ns[i]) rfl) (ev_var rfl) ev_c (by simp) fun H6 e6 => ⟨_, _, _, rfl, exb_bag (x3.trans (ExB.of (e5.trans e6))), ns, i + 1, ns[i], sd, upd_same, hne, ?_, ?_, hs0, hs1⟩
      · rw [upd_ne hne]; exact e6 li _ (e5 li _ hli3)
      · have := of_decide_eq_true hb
        have z : (0 : Int) ≤ 10 ^ (18 : Int).toNat := by decide
        omega
    · have h5 := e5 ba _ hba3
      refine s_setL (j := 3) h5 (v := .int ((sd * 40692 + ns[i] % 2147483579 * 69621 + 11) % 2147483647)) (ev_iC (C := fun _ j => 0 < j) (f := fun i j => .int (i % j)) (by decide) (ev_intI (ev_i0 (f := fun i j => .int (i + j)) (ev_i0 (f := fun i j => .int (i + j)) (ev_iC (C := CMul) (f := fun i j => .int (i * j)) (.inr ⟨by decide, by decide⟩) (ev_b3 (K := K) rfl h5) ev_c) (ev_iC (C := CMul) (f := fun i j => .int (i * j)) (.inr ⟨by decide, by decide⟩) (ev_iC (C := fun _ j => 0 < j) (f := fun i j => .int (i % j)) (by decide) (ev_intI (ev_var (v := .int ns[i]) rfl)) ev_c) ev_c)) ev_c)) ev_c) (ev_var rfl) ev_c (by simp) fun H6 e6 => ⟨_, _, _, rfl, exb_bag (x3.trans (ExB.of (e5.trans e6))), ns, i + 1, g, _, upd_same, hne, ?_, hg, Int.emod_nonneg _ (by decide), Int.emod_lt_of_pos _ (by decide)⟩
      rw [upd_ne hne]; exact e6 li _ (e5 li _ hli3)
  · rintro σ' H1 ⟨u1, u2, u3, rfl, x1, ns, i, g, sd, hba, hne, hli, hg, hs0, hs1⟩
    have b2 := ev_b2 (K := K) (σ := [some (.ref ba), some (.int n), u1, u2, u3]) rfl hba
    have hnl : CDivW g n := wide_div (b := 64) hn0 (by omega) (by decide) (by decide)
    refine q_when (et_test (ev_i0 (f := fun i j => .bl (decide (j < i))) b2 ev_c)) (fun hb H2 e2 => ?_) fun hb H2 e2 => ?_
    · refine q_asg (v := .int (g % n)) (ev_iC (C := fun _ j => 0 < j) (f := fun i j => .int (i % j)) hn0 (ev_intI (b2.mono e2)) (ev_var rfl)) fun H3 e3 => ?_
      have h3 := e3 ba _ (e2 ba _ hba)
      refine q_setL (j := 2) h3 (v := .int (g / n)) (ev_iC (C := CDivW) (f := fun i j => .int (i / j)) hnl (ev_b2 (K := K) rfl h3) (ev_var rfl)) (ev_var rfl) ev_c (by simp) fun H4 e4 => ?_
      refine ⟨_, rfl, k (g % n) _ (Int.emod_nonneg _ (by omega)) (Int.emod_lt_of_pos _ hn0) (exb_bag (x1.trans (ExB.of ((e2.trans e3).trans e4)))) ⟨ns, i, g / n, sd, upd_same, hne, ?_, Int.ediv_nonneg hg (by omega), hs0, hs1⟩⟩
      rw [upd_ne hne]; exact ((e2.trans e3).trans e4) li _ hli
    · refine q_asg (v := .int sd) (ev_b3 (K := K) rfl (e2 ba _ hba)) fun H3 e3 => ?_
      have h3 := e3 ba _ (e2 ba _ hba)
      refine q_setL (j := 3) h3 (v := .int ((sd * sd + sd * 48271 + 1013904223) % 2147483647)) (ev_iC (C := fun _ j => 0 < j) (f := fun i j => .int (i % j)) (by decide) (ev_intI (ev_i0 (f := fun i j => .int (i + j)) (ev_i0 (f := fun i j => .int (i + j)) (ev_iC (C := CMul) (f := fun i j => .int (i * j)) (.inr ⟨by omega, by omega⟩) (ev_var (v := .int sd) rfl) (ev_var (v := .int sd) rfl)) (ev_iC (C := CMul) (f := fun i j => .int (i * j)) (.inr ⟨by decide, by decide⟩) (ev_var (v := .int sd) rfl) ev_c)) ev_c)) ev_c) (ev_var rfl) ev_c (by simp) fun H4 e4 => ?_
      have hm0 : 0 ≤ (sd * sd + sd * 48271 + 1013904223) % 2147483647 := Int.emod_nonneg _ (by decide)
      have hm1 : (sd * sd + sd * 48271 + 1013904223) % 2147483647 < 2147483647 := Int.emod_lt_of_pos _ (by decide)
      generalize (sd * sd + sd * 48271 + 1013904223) % 2147483647 = sn at hm0 hm1
      have e14 := (e2.trans e3).trans e4
      have hli4 : upd H4 ba (.lst [.ref li, .int (i : Nat), .int g, .int sn]) li = some (.lst (ns.map V.int)) := by rw [upd_ne hne]; exact e14 li _ hli
      have hba4 : upd H4 ba (.lst [.ref li, .int (i : Nat), .int g, .int sn]) ba = some (.lst [.ref li, .int ((i : Nat) : Int), .int g, .int sn]) := upd_same
      have x4 : ExB ba H (upd H4 ba (.lst [.ref li, .int (i : Nat), .int g, .int sn])) := exb_bag (x1.trans (ExB.of e14))
      change tRet _ _ _ (upd H4 ba (.lst [.ref li, .int ((i : Nat) : Int), .int g, .int sn]))
      generalize upd H4 ba (.lst [.ref li, .int ((i : Nat) : Int), .int g, .int sn]) = H5 at hli4 hba4 x4
      refine s_ret (v := .int ((sn / 97 + sn % 8191 * 67) % n)) (ev_iC (C := fun _ j => 0 < j) (f := fun i j => .int (i % j)) hn0 (ev_intI (ev_i0 (f := fun i j => .int (i + j)) (ev_iC (C := CDivW) (f := fun i j => .int (i / j)) ⟨by decide, by decide +kernel⟩ (ev_b3 (K := K) rfl hba4) ev_c) (ev_iC (C := CMul) (f := fun i j => .int (i * j)) (.inr ⟨by decide, by decide⟩) (ev_iC (C := fun _ j => 0 < j) (f := fun i j => .int (i % j)) (by decide) (ev_intI (ev_b3 (K := K) rfl hba4)) ev_c) ev_c))) (ev_var rfl)) fun H6 e6 => ?_
      exact k _ H6 (Int.emod_nonneg _ (by omega)) (Int.emod_lt_of_pos _ hn0) (x4.trans (ExB.of e6)) ⟨ns, i, g, sn, e6 ba _ hba4, hne, e6 li _ hli4, hg, hm0, hm1⟩
theorem pull_at {σ : L2.St} {H : Hp} {ta : TA} {ba li : Addr} {n : Int} {Q : VK} (h : EvA ta σ H [.ref ba, .int n]) (hb : BagAt ba li H) (hn0 : 0 < n) (hn1 : n < 2 ^ 64) (k : ∀ r H', 0 ≤ r → r < n → ExB ba H H' → BagAt ba li H' → Q (.int r) H') : tCall spLawPull [] E0 ta σ H Q :=
  h H (Ex.refl H) _ fun H1 e1 => ⟨ba, li, n, rfl, hb.ex e1, hn0, hn1, fun r H' h0 h1 x b => k r H' h0 h1 ((ExB.of e1).trans x) b⟩
abbrev sLawOf : Stmt := top 58
theorem scLawOf : FnScope ["_law_bag_here", "_law_things"] ["_law_bag_here", "_law_things"] (defScope sLawOf) := ⟨rfl, rfl, rfl, by decide +kernel, rfl, by decide +kernel, by decide +kernel⟩
def spLawOf : Sp := fun vs H Q _ => ∃ ba li la xs, vs = [.ref ba, .ref la] ∧ BagAt ba li H ∧ la ≠ ba ∧ H la = some (.lst xs) ∧ 0 < xs.length ∧ xs.length ≤ 1000 ∧ ∀ v H', v ∈ xs → ExB ba H H' → BagAt ba li H' → Q v H'
theorem ok_law_of (B : Bt mg) (F : Df K mg "_law_of" sLawOf) (h__law_pull : Ok P w K mg base 1 "_law_pull" ["_law_bag_here", "_law_amount"] spLawPull) : Ok P w K mg base 2 "_law_of" ["_law_bag_here", "_law_things"] spLawOf := by
  refine ok_of F scLawOf (fun vs H Q E h => by obtain ⟨ba, li, la, xs, rfl, _⟩ := h; rfl) (fun dV _ _ _ _ _ _ us hl e => by subst e; exact match us, hl with | [_, _], _ => rfl) fun f cdv A outer s H vs Q E hr h => ?_
  obtain ⟨ba, li, la, xs, rfl, hbag, hne, hla, h0, h1, k⟩ := h
  refine ⟨_, (pss_one (ps_ret (pe_ix ix_list (pv 1) (pe_do h__law_pull hr rfl (pa_cons (pv 0) (pa_cons (pe_callB call_len_seq rfl B.len PySem.boot_len (pa_cons (pv 1) pa_nil)) pa_nil))) (fun _ _ => rfl)))), ?_⟩
  refine ⟨_, rfl, ?_⟩
  refine pull_at (ea2 (ev_var rfl) (ev_len (K := K) (ev_var rfl) (SqL.of hla))) hbag (by omega) (by omega) fun r H1 hr0 hr1 x1 b1 => ?_
  obtain ⟨m, rfl⟩ : ∃ m : Nat, r = m := ⟨r.toNat, by omega⟩
  have hlt : m < xs.length := by omega
  exact ⟨la, xs, m, xs[m], rfl, rfl, SqL.of (x1 la _ hne hla), atI_nat (List.getElem?_eq_getElem hlt), k _ H1 (List.getElem_mem hlt) x1 b1⟩
abbrev sLawMixed : Stmt := top 59
theorem scLawMixed : FnScope ["_law_bag_here", "_law_things", "_law_found", "_law_thing"] ["_law_bag_here", "_law_things"] (defScope sLawMixed) := ⟨rfl, rfl, rfl, by decide +kernel, rfl, by decide +kernel, by decide +kernel⟩
def spLawMixed : Sp := fun vs H Q _ => ∃ (ba li la : Addr) (p : List Int), vs = [.ref ba, .ref la] ∧ BagAt ba li H ∧ la ≠ ba ∧ H la = some (.lst (p.map V.int)) ∧ p.length ≤ 1000 ∧ ∀ (D : Addr) (q : List Int) (H' : Hp), H D = none → q.Perm p → ExB ba H H' → BagAt ba li H' → H' D = some (.lst (q.map V.int)) → Q (.ref D) H'
theorem ok_law_mixed (B : Bt mg) (F : Df K mg "_law_mixed" sLawMixed) (h__law_pull : Ok P w K mg base 1 "_law_pull" ["_law_bag_here", "_law_amount"] spLawPull) : Ok P w K mg base 2 "_law_mixed" ["_law_bag_here", "_law_things"] spLawMixed := by
  refine ok_of F scLawMixed (fun vs H Q E h => by obtain ⟨ba, li, la, xs, rfl, _⟩ := h; rfl) (fun dV _ _ _ _ _ _ us hl e => by subst e; exact match us, hl with | [_, _], _ => rfl) fun f cdv A outer s H vs Q E hr h => ?_
  obtain ⟨ba, li, la, p, rfl, hbag, hne, hla, h1, k⟩ := h
  refine ⟨_, (pss_cons (ps_set (i := 2) scLawMixed.nd rfl (Or.inl rfl) (pe_lst pa_nil))
      (pss_cons (ps_for PassesOwn.never rfl (pi_list (pv 1)) (pg_name (i := 3) scLawMixed.nd rfl (Or.inl rfl))
      (pss_one (ps_expr (pe_bm PySem.F.plainAttrs_list PySem.F.slot_list_insert PySem.F.type_list_insert mt_insert (pv 2) (pa_cons (pe_do h__law_pull hr rfl (pa_cons (pv 0) (pa_cons (pe_op op_add (pe_callB call_len_seq rfl B.len PySem.boot_len (pa_cons (pv 2) pa_nil)) pe_int) pa_nil))) (pa_cons (pv 3) pa_nil))))))
      (pss_one (ps_ret (pv 2))))), ?_⟩
  refine q_asgL el_nil fun D H1 hD e1 hd => ?_
  have dba := hbag.ne hD
  have dli := hbag.ne2 hD
  have dla : la ≠ D := fun z => by rw [z, hD] at hla; cases hla
  refine ⟨_, rfl, la, rfl, ⟨_, SqL.of (e1 la _ hla)⟩, ?_⟩
  refine for_list (xs := p.map V.int) (fun i σ H' => ∃ (u : Option V) (q : List Int), σ = [some (.ref ba), some (.ref la), some (.ref D), u] ∧ ExB ba H H' ∧ BagAt ba li H' ∧ H' la = some (.lst (p.map V.int)) ∧ H' D = some (.lst (q.map V.int)) ∧ q.Perm (p.take i)) ⟨_, [], rfl, ExB.of e1, hbag.ex e1, e1 la _ hla, hd, by simp⟩ (fun i σ H' hi h => by obtain ⟨u, q, _, _, _, h4, _⟩ := h; exact SqL.of h4) ?_ ?_
  · rintro i y σ H2 hi ⟨u, q, rfl, x2, b2, l2, d2, perm⟩
    rw [List.getElem?_map] at hi
    obtain ⟨n, hn, rfl⟩ := Option.map_eq_some_iff.mp hi
    have hql := perm.length_eq
    rw [List.length_take] at hql
    refine ⟨_, rfl, .inl ⟨rfl, _, SqL.of d2⟩, ?_⟩
    refine pull_at (ea2 (ev_var rfl) (ev_i0 (f := fun i j => .int (i + j)) (ev_len (K := K) (ev_var rfl) (SqL.of d2)) ev_c)) b2 (by omega) (by rw [List.length_map]; omega) fun r H3 hr0 hr1 x3 b3 => ?_
    have d3 := x3 D _ dba d2
    rw [List.length_map] at hr1
    refine ⟨_, rfl, D, _, r, .int n, rfl, rfl, d3, sz_lt (by rw [List.length_map]; omega), hr0, by omega, ?_⟩
    refine ⟨_, q.take r.toNat ++ [n] ++ q.drop r.toNat, rfl, exb_mut (x2.trans x3) hD, bag_mut b3 dba dli, ?_, ?_, ?_⟩
    · rw [upd_ne dla]; exact x3 la _ hne l2
    · rw [upd_same]; simp
    · rw [take_next _ hn]
      have hp : (q.take r.toNat ++ [n] ++ q.drop r.toNat).Perm (q ++ [n]) := by
        rw [List.append_assoc]
        refine (List.Perm.append_left _ List.perm_append_comm).trans ?_
        rw [← List.append_assoc, List.take_append_drop]
      exact hp.trans (List.Perm.append_right _ perm)
  · rintro σ H2 ⟨u, q, rfl, x2, b2, l2, d2, perm⟩
    rw [List.length_map, List.take_length] at perm
    exact ⟨_, rfl, k D q H2 hD perm x2 b2 d2⟩
abbrev sLawCount : Stmt := top 60
theorem scLawCount : FnScope ["_law_divisors_here", "_law_found", "_law_one"] ["_law_divisors_here"] (defScope sLawCount) := ⟨rfl, rfl, rfl, by decide +kernel, rfl, by decide +kernel, by decide +kernel⟩
def spLawCount : Sp := fun vs H Q _ => ∃ v ds, vs = [v] ∧ Pl H v ds ∧ DivOk ds ∧ ∀ H', Ex H H' → Q (.int (prodP ds)) H'
theorem ok_law_count (B : Bt mg) (F : Df K mg "_law_count" sLawCount) : Ok P w K mg base 1 "_law_count" ["_law_divisors_here"] spLawCount := by
  refine ok_of F scLawCount (fun vs H Q E h => by obtain ⟨v, ds, rfl, _⟩ := h; rfl) (fun dV _ _ _ _ _ _ us hl e => by subst e; exact match us, hl with | [_], _ => rfl) fun f cdv A outer s H vs Q E hr h => ?_
  obtain ⟨v, ds, rfl, ⟨a, rfl, ha⟩, hd, k⟩ := h
  refine ⟨_, (pss_cons (ps_set (i := 1) scLawCount.nd rfl (Or.inl rfl) pe_int)
      (pss_cons (ps_for PassesOwn.never rfl (pi_tup (pv 0)) (pg_name (i := 2) scLawCount.nd rfl (Or.inl rfl))
      (pss_one (ps_set (i := 1) scLawCount.nd rfl (Or.inl rfl) (pe_op op_mul (pv 1) (pv 2)))))
      (pss_one (ps_ret (pv 1))))), ?_⟩
  refine q_asg ev_c fun H1 e1 => ?_
  refine ⟨_, rfl, a, rfl, ⟨_, SqT.of (e1 a _ ha)⟩, ?_⟩
  refine for_tup (xs := ds.map V.int) (fun i σ H' => Ex H H' ∧ ∃ u, σ = [some (.ref a), some (.int (prodP (ds.take i))), u]) ⟨e1, _, rfl⟩ (fun i σ H' hi h => SqT.of (h.1 a _ ha)) ?_ ?_
  · rintro i y σ H2 hi ⟨e2, u, rfl⟩
    rw [List.getElem?_map] at hi
    obtain ⟨n, hn, rfl⟩ := Option.map_eq_some_iff.mp hi
    refine s_asg (ev_iC (C := CMul) (f := fun i j => .int (i * j)) (.inr (hd.sm n (List.mem_of_getElem? hn))) (ev_var (v := .int (prodP (ds.take i))) rfl) (ev_var (v := .int n) rfl)) fun H3 e3 => ⟨e2.trans e3, some (.int n), ?_⟩
    unfold prodP
    rw [fold_take _ _ _ hn]
    rfl
  · rintro σ H2 ⟨e2, u, rfl⟩
    rw [List.length_map, List.take_length]
    exact ⟨_, rfl, k H2 e2⟩
end
end Lk


/-! Lookscan: the law's divisors, parts, looks. -/
namespace Lk
open PySem PySem.Spec PyProof.Rows L2 Evl
/-! ### comprehensions that draw from the bag -/
theorem el_lcBR {K : PySem.W.Frag} {σ : L2.St} {H : Hp} {ta : TA} {te : TE} {j : Nat} {ba li : Addr} {n : Nat} {Q : VK} (h : EvA ta σ H [.int (n : Nat)]) (R : Nat → V → Hp → Prop) (hR : ∀ i v H H', Tx H H' → R i v H → R i v H') (hb : BagAt ba li H) (hn : n < 100000)
    (turn : ∀ i x H1, i < n → x = V.int (i : Nat) → ExB ba H H1 → BagAt ba li H1 → ∀ Q2 : VK, (∀ v H2, ExB ba H1 H2 → BagAt ba li H2 → R i v H2 → Q2 v H2) → te ((wipe σ [j]).set j (some x)) H1 Q2)
    (hq : ∀ D ys H', H D = none → ExB ba H H' → BagAt ba li H' → H' D = some (.lst ys) → Each R ys (List.range n) H' → Q (.ref D) H') : tLc (iRng1 ta) (gName j) tYes te [j] σ H Q := by
  refine h H (Ex.refl H) _ fun H1 e1 => ⟨_, rfl, by omega, by omega, fun D hD => ?_⟩
  have hD0 : H D = none := fresh_back e1 hD
  have dba := hb.ne hD0
  have dli := hb.ne2 hD0
  have x1 : ExB ba H (upd H1 D (.lst [])) := exb_mut (ExB.of e1) hD0
  have b1 : BagAt ba li (upd H1 D (.lst [])) := (hb.ex e1).ex (Ex.new hD)
  refine lc_range (lo := 0) (n := ((n : Nat) : Int).toNat) (fun i H' => ExB ba H H' ∧ BagAt ba li H' ∧ ∃ ys, H' D = some (.lst ys) ∧ Each R ys (List.range i) H') ⟨x1, b1, [], upd_same, .nil⟩ ?_ ?_
  · rintro i H2 hi ⟨x2, b2, ys, hy, each⟩
    rw [Int.toNat_natCast] at hi
    rw [Int.zero_add]
    refine ⟨wipe1, ?_⟩
    unfold tYes
    dsimp only
    rw [if_pos rfl]
    refine turn i _ H2 hi rfl x2 b2 _ fun v H3 x3 b3 hv => ?_
    have h3 := x3 D _ dba hy
    have hl := each.length
    rw [List.length_range] at hl
    refine ⟨ys, h3, sz_lt (by omega), exb_mut (x2.trans x3) hD0, bag_mut b3 dba dli, ys ++ [v], upd_same, ?_⟩
    rw [List.range_succ]
    exact Paired.snoc (Paired.mapP each fun y i h => hR i y _ _ ((b2.tx x3).trans (Tx.lst h3)) h) (hR i v _ _ (Tx.lst h3) hv)
  · rintro H2 ⟨x2, b2, ys, hy, each⟩
    exact hq D ys H2 hD0 x2 b2 hy (by rw [Int.toNat_natCast] at each; exact each)
theorem el_lcBL {K : PySem.W.Frag} {σ : L2.St} {H : Hp} {tl : TE} {x : V} {xs : List V} {te : TE} {j : Nat} {ba li : Addr} {n : Nat} {Q : VK} (h : Ev tl σ H x) (hx : ∃ a, x = .ref a ∧ a ≠ ba ∧ H a = some (.lst xs)) (hxn : xs.length = n) (R : Nat → V → Hp → Prop) (hR : ∀ i v H H', Tx H H' → R i v H → R i v H') (hb : BagAt ba li H) (hn : n < 100000)
    (turn : ∀ i x H1, i < n → xs[i]? = some x → ExB ba H H1 → BagAt ba li H1 → ∀ Q2 : VK, (∀ v H2, ExB ba H1 H2 → BagAt ba li H2 → R i v H2 → Q2 v H2) → te ((wipe σ [j]).set j (some x)) H1 Q2)
    (hq : ∀ D ys H', H D = none → ExB ba H H' → BagAt ba li H' → H' D = some (.lst ys) → Each R ys (List.range n) H' → Q (.ref D) H') : tLc (iList K tl) (gName j) tYes te [j] σ H Q := by
  obtain ⟨a, rfl, hne, ha⟩ := hx
  refine h H (Ex.refl H) _ fun H1 e1 => ⟨a, rfl, ⟨xs, SqL.of (e1 a _ ha)⟩, fun D hD => ?_⟩
  have hD0 : H D = none := fresh_back e1 hD
  have dba := hb.ne hD0
  have dli := hb.ne2 hD0
  have x1 : ExB ba H (upd H1 D (.lst [])) := exb_mut (ExB.of e1) hD0
  have b1 : BagAt ba li (upd H1 D (.lst [])) := (hb.ex e1).ex (Ex.new hD)
  refine lc_list (xs := xs) (fun i H' => ExB ba H H' ∧ BagAt ba li H' ∧ ∃ ys, H' D = some (.lst ys) ∧ Each R ys (List.range i) H') ⟨x1, b1, [], upd_same, .nil⟩ (fun i H2 hi h => SqL.of (h.1 a _ hne ha)) ?_ ?_
  · rintro i y H2 hi0 ⟨x2, b2, ys, hy, each⟩
    have hi : i < n := by have := (List.getElem?_eq_some_iff.mp hi0).1; omega
    refine ⟨wipe1, ?_⟩
    unfold tYes
    dsimp only
    rw [if_pos rfl]
    refine turn i _ H2 hi hi0 x2 b2 _ fun v H3 x3 b3 hv => ?_
    have h3 := x3 D _ dba hy
    have hl := each.length
    rw [List.length_range] at hl
    refine ⟨ys, h3, sz_lt (by omega), exb_mut (x2.trans x3) hD0, bag_mut b3 dba dli, ys ++ [v], upd_same, ?_⟩
    rw [List.range_succ]
    exact Paired.snoc (Paired.mapP each fun y i h => hR i y _ _ ((b2.tx x3).trans (Tx.lst h3)) h) (hR i v _ _ (Tx.lst h3) hv)
  · rintro H2 ⟨x2, b2, ys, hy, each⟩
    exact hq D ys H2 hD0 x2 b2 hy (by rw [← hxn]; exact each)
theorem el_lcBT {K : PySem.W.Frag} {σ : L2.St} {H : Hp} {tl : TE} {x : V} {xs : List V} {te : TE} {j : Nat} {ba li : Addr} {n : Nat} {Q : VK} (h : Ev tl σ H x) (hx : Tp H x xs) (hxn : xs.length = n) (R : Nat → V → Hp → Prop) (hR : ∀ i v H H', Tx H H' → R i v H → R i v H') (hb : BagAt ba li H) (hn : n < 100000)
    (turn : ∀ i x H1, i < n → xs[i]? = some x → ExB ba H H1 → BagAt ba li H1 → ∀ Q2 : VK, (∀ v H2, ExB ba H1 H2 → BagAt ba li H2 → R i v H2 → Q2 v H2) → te ((wipe σ [j]).set j (some x)) H1 Q2)
    (hq : ∀ D ys H', H D = none → ExB ba H H' → BagAt ba li H' → H' D = some (.lst ys) → Each R ys (List.range n) H' → Q (.ref D) H') : tLc (iTup K tl) (gName j) tYes te [j] σ H Q := by
  obtain ⟨a, rfl, ha⟩ := hx
  refine h H (Ex.refl H) _ fun H1 e1 => ⟨a, rfl, ⟨xs, SqT.of (e1 a _ ha)⟩, fun D hD => ?_⟩
  have hD0 : H D = none := fresh_back e1 hD
  have dba := hb.ne hD0
  have dli := hb.ne2 hD0
  have x1 : ExB ba H (upd H1 D (.lst [])) := exb_mut (ExB.of e1) hD0
  have b1 : BagAt ba li (upd H1 D (.lst [])) := (hb.ex e1).ex (Ex.new hD)
  refine lc_tup (xs := xs) (fun i H' => ExB ba H H' ∧ BagAt ba li H' ∧ ∃ ys, H' D = some (.lst ys) ∧ Each R ys (List.range i) H') ⟨x1, b1, [], upd_same, .nil⟩ (fun i H2 hi h => SqT.of (hb.tx h.1 a _ ha)) ?_ ?_
  · rintro i y H2 hi0 ⟨x2, b2, ys, hy, each⟩
    have hi : i < n := by have := (List.getElem?_eq_some_iff.mp hi0).1; omega
    refine ⟨wipe1, ?_⟩
    unfold tYes
    dsimp only
    rw [if_pos rfl]
    refine turn i _ H2 hi hi0 x2 b2 _ fun v H3 x3 b3 hv => ?_
    have h3 := x3 D _ dba hy
    have hl := each.length
    rw [List.length_range] at hl
    refine ⟨ys, h3, sz_lt (by omega), exb_mut (x2.trans x3) hD0, bag_mut b3 dba dli, ys ++ [v], upd_same, ?_⟩
    rw [List.range_succ]
    exact Paired.snoc (Paired.mapP each fun y i h => hR i y _ _ ((b2.tx x3).trans (Tx.lst h3)) h) (hR i v _ _ (Tx.lst h3) hv)
  · rintro H2 ⟨x2, b2, ys, hy, each⟩
    exact hq D ys H2 hD0 x2 b2 hy (by rw [← hxn]; exact each)
theorem cut_ints (ns : List Int) (lo hi : Option Int) : ∃ ms : List Int, cutV (ns.map V.int) lo hi = ms.map V.int := ⟨_, by unfold cutV; rw [List.length_map, ← List.map_drop, ← List.map_take]⟩
theorem fold_perm {q p : List Int} (h : q.Perm p) : ∀ a : Int, q.foldl (fun a b => a * b) a = p.foldl (fun a b => a * b) a := by
  induction h with
  | nil => intro a; rfl
  | cons x _ ih => intro a; exact ih (a * x)
  | swap x y l => intro a; simp only [List.foldl_cons]; rw [Int.mul_right_comm]
  | trans _ _ ih1 ih2 => intro a; rw [ih1, ih2]
theorem DivOk.perm {q p : List Int} (h : q.Perm p) (d : DivOk p) : DivOk q := ⟨by rw [h.length_eq]; exact d.one, by rw [h.length_eq]; exact d.three, fun x hx => d.pos x (h.mem_iff.mp hx), by unfold prodP; rw [fold_perm h]; exact d.few⟩
section
variable {P : Program} {w : World} {K : PySem.W.Frag} {mg : Str → Option Value} {base : Heap} {leaf C fi fc dp dg fo : Addr}
abbrev sLawBag : Stmt := top 56
theorem scLawBag : FnScope ["_law_script", "_law_salt", "_law_cell"] ["_law_script"] (defScope sLawBag) := ⟨rfl, rfl, rfl, by decide +kernel, rfl, by decide +kernel, by decide +kernel⟩
def spLawBag (K : PySem.W.Frag) : Sp := fun vs H Q _ => ∃ (a : Addr) (ns : List Int), vs = [.ref a] ∧ SqL K H a (ns.map V.int) ∧ ∀ ba li H', H ba = none → Ex H H' → BagAt ba li H' → Q (.ref ba) H'
theorem ok_law_bag (B : Bt mg) (F : Df K mg "_law_bag" sLawBag) : Ok P w K mg base 1 "_law_bag" ["_law_script"] (spLawBag K) := by
  refine ok_of F scLawBag (fun vs H Q E h => by obtain ⟨a, ns, rfl, _⟩ := h; rfl) (fun dV _ _ _ _ _ _ us hl e => by subst e; exact match us, hl with | [_], _ => rfl) fun f cdv A outer s H vs Q E hr h => ?_
  obtain ⟨a, ns, rfl, hq, k⟩ := h
  refine ⟨_, (pss_cons (ps_set (i := 1) scLawBag.nd rfl (Or.inl rfl) pe_int)
      (pss_cons (ps_for PassesOwn.never rfl (pi_list (pe_slice sl_list (pv 0) po_none (po_some pe_int))) (pg_name (i := 2) scLawBag.nd rfl (Or.inl rfl))
      (pss_one (ps_set (i := 1) scLawBag.nd rfl (Or.inl rfl) (pe_op op_mod (pe_callTy call_int1 rfl B.int (by decide +kernel) (pa_cons (pe_op op_add (pe_op op_add (pe_op op_mul (pv 1) pe_int) (pe_op op_mod (pe_callTy call_int1 rfl B.int (by decide +kernel) (pa_cons (pv 2) pa_nil)) pe_int)) pe_int) pa_nil)) pe_int))))
      (pss_one (ps_ret (pe_lst (pa_cons (pe_callTy call_list_of rfl B.list (by decide +kernel) (pa_cons (pe_slice sl_list (pv 0) po_none (po_some pe_int)) pa_nil)) (pa_cons pe_int (pa_cons pe_int (pa_cons (pv 1) pa_nil))))))))), ?_⟩
  refine q_asg ev_c fun H1 e1 => ?_
  refine ⟨_, rfl, 63, rfl, a, _, rfl, ex_l e1 hq, fun S hS => ?_⟩
  obtain ⟨ms, hms⟩ := cut_ints ns none (some 63)
  rw [hms]
  have e2 := e1.trans (Ex.new (o := .lst (ms.map V.int)) hS)
  refine ⟨S, rfl, ⟨_, SqL.of upd_same⟩, ?_⟩
  refine for_list (xs := ms.map V.int) (fun i σ H' => ∃ (u : Option V) (sd : Int), σ = [some (.ref a), some (.int sd), u] ∧ Ex H H' ∧ H' S = some (.lst (ms.map V.int)) ∧ 0 ≤ sd ∧ sd < 2147483647) ⟨_, 3823, rfl, e2, upd_same, by decide, by decide⟩ (fun i σ H' hi h => by obtain ⟨u, sd, _, _, h4, _⟩ := h; exact SqL.of h4) ?_ ?_
  · rintro i y σ H3 hi ⟨u, sd, rfl, e3, hs, _, _⟩
    rw [List.getElem?_map] at hi
    obtain ⟨n, hn, rfl⟩ := Option.map_eq_some_iff.mp hi
    refine s_asg (v := .int ((sd * 44021 + n % 2147483579 + 19) % 2147483647)) (ev_iC (C := fun _ j => 0 < j) (f := fun i j => .int (i % j)) (by decide) (ev_intI (ev_i0 (f := fun i j => .int (i + j)) (ev_i0 (f := fun i j => .int (i + j)) (ev_iC (C := CMul) (f := fun i j => .int (i * j)) (.inr ⟨by decide, by decide⟩) (ev_var (v := .int sd) rfl) ev_c) (ev_iC (C := fun _ j => 0 < j) (f := fun i j => .int (i % j)) (by decide) (ev_intI (ev_var (v := .int n) rfl)) ev_c)) ev_c)) ev_c) fun H4 e4 => ⟨some (.int n), _, rfl, e3.trans e4, e4 S _ hs, Int.emod_nonneg _ (by decide), Int.emod_lt_of_pos _ (by decide)⟩
  · rintro σ H3 ⟨u, sd, rfl, e3, hs, h0, h1⟩
    refine ⟨_, rfl, 63, rfl, a, _, rfl, ex_l e3 hq, fun S2 hS2 => ?_⟩
    rw [hms]
    have e4 := e3.trans (Ex.new (o := .lst (ms.map V.int)) hS2)
    refine ⟨S2, ms.map V.int, rfl, .inl (SqL.of upd_same), fun li hli => ⟨_, rfl, sz_of (by simp), fun ba hba => ?_⟩⟩
    have hne : li ≠ ba := fun z => by rw [← z, upd_same] at hba; cases hba
    exact k ba li _ (fresh_back (e4.trans (Ex.new hli)) hba) ((e4.trans (Ex.new hli)).trans (Ex.new hba)) ⟨ms, 0, 0, sd, upd_same, hne, by rw [upd_ne hne, upd_same], by decide, h0, h1⟩
abbrev sLawDivisors : Stmt := top 61
theorem scLawDivisors : FnScope ["_law_bag_here", "_law_directions", "_law_found", "_law_left", "_law_at", "_law_one"] ["_law_bag_here", "_law_directions"] (defScope sLawDivisors) := ⟨rfl, rfl, rfl, by decide +kernel, rfl, by decide +kernel, by decide +kernel⟩
def spLawDivisors : Sp := fun vs H Q _ => ∃ (ba li : Addr) (d : Nat), vs = [.ref ba, .int (d : Nat)] ∧ BagAt ba li H ∧ 1 ≤ d ∧ d ≤ 3 ∧ ∀ v ds H', Pl H' v ds → DivOk ds → ds.length = d → ExB ba H H' → BagAt ba li H' → Q v H'
theorem ok_law_divisors (B : Bt mg) (F : Df K mg "_law_divisors" sLawDivisors) (h__law_pull : Ok P w K mg base 2 "_law_pull" ["_law_bag_here", "_law_amount"] spLawPull) (h__law_mixed : Ok P w K mg base 2 "_law_mixed" ["_law_bag_here", "_law_things"] spLawMixed) : Ok P w K mg base 3 "_law_divisors" ["_law_bag_here", "_law_directions"] spLawDivisors := by
  refine ok_of F scLawDivisors (fun vs H Q E h => by obtain ⟨ba, li, d, rfl, _⟩ := h; rfl) (fun dV _ _ _ _ _ _ us hl e => by subst e; exact match us, hl with | [_, _], _ => rfl) fun f cdv A outer s H vs Q E hr h => ?_
  obtain ⟨ba, li, d, rfl, hbag, hd1, hd3, k⟩ := h
  refine ⟨_, (pss_cons (ps_par (i := 2) (j := 3) rfl scLawDivisors.nd rfl rfl (by decide) rfl rfl (pa_cons (pe_lst pa_nil) (pa_cons pe_int pa_nil)) rfl)
      (pss_cons (ps_for PassesOwn.never rfl (pi_range1 rfl B.range (pa_cons (pv 1) pa_nil)) (pg_name (i := 4) scLawDivisors.nd rfl (Or.inl rfl))
      (pss_cons (ps_set (i := 5) scLawDivisors.nd rfl (Or.inl rfl) (pe_op op_add pe_int (pe_do h__law_pull hr rfl (pa_cons (pv 0) (pa_cons (pe_callB (call_min2 rfl) rfl B.min (by decide +kernel) (pa_cons (pv 3) (pa_cons (pe_ix ix_list (pe_lst (pa_cons pe_int (pa_cons pe_int (pa_cons pe_int pa_nil)))) (pe_do h__law_pull hr rfl (pa_cons (pv 0) (pa_cons pe_int pa_nil))) (fun _ _ => rfl)) pa_nil))) pa_nil)))))
      (pss_cons (ps_expr (pe_bm PySem.F.plainAttrs_list PySem.F.slot_list_append PySem.F.type_list_append mt_append (pv 2) (pa_cons (pv 5) pa_nil)))
      (pss_one (ps_set (i := 3) scLawDivisors.nd rfl (Or.inl rfl) (pe_op op_fdivW (pv 3) (pv 5)))))))
      (pss_one (ps_ret (pe_tupleOf rfl B.tuple (pe_do h__law_mixed hr rfl (pa_cons (pv 0) (pa_cons (pv 2) pa_nil)))))))), ?_⟩
  refine ⟨by decide, fun D hD => ⟨_, _, rfl, ?_⟩⟩
  have dba := hbag.ne hD
  have dli := hbag.ne2 hD
  refine ⟨_, rfl, _, rfl, by omega, by omega, ?_⟩
  refine for_range (lo := 0) (n := ((d : Nat) : Int).toNat) (fun i σ H' => ∃ (u1 u2 : Option V) (left : Int) (p : List Int), σ = [some (.ref ba), some (.int (d : Nat)), some (.ref D), some (.int left), u1, u2] ∧ ExB ba H H' ∧ BagAt ba li H' ∧ H' D = some (.lst (p.map V.int)) ∧ p.length = i ∧ (∀ x ∈ p, 1 ≤ x ∧ x ≤ 12) ∧ 1 ≤ left ∧ prodP p * left ≤ 12 ∧ 1 ≤ prodP p) ⟨_, _, 12, [], rfl, ExB.of (Ex.new hD), hbag.ex (Ex.new hD), upd_same, rfl, (fun x h => by cases h), by decide, by decide, by decide⟩ ?_ ?_
  · rintro i σ H2 hi ⟨u1, u2, left, p, rfl, x2, b2, h2, hp, hpx, hl1, hpl, hp1⟩
    rw [Int.toNat_natCast] at hi
    have hl12 : left ≤ 12 := by
      have := Int.mul_le_mul_of_nonneg_right hp1 (show (0 : Int) ≤ left by omega)
      omega
    refine ⟨_, rfl, _, rfl, sz_of (by simp), fun q hq => ?_⟩
    have qba := b2.ne hq
    refine pull_at (ea2 (ev_var rfl) ev_c) (b2.ex (Ex.new hq)) (by decide) (by decide) fun r H3 hr0 hr1 x3 b3 => ?_
    have h3q := x3 q _ qba upd_same
    obtain ⟨e, he, hat⟩ : ∃ e : Int, (1 ≤ e ∧ e ≤ 12) ∧ atI [V.int 4, .int 4, .int 12] r = some (.int e) := by
      rcases (by omega : r = 0 ∨ r = 1 ∨ r = 2) with rfl | rfl | rfl
      · exact ⟨4, by decide, rfl⟩
      · exact ⟨4, by decide, rfl⟩
      · exact ⟨12, by decide, rfl⟩
    refine ⟨q, _, r, .int e, rfl, rfl, SqL.of h3q, hat, _, _, rfl, ba, li, _, rfl, b3, ?_, ?_, fun r2 H4 h0 h1 x4 b4 => ⟨1, r2, rfl, rfl, ?_⟩⟩
    · split <;> omega
    · split <;> omega
    have hr2 : r2 < left ∧ r2 < 12 := by
      split at h1 <;> omega
    have x24 := (x2.trans (ExB.of (Ex.new (o := .lst [V.int 4, .int 4, .int 12]) hq))).trans (x3.trans x4)
    have hqD : D ≠ q := fun z => by rw [← z, h2] at hq; cases hq
    have h4 : H4 D = some (.lst (p.map V.int)) := x4 D _ dba (x3 D _ dba (by rw [upd_ne hqD]; exact h2))
    refine q_app (v := .int (1 + r2)) h4 (ev_var rfl) (ev_var rfl) (by rw [List.length_map]; omega) fun H5 e5 => ?_
    have hdv : CDivW left (1 + r2) := wide_div (b := 64) (by omega) (by omega) (by decide) (by decide)
    refine s_asg (v := .int (left / (1 + r2))) (ev_iC (C := CDivW) (f := fun i j => .int (i / j)) hdv (ev_var (v := .int left) rfl) (ev_var (v := .int (1 + r2)) rfl)) fun H6 e6 => ?_
    have hpp : prodP (p ++ [1 + r2]) = prodP p * (1 + r2) := by unfold prodP; rw [List.foldl_append]; rfl
    have hdiv1 : 1 ≤ left / (1 + r2) := (Int.le_ediv_iff_mul_le (by omega)).mpr (by omega)
    have hdiv2 : (1 + r2) * (left / (1 + r2)) ≤ left := Int.mul_ediv_self_le (by omega)
    refine ⟨some (.int (0 + (i : Nat))), some (.int (1 + r2)), _, p ++ [1 + r2], rfl, (exb_mut (x24.trans (ExB.of e5)) hD).trans (ExB.of e6), (bag_mut (b4.ex e5) dba dli).ex e6, e6 D _ (by rw [upd_same]; simp), by simp [hp], fun x hx => ?_, hdiv1, ?_, ?_⟩
    · rcases List.mem_append.mp hx with hx | hx
      · exact hpx x hx
      · rw [List.mem_singleton.mp hx]; omega
    · rw [hpp, Int.mul_assoc]
      exact Int.le_trans (Int.mul_le_mul_of_nonneg_left hdiv2 (by omega)) hpl
    · rw [hpp]
      have := Int.mul_le_mul hp1 (show (1 : Int) ≤ 1 + r2 by omega) (by decide) (by omega)
      omega
  · rintro σ H2 ⟨u1, u2, left, p, rfl, x2, b2, h2, hp, hpx, hl1, hpl, hp1⟩
    rw [Int.toNat_natCast] at hp
    have hdiv : DivOk p := ⟨by omega, by omega, hpx, by
      have := Int.mul_le_mul_of_nonneg_left hl1 (show (0 : Int) ≤ prodP p by omega)
      omega⟩
    refine ⟨_, rfl, _, rfl, ba, li, D, p, rfl, b2, dba, h2, by omega, fun D2 q H3 hD2 perm x3 b3 h3 => .inl ⟨D2, _, rfl, SqL.of h3, fun t ht => ?_⟩⟩
    exact k _ q _ .new (hdiv.perm perm) (by rw [perm.length_eq, hp]) ((x2.trans x3).trans (ExB.of (Ex.new ht))) (b3.ex (Ex.new ht))
end
end Lk


/-! Lookscan: the law's parts. -/
namespace Lk
open PySem PySem.Spec PyProof.Rows L2 Evl
theorem q_te {te : TE} {tz : TS} {D : Ends} {σ : L2.St} {H : Hp} {i : Nat} (h : te σ H fun v H1 => tz D (σ.set i (some v)) H1) : tSeq (tAsg te (gName i)) tz D σ H := h
theorem each_ints {Pm : Int → Prop} : ∀ {ys : List V} {is : List Nat}, Paired (fun (v : V) (_ : Nat) => ∃ m, v = V.int m ∧ Pm m) ys is → ∃ ms : List Int, ys = ms.map V.int ∧ ms.length = is.length ∧ ∀ m ∈ ms, Pm m
  | _, _, .nil => ⟨[], rfl, rfl, fun m h => by cases h⟩
  | _, _, .cons ⟨m, e, hm⟩ t => by
    obtain ⟨ms, h1, h2, h3⟩ := each_ints t
    refine ⟨m :: ms, by rw [e, h1]; rfl, by rw [List.length_cons, List.length_cons, h2], fun x hx => ?_⟩
    rcases List.mem_cons.mp hx with rfl | hx
    · exact hm
    · exact h3 x hx
theorem paired_mapI {α : Type} {Pz : V → α → Prop} {L : List α} (d : α) : ∀ {ys : List V} {is : List Nat}, Paired (fun v i => ∀ p, L[i]? = some p → Pz v p) ys is → (∀ i ∈ is, i < L.length) → Paired Pz ys (is.map fun i => L.getD i d)
  | _, _, .nil, _ => .nil
  | _, _, .cons a t, h => .cons (a _ (by
      have hi := h _ List.mem_cons_self
      show L[_]? = some (L.getD _ d)
      rw [List.getD_eq_getElem?_getD, List.getElem?_eq_getElem hi]
      rfl)) (paired_mapI d t fun i hi => h i (List.mem_cons_of_mem _ hi))
theorem list_getD {α : Type} (L : List α) (d : α) : (List.range L.length).map (fun i => L.getD i d) = L := by
  apply List.ext_getElem
  · simp
  · intro i h1 h2
    simp [h2]
theorem paired_filter {α : Type} {Pz : V → α → Prop} {L : List α} (d : α) {ys : List V} {f : Nat → Bool} {g : α → Bool} (hfg : ∀ i p, L[i]? = some p → f i = g p) (h : Paired (fun v i => ∀ p, L[i]? = some p → Pz v p) ys ((List.range L.length).filter f)) : Paired Pz ys (L.filter g) := by
  have e2 : L.filter g = ((List.range L.length).filter f).map (fun i => L.getD i d) := by
    conv => lhs; rw [← list_getD L d]
    rw [List.filter_map]
    congr 1
    apply List.filter_congr
    intro i hi
    have hl := List.mem_range.mp hi
    have e : L.getD i d = L[i] := by simp [hl]
    show g (L.getD i d) = f i
    rw [e]
    exact (hfg i L[i] (List.getElem?_eq_getElem hl)).symm
  rw [e2]
  exact paired_mapI d h fun i hi => List.mem_range.mp (List.mem_filter.mp hi).1
/-- the numbers with this mark -/
def partN (n : Nat) (mk : Nat → Int) (c : Int) : List Nat := (List.range n).filter fun i => decide (mk i = c)
def partI (n : Nat) (mk : Nat → Int) (c : Int) : List Int := (partN n mk c).map fun i => ((i : Nat) : Int)
abbrev marksL : List Int := [1, 4, 0, 3, 2]
theorem parts_perm {n : Nat} {mk : Nat → Int} (h : ∀ i, i < n → 0 ≤ mk i ∧ mk i < 5) : (marksL.flatMap (partN n mk)).Perm (List.range n) := by
  rw [List.perm_iff_count]
  intro a
  have cf : ∀ c, List.count a (partN n mk c) = if mk a = c then List.count a (List.range n) else 0 := fun c => by
    unfold partN
    by_cases hc : mk a = c
    · rw [if_pos hc, List.count_filter (by simpa using hc)]
    · rw [if_neg hc, List.count_eq_zero]
      intro hm
      exact hc (by simpa using (List.mem_filter.mp hm).2)
  simp only [marksL, List.flatMap_cons, List.flatMap_nil, List.count_append, List.append_nil, cf]
  by_cases ha : a < n
  · obtain ⟨h1, h2⟩ := h a ha
    rcases (by omega : mk a = 1 ∨ mk a = 4 ∨ mk a = 0 ∨ mk a = 3 ∨ mk a = 2) with e | e | e | e | e <;> simp [e]
  · have : List.count a (List.range n) = 0 := by
      rw [List.count_eq_zero]
      simpa using ha
    simp [this]
theorem flat_ne {α : Type} : ∀ l : List (List α), (l.filter fun p => !p.isEmpty).flatten = l.flatten
  | [] => rfl
  | [] :: l => by simpa using flat_ne l
  | (a :: p) :: l => by simpa using flat_ne l
def partsOf (n : Nat) (mk : Nat → Int) : List (List Int) := (marksL.map (partI n mk)).filter fun p => !p.isEmpty
theorem partsOk {n : Nat} {mk : Nat → Int} (hn : 1 ≤ n) (h : ∀ i, i < n → 0 ≤ mk i ∧ mk i < 5) : PartOk n (partsOf n mk) := by
  have hall : (partsOf n mk).flatten.Perm ((List.range n).map fun i => ((i : Nat) : Int)) := by
    unfold partsOf
    rw [flat_ne]
    have e : (marksL.map (partI n mk)).flatten = (marksL.flatMap (partN n mk)).map fun i => ((i : Nat) : Int) := by
      unfold partI
      rw [List.map_flatMap, List.flatMap_def]
    rw [e]
    exact (parts_perm h).map _
  refine ⟨fun z => ?_, fun p hp => ?_, hall⟩
  · rw [z] at hall
    have := hall.length_eq
    simp at this
    omega
  · unfold partsOf at hp
    obtain ⟨h1, h2⟩ := List.mem_filter.mp hp
    obtain ⟨c, _, rfl⟩ := List.mem_map.mp h1
    refine ⟨fun z => by rw [z] at h2; simp at h2, ?_⟩
    unfold partI partN
    rw [List.pairwise_map]
    refine List.Pairwise.filter _ ?_
    refine List.Pairwise.imp (fun {a b} hab => ?_) List.pairwise_lt_range
    omega
section
variable {P : Program} {w : World} {K : PySem.W.Frag} {mg : Str → Option Value} {base : Heap} {leaf C fi fc dp dg fo : Addr}
abbrev sLawParts : Stmt := top 62
theorem scLawParts : FnScope ["_law_bag_here", "_law_many", "_law_most", "_law_marks", "_law_number", "_law_found", "_law_mark", "_law_part"] ["_law_bag_here", "_law_many", "_law_most"] (defScope sLawParts) := ⟨rfl, rfl, rfl, by decide +kernel, rfl, by decide +kernel, by decide +kernel⟩
def spLawParts : Sp := fun vs H Q _ => ∃ (ba li : Addr) (n : Nat) (mo : Int), vs = [.ref ba, .int (n : Nat), .int mo] ∧ BagAt ba li H ∧ 1 ≤ n ∧ n ≤ 12 ∧ 1 ≤ mo ∧ mo ≤ 5 ∧ ∀ D ys gs H', H D = none → ExB ba H H' → BagAt ba li H' → H' D = some (.lst ys) → Paired (fun y p => Pl H' y p) ys gs → PartOk n gs → Q (.ref D) H'
theorem ok_law_parts (B : Bt mg) (F : Df K mg "_law_parts" sLawParts) (h__law_pull : Ok P w K mg base 2 "_law_pull" ["_law_bag_here", "_law_amount"] spLawPull) : Ok P w K mg base 3 "_law_parts" ["_law_bag_here", "_law_many", "_law_most"] spLawParts := by
  refine ok_of F scLawParts (fun vs H Q E h => by obtain ⟨ba, li, n, mo, rfl, _⟩ := h; rfl) (fun dV _ _ _ _ _ _ us hl e => by subst e; exact match us, hl with | [_, _, _], _ => rfl) fun f cdv A outer s H vs Q E hr h => ?_
  obtain ⟨ba, li, n, mo, rfl, hbag, hn1, hn12, hm1, hm5, k⟩ := h
  refine ⟨_, (pss_cons (ps_set (i := 3) scLawParts.nd rfl (Or.inr rfl) (pe_lc (own := [("_law_number", 4)]) (g := (gName 4)) (tt := tYes) (te := (tCall spLawPull [] E0 (tCons (tVar 0) (tCons (tVar 2) tNil)))) rfl scLawParts.nd (pi_range1 rfl B.range (pa_cons (pv 1) pa_nil)) (blkOk_by (own := [("_law_number", 4)]) (N := ["_law_bag_here", "_law_many", "_law_most", "_law_marks", "_law_number", "_law_found", "_law_mark", "_law_part"]) (sc := defScope sLawParts) (by decide +kernel)) (fun _ _ _ _ _ => (pg_name (i := 4) scLawParts.nd rfl (Or.inl rfl) (Or.inr rfl))) (fun _ _ _ _ _ => pts_nil) (fun _ _ _ _ _ => (pe_do h__law_pull hr rfl (pa_cons (pv 0) (pa_cons (pv 2) pa_nil))))))
      (pss_cons (ps_setLc (i := 5) (own := [("_law_mark", 6)]) (g := (gName 6)) (tt := tYes) (te := (tThen (tLc (iRng1 (tCons (tVar 1) tNil)) (gName 4) (tTest (tOp rEq (tOp (rIxL K) (tVar 3) (tVar 4)) (tVar 6))) (tVar 4) [4]) (kTup K))) rfl scLawParts.nd rfl rfl (sw_true rfl rfl rfl (by decide +kernel)) (pi_list (pe_lst (pa_cons pe_int (pa_cons pe_int (pa_cons pe_int (pa_cons pe_int (pa_cons pe_int pa_nil))))))) (blkOk_by (own := [("_law_mark", 6)]) (N := ["_law_bag_here", "_law_many", "_law_most", "_law_marks", "_law_number", "_law_found", "_law_mark", "_law_part"]) (sc := defScope sLawParts) (by decide +kernel)) (fun _ _ _ _ _ => (pg_name (i := 6) scLawParts.nd rfl (Or.inr rfl) (Or.inl rfl))) (fun _ _ _ _ _ => pts_nil) (fun _ _ _ _ _ => (pe_tupleOf rfl B.tuple (pe_lc (own := [("_law_number", 4)]) (g := (gName 4)) (tt := (tTest (tOp rEq (tOp (rIxL K) (tVar 3) (tVar 4)) (tVar 6)))) (te := (tVar 4)) rfl scLawParts.nd (pi_range1 rfl B.range (pa_cons (pv 1) pa_nil)) (blkOk_by (own := [("_law_number", 4)]) (by rfl)) (fun _ _ _ _ _ => (pg_name (i := 4) scLawParts.nd rfl (Or.inl rfl) (Or.inr rfl))) (fun _ _ _ _ _ => pts_one (pt_cmpR op_eq (pe_ix ix_list (pv 3) (pv 4) (fun _ _ => rfl)) (pv 6) (nomark _))) (fun _ _ _ _ _ => (pv 4))))))
      (pss_one (ps_ret (pe_lc (own := [("_law_part", 7)]) (g := (gName 7)) (tt := (tTest (tOp (rNeD K) (tVar 7) (tTup tNil)))) (te := (tVar 7)) rfl scLawParts.nd (pi_list (pv 5)) (blkOk_by (own := [("_law_part", 7)]) (N := ["_law_bag_here", "_law_many", "_law_most", "_law_marks", "_law_number", "_law_found", "_law_mark", "_law_part"]) (sc := defScope sLawParts) (by decide +kernel)) (fun _ _ _ _ _ => (pg_name (i := 7) scLawParts.nd rfl (Or.inl rfl) (Or.inr rfl))) (fun _ _ _ _ _ => pts_one (pt_cmpR (op_neD hr.units) (pv 7) (pe_tup pa_nil) (nomark _))) (fun _ _ _ _ _ => (pv 7))))))), ?_⟩
  -- marks
  refine q_te (el_lcBR (K := K) (n := n) (ea1 (ev_var rfl)) (fun i v H => ∃ m, v = V.int m ∧ 0 ≤ m ∧ m < 5) (fun _ _ _ _ _ h => h) hbag (by omega) (fun i x H1 hi hx x1 b1 Q2 k2 => ?_) fun D1 ys1 H1 hD1 x1 b1 h1 each1 => ?_)
  · exact pull_at (ea2 (ev_var rfl) (ev_var rfl)) b1 (by omega) (by omega) fun r H2 hr0 hr1 x2 b2 => k2 _ H2 x2 b2 ⟨r, rfl, hr0, by omega⟩
  obtain ⟨ms, rfl, hml, hmr⟩ := each_ints each1
  rw [List.length_range] at hml
  have d1ba := hbag.ne hD1
  generalize hmk : (fun i : Nat => ms.getD i 0) = mk
  have hmkr : ∀ i, i < n → 0 ≤ mk i ∧ mk i < 5 := fun i hi => by
    rw [← hmk]
    have e : ms.getD i 0 = ms[i] := by simp [show i < ms.length by omega]
    show 0 ≤ ms.getD i 0 ∧ ms.getD i 0 < 5
    rw [e]
    exact hmr _ (List.getElem_mem (by omega))
  have hok := partsOk hn1 hmkr
  -- found
  have hpart : ∀ {σ : L2.St} {H2 : Hp} {c : Int}, σ[1]? = some (some (.int (n : Nat))) → σ[3]? = some (some (.ref D1)) → σ[6]? = some (some (.int c)) → 4 < σ.length → H2 D1 = some (.lst (ms.map V.int)) → EvX (tThen (tLc (iRng1 (tCons (tVar 1) tNil)) (gName 4) (tTest (tOp rEq (tOp (rIxL K) (tVar 3) (tVar 4)) (tVar 6))) (tVar 4) [4]) (kTup K)) σ H2 (fun v H3 => Pl H3 v (partI n mk c)) := fun {σ H2 c} g1 g3 g6 g4 hd => by
    have wp : wipe σ [4] = σ.set 4 none := rfl
    have l1 : ∀ u, (((wipe σ [4]).set 4 u)[1]? : Option (Option V)) = some (some (.int (n : Nat))) := fun u => by rw [wp]; simpa using g1
    have l3 : ∀ u, (((wipe σ [4]).set 4 u)[3]? : Option (Option V)) = some (some (.ref D1)) := fun u => by rw [wp]; simpa using g3
    have l6 : ∀ u, (((wipe σ [4]).set 4 u)[6]? : Option (Option V)) = some (some (.int c)) := fun u => by rw [wp]; simpa using g6
    have l4 : ∀ u, (((wipe σ [4]).set 4 u)[4]? : Option (Option V)) = some u := fun u => by rw [wp]; simp [g4]
    refine evX_pl (eu_tup ?_)
    have z := el_lcR1 (ta := tCons (tVar 1) tNil) (t := tTest (tOp rEq (tOp (rIxL K) (tVar 3) (tVar 4)) (tVar 6))) (te := tVar 4) (σ := σ) (H := H2) (j := 4) (vs := [4]) (n := (n : Nat)) (fun i => decide (mk i = c)) (fun i => V.int (i : Nat)) (ea1 (ev_var g1)) ⟨by omega, by omega⟩ (fun x => wipe1) (fun i H3 e3 hi => ?_) (fun i H3 e3 hi hf => ev_var (l4 _))
    · have ez : given ((n : Nat) : Int).toNat (fun i => decide (mk i = c)) (fun i => V.int (i : Nat)) = (partI n mk c).map V.int := by
        unfold given partI partN
        rw [Int.toNat_natCast, List.map_map]
        rfl
      rw [ez] at z
      exact z
    · have hi2 : i < ms.length := by omega
      have em : mk i = ms[i] := by rw [← hmk]; simp [hi2]
      refine et_test (ev_eqI (ev_ixL (K := K) i (ev_var (l3 _)) ⟨D1, rfl, e3 D1 _ hd⟩ (ev_var (l4 _)) rfl (by rw [List.getElem?_map, List.getElem?_eq_getElem hi2, em]; rfl)) (ev_var (l6 _)))
  have fnd : EvLs (tLc (iList K (tLst (tCons (tC (.int 1)) (tCons (tC (.int 4)) (tCons (tC (.int 0)) (tCons (tC (.int 3)) (tCons (tC (.int 2)) tNil))))))) (gName 6) tYes (tThen (tLc (iRng1 (tCons (tVar 1) tNil)) (gName 4) (tTest (tOp rEq (tOp (rIxL K) (tVar 3) (tVar 4)) (tVar 6))) (tVar 4) [4]) (kTup K)) [6]) [some (.ref ba), some (.int (n : Nat)), some (.int mo), some (.ref D1), none, none, none, none] H1 (fun zs H => Paired (fun y p => Pl H y p) zs (marksL.map (partI n mk))) := fun H2 e2 Q2 q2 => ⟨sz_of (by simp), fun M hM => ⟨M, rfl, ⟨_, SqL.of upd_same⟩, by
    have eM := Ex.new (o := .lst [V.int 1, .int 4, .int 0, .int 3, .int 2]) hM
    refine lc_feeds (Q := Q2) (fun _ => true) (fun i u H => ∀ p, (marksL.map (partI n mk))[i]? = some p → Pl H u p) (feeds_list (K := K) (SqL.of upd_same)) (by show (5 : Nat) < sizeLine; decide) (fun i u H H' t z p hp => (z p hp).tx t) ?_ ?_
    · intro i y H3 hi e3 hyi Q3 k3
      obtain ⟨c, hc, rfl⟩ : ∃ c, marksL[i]? = some c ∧ y = V.int c := by
        have : ([V.int 1, .int 4, .int 0, .int 3, .int 2] : List V) = marksL.map V.int := rfl
        rw [this, List.getElem?_map] at hyi
        obtain ⟨c, h1, h2⟩ := Option.map_eq_some_iff.mp hyi
        exact ⟨c, h1, h2.symm⟩
      refine k3 _ H3 (Ex.refl _) wipe1 evB_yes fun _ H4 e4 Q4 q4 => ?_
      refine hpart (c := c) rfl rfl rfl (by show 4 < 8; decide) (((e2.trans eM).trans (e3.trans e4)) D1 _ h1) H4 (Ex.refl _) _ fun u H5 e5 hu => q4 u H5 e5 fun p hp => ?_
      rw [List.getElem?_map, hc] at hp
      cases hp
      exact hu
    · intro D zs H3 hD e3 hz each
      rw [filter_yes] at each
      exact q2 D zs H3 (fresh_back eM hD) (eM.trans e3) hz (paired_range (by simp [marksL]) each)⟩⟩
  refine q_asgLs fnd fun D2 zs H2 hD2 e2 h2 hzp => ?_
  have hzl := hzp.length
  -- the parts that have numbers
  refine ⟨_, rfl, D2, rfl, ⟨zs, SqL.of h2⟩, ?_⟩
  refine lc_feeds (Q := Q) (fun i => decide (∃ p, (marksL.map (partI n mk))[i]? = some p ∧ p ≠ [])) (fun i u H => ∀ p, (marksL.map (partI n mk))[i]? = some p → Pl H u p) (feeds_list (K := K) (SqL.of h2)) (by rw [hzl]; show (5 : Nat) < sizeLine; decide) (fun i u H H' t z p hp => (z p hp).tx t) ?_ ?_
  · intro i y H3 hi e3 hyi Q3 k3
    obtain ⟨p, hpi, hyp⟩ := paired_getL hzp hyi
    have hy3 := hyp.tx (tx_of e3)
    refine turn_name (i := 0) (j := 7) (R := fun u H => ∀ p, (marksL.map (partI n mk))[i]? = some p → Pl H u p) wipe1 ?_ (fun _ H6 e6 Q6 q6 => ⟨y, rfl, q6 y H6 (Ex.refl _) fun p' hp' => ?_⟩) Q3 k3
    · intro Q6 q6
      refine ⟨y, rfl, sz_of (by simp), fun q hq => ?_⟩
      have eq := Ex.new (o := .tup ([] : List V)) hq
      refine ⟨_, _, dp_pl (hy3.tx (tx_of eq)), dp_pl (p := []) .new, shaped_ints _, shaped_ints _, _, rfl, ?_⟩
      have eb : (!PyData.eqv (.tuple (p.map .int)) (.tuple (([] : List Int).map .int))) = decide (∃ p, (marksL.map (partI n mk))[i]? = some p ∧ p ≠ []) := by
        rw [show PyData.eqv (.tuple (p.map .int)) (.tuple (([] : List Int).map .int)) = decide (p = []) from eqvAll_ints _ _]
        by_cases hp : p = []
        · rw [decide_eq_true hp, decide_eq_false]
          · rfl
          · rintro ⟨p', h1, h2⟩
            rw [hpi] at h1
            cases h1
            exact h2 hp
        · rw [decide_eq_false hp, decide_eq_true ⟨p, hpi, hp⟩]
          rfl
      rw [eb]
      exact q6 _ eq
    · rw [hpi] at hp'
      cases hp'
      exact hy3.tx (tx_of e6)
  · intro D ys H3 hD e3 hy each
    have x13 := ExB.of (ba := ba) (e2.trans e3)
    have dn1 := fresh_back e2 hD
    refine k D ys (partsOf n mk) H3 (fresh_exb x1 (b1.ne dn1) dn1) (x1.trans x13) ((b1.ex e2).ex e3) hy ?_ hok
    rw [hzl] at each
    refine paired_filter ([] : List Int) (fun i p hp => ?_) each
    by_cases h0 : p = []
    · rw [decide_eq_false]
      · rw [h0]; rfl
      · rintro ⟨p', h1, h2⟩
        rw [hp] at h1
        cases h1
        exact h2 h0
    · rw [decide_eq_true ⟨p, hp, h0⟩]
      cases p with
      | nil => exact absurd rfl h0
      | cons a l => rfl
end
end Lk


/-! Lookscan: the law's looks, trees, scans. -/
namespace Lk
open PySem PySem.Spec PyProof.Rows L2 Evl
theorem unit_look {d : Nat} (h : 1 ≤ d) : IsLook d (1 :: List.replicate (d - 1) 0) := by
  refine ⟨by simp; omega, fun z => ?_, fun i hi => ?_⟩
  · obtain ⟨e, rfl⟩ : ∃ e, d = e + 1 := ⟨d - 1, by omega⟩
    rw [List.replicate_succ] at z
    have := (List.cons.inj z).1
    cases this
  · rcases List.mem_cons.mp hi with rfl | hi
    · decide
    · rw [(List.mem_replicate.mp hi).2]; decide
theorem rep_ints (d : Nat) : (List.replicate d [V.int 0]).flatten = (List.replicate d (0 : Int)).map V.int := by
  simp [List.flatten_replicate_singleton]
section
variable {P : Program} {w : World} {K : PySem.W.Frag} {mg : Str → Option Value} {base : Heap} {leaf C fi fc dp dg fo : Addr}
abbrev sLawLooks : Stmt := top 64
theorem scLawLooks : FnScope ["_law_bag_here", "_law_directions", "_law_found", "_law_size", "_law_k", "_law_look", "_law_at"] ["_law_bag_here", "_law_directions"] (defScope sLawLooks) := ⟨rfl, rfl, rfl, by decide +kernel, rfl, by decide +kernel, by decide +kernel⟩
def spLawLooks : Sp := fun vs H Q _ => ∃ (ba li : Addr) (d : Nat), vs = [.ref ba, .int (d : Nat)] ∧ BagAt ba li H ∧ 1 ≤ d ∧ d ≤ 3 ∧ ∀ D ps H', H D = none → ExB ba H H' → BagAt ba li H' → Ls H' (.ref D) ps → LooksOk d ps → Q (.ref D) H'
theorem ok_law_looks (B : Bt mg) (F : Df K mg "_law_looks" sLawLooks) (h__law_pull : Ok P w K mg base 2 "_law_pull" ["_law_bag_here", "_law_amount"] spLawPull) (h__law_of : Ok P w K mg base 2 "_law_of" ["_law_bag_here", "_law_things"] spLawOf) : Ok P w K mg base 3 "_law_looks" ["_law_bag_here", "_law_directions"] spLawLooks := by
  refine ok_of F scLawLooks (fun vs H Q E h => by obtain ⟨ba, li, d, rfl, _⟩ := h; rfl) (fun dV _ _ _ _ _ _ us hl e => by subst e; exact match us, hl with | [_, _], _ => rfl) fun f cdv A outer s H vs Q E hr h => ?_
  obtain ⟨ba, li, d, rfl, hbag, hd1, hd3, k⟩ := h
  refine ⟨_, (pss_cons (ps_asg (pe_tup (pa_cons (pe_lst pa_nil) (pa_cons (pe_do h__law_of hr rfl (pa_cons (pv 0) (pa_cons (pe_lst (pa_cons pe_int (pa_cons pe_int (pa_cons pe_int (pa_cons pe_int (pa_cons pe_int pa_nil)))))) pa_nil))) pa_nil))) (pg_tup rfl (pgs_cons (pg_name (i := 2) scLawLooks.nd rfl (Or.inl rfl)) (pgs_cons (pg_name (i := 3) scLawLooks.nd rfl (Or.inr rfl)) pgs_nil))))
      (pss_cons (ps_for PassesOwn.never rfl (pi_range1 rfl B.range (pa_cons (pe_op op_add pe_int (pe_do h__law_pull hr rfl (pa_cons (pv 0) (pa_cons pe_int pa_nil)))) pa_nil)) (pg_name (i := 4) scLawLooks.nd rfl (Or.inl rfl))
      (pss_cons (ps_set (i := 5) scLawLooks.nd rfl (Or.inl rfl) (pe_tupleOf rfl B.tuple (pe_lc (own := [("_law_at", 6)]) (g := (gName 6)) (tt := tYes) (te := (tOp (rI0 fun i j => .int (i - j)) (tCall spLawPull [] E0 (tCons (tVar 0) (tCons (tOp (rI0 fun i j => .int (i + j)) (tOp (rI CMul fun i j => .int (i * j)) (tC (.int 2)) (tVar 3)) (tC (.int 1))) tNil))) (tVar 3))) rfl scLawLooks.nd (pi_range1 rfl B.range (pa_cons (pv 1) pa_nil)) (blkOk_by (own := [("_law_at", 6)]) (N := ["_law_bag_here", "_law_directions", "_law_found", "_law_size", "_law_k", "_law_look", "_law_at"]) (sc := defScope sLawLooks) (by decide +kernel)) (fun _ _ _ _ _ => (pg_name (i := 6) scLawLooks.nd rfl (Or.inl rfl) (Or.inr rfl))) (fun _ _ _ _ _ => pts_nil) (fun _ _ _ _ _ => (pe_op op_sub (pe_do h__law_pull hr rfl (pa_cons (pv 0) (pa_cons (pe_op op_add (pe_op op_mul pe_int (pv 3)) pe_int) pa_nil))) (pv 3))))))
      (pss_one (ps_if (PW.pt (pw_and (pt_cmpR (op_neD hr.units) (pv 5) (pe_op op_repK (pe_tup (pa_cons pe_int pa_nil)) (pv 1)) (nomark _)) (pw_and1 (pt_cmpR (op_notInD (hu65 hr)) (pv 5) (pv 2) (by with_unfolding_all rfl))))) (pss_one (ps_expr (pe_bm PySem.F.plainAttrs_list PySem.F.slot_list_append PySem.F.type_list_append mt_append (pv 2) (pa_cons (pv 5) pa_nil)))) pss_nil))))
      (pss_one (ps_ret (pe_ifExp (pt_cmpR (op_neD hr.units) (pv 2) (pe_lst pa_nil) (nomark _)) (pv 2) (pe_lst (pa_cons (pe_op op_catA (pe_tup (pa_cons pe_int pa_nil)) (pe_op op_repK (pe_tup (pa_cons pe_int pa_nil)) (pe_op op_sub (pv 1) pe_int))) pa_nil))))))), ?_⟩
  refine ⟨by decide, fun D hD => ⟨_, rfl, sz_of (by simp), fun q hq => ⟨ba, li, q, _, rfl, (hbag.ex (Ex.new hD)).ex (Ex.new hq), ?_, upd_same, by simp, by simp, fun z H1 hz x1 b1 => ⟨sz_of (by simp), fun T hT => ⟨T, _, rfl, SqT.of upd_same, rfl, _, _, rfl, _, _, rfl, rfl, ?_⟩⟩⟩⟩⟩
  · exact (hbag.ex (Ex.new hD)).ne hq
  have dba := hbag.ne hD
  have dli := hbag.ne2 hD
  have hqD : D ≠ q := fun e => by rw [← e, upd_same] at hq; cases hq
  have x0 : ExB ba H (upd H1 T (.tup [.ref D, z])) := ((ExB.of (Ex.new hD)).trans (ExB.of (Ex.new hq))).trans (x1.trans (ExB.of (Ex.new hT)))
  have b0 : BagAt ba li (upd H1 T (.tup [.ref D, z])) := b1.ex (Ex.new hT)
  have hTD : D ≠ T := fun e => by
    have : H1 D = some (.lst []) := x1 D _ dba (by rw [upd_ne hqD, upd_same])
    rw [← e, this] at hT; cases hT
  have h0 : upd H1 T (.tup [.ref D, z]) D = some (.lst []) := by
    rw [upd_ne hTD]
    exact x1 D _ dba (by rw [upd_ne hqD, upd_same])
  obtain ⟨sz, rfl, hsz⟩ : ∃ sz : Int, z = .int sz ∧ (sz = 2 ∨ sz = 8) := by
    simp only [List.mem_cons, List.mem_nil_iff, or_false] at hz
    rcases hz with h | h | h | h | h <;> exact ⟨_, h, by decide⟩
  -- the loop
  refine pull_at (ea2 (ev_var rfl) ev_c) b0 (by decide) (by decide) fun r H2 hr0 hr1 x2 b2 => ⟨1, r, rfl, rfl, 1 + r, rfl, by omega, by omega, ?_⟩
  refine for_range (lo := 0) (n := (1 + r).toNat) (fun i σ H' => ∃ (u1 u2 u3 : Option V) (xs : List V) (ps : List (List Int)), σ = [some (.ref ba), some (.int (d : Nat)), some (.ref D), some (.int sz), u1, u2, u3] ∧ ExB ba H H' ∧ BagAt ba li H' ∧ H' D = some (.lst xs) ∧ Paired (fun x p => Pl H' x p) xs ps ∧ ps.length ≤ i ∧ ps.Nodup ∧ ∀ p ∈ ps, IsLook d p) ⟨_, _, _, [], [], rfl, x0.trans x2, b2, x2 D _ dba h0, .nil, Nat.le_refl _, List.nodup_nil, fun p h => by cases h⟩ ?_ ?_
  · rintro i σ H3 hi ⟨u1, u2, u3, xs, ps, rfl, x3, b3, h3, hp, hpl, hnd, hlk⟩
    have hi4 : i < 4 := by omega
    -- look
    refine q_te (el_lcBR (K := K) (n := d) (ea1 (ev_var rfl)) (fun i v H => ∃ m, v = V.int m ∧ -9 ≤ m ∧ m ≤ 9) (fun _ _ _ _ _ h => h) b3 (by omega) (fun i x H4 hi hx x4 b4 Q2 k2 => ?_) fun D1 ys1 H4 hD1 x4 b4 h4 each1 => ?_)
    · refine pull_at (ea2 (ev_var rfl) (ev_i0 (f := fun i j => .int (i + j)) (ev_iC (C := CMul) (f := fun i j => .int (i * j)) (.inl ⟨by decide, by decide⟩) ev_c (ev_var (v := .int sz) rfl)) ev_c)) b4 (by omega) (by omega) fun r H5 hr0 hr1 x5 b5 => ⟨_, rfl, r, sz, rfl, rfl, k2 _ H5 x5 b5 ⟨r - sz, rfl, by omega, by omega⟩⟩
    obtain ⟨ms, rfl, hml, hmr⟩ := each_ints each1
    rw [List.length_range] at hml
    refine .inl ⟨D1, _, rfl, SqL.of h4, fun t ht => ?_⟩
    have e5 := Ex.new (o := .tup (ms.map V.int)) ht
    have x35 := x4.trans (ExB.of (ba := ba) e5)
    have b5 := b4.ex e5
    have hms : Pl (upd H4 t (.tup (ms.map V.int))) (.ref t) ms := .new
    have hp5 := Paired.mapP hp fun _ _ z => Pl.tx (b3.tx x35) z
    have h5 := x35 D _ dba h3
    generalize upd H4 t (.tup (ms.map V.int)) = H5 at e5 x35 b5 hms hp5 h5
    have hnz : EvT (tTest (tOp (rNeD K) (tVar 5) (tOp (rRepK) (tTup (tCons (tC (.int 0)) tNil)) (tVar 1)))) [some (.ref ba), some (.int (d : Nat)), some (.ref D), some (.int sz), some (.int (0 + (i : Nat))), some (.ref t), u3] H5 (!decide (ms = List.replicate d 0)) := fun H6 e6 Q6 q6 => by
      refine ⟨_, rfl, sz_of (by simp), fun a haN => ⟨_, rfl, a, (d : Int), [.int 0], rfl, rfl, upd_same, by simp, by omega, by omega, by simp, fun v H7 e7 hv => ?_⟩⟩
      rw [Int.toNat_natCast, rep_ints] at hv
      have e67 := (Ex.new haN).trans e7
      refine ⟨_, _, dp_pl (hms.tx (tx_of (e6.trans e67))), dp_pl (p := List.replicate d 0) hv, shaped_ints _, shaped_ints _, _, rfl, ?_⟩
      rw [show PyData.eqv (.tuple (ms.map .int)) (.tuple ((List.replicate d (0 : Int)).map .int)) = decide (ms = List.replicate d 0) from eqvAll_ints _ _]
      exact q6 H7 e67
    have hni : EvT (tTest (tOp (rNotInD K) (tVar 5) (tVar 2))) [some (.ref ba), some (.int (d : Nat)), some (.ref D), some (.int sz), some (.int (0 + (i : Nat))), some (.ref t), u3] H5 (!decide (ms ∈ ps)) := et_test (ev_niL (K := K) (EvX.of (ev_var rfl) fun H6 e6 => hms.tx (tx_of e6)) (ev_var rfl) ⟨xs, ⟨D, rfl, h5⟩, hp5⟩)
    refine s_when (et_and hnz fun _ => hni) (fun hb H6 e6 => ?_) fun hb H6 e6 => ?_
    · rw [Bool.and_eq_true] at hb
      have hz0 : ms ≠ List.replicate d 0 := by simpa using hb.1
      have hin : ms ∉ ps := by simpa using hb.2
      have hpl2 := hp.length
      refine s_app (v := .ref t) (e6 D _ h5) (ev_var rfl) (ev_var rfl) (by omega) fun H7 e7 => ?_
      have e57 := e6.trans e7
      have tx7 : Tx H5 (upd H7 D (.lst (xs ++ [.ref t]))) := (tx_of e57).trans (Tx.lst (e57 D _ h5))
      refine ⟨_, _, _, xs ++ [.ref t], ps ++ [ms], rfl, exb_mut ((x3.trans x35).trans (ExB.of e57)) hD, bag_mut (b5.ex e57) dba dli, upd_same, paired_append (Paired.mapP hp5 fun _ _ z => z.tx tx7) (.cons (hms.tx tx7) .nil), by simp; omega, ?_, fun p hp => ?_⟩
      · rw [List.nodup_append]
        refine ⟨hnd, by simp, fun a ha b hb => ?_⟩
        rw [List.mem_singleton.mp hb]
        exact fun z => hin (z ▸ ha)
      · rcases List.mem_append.mp hp with hp | hp
        · exact hlk p hp
        · rw [List.mem_singleton.mp hp]
          exact ⟨hml, hz0, hmr⟩
    · exact ⟨_, _, _, xs, ps, rfl, (x3.trans x35).trans (ExB.of e6), b5.ex e6, e6 D _ h5, Paired.mapP hp5 fun _ _ z => z.tx (tx_of e6), by omega, hnd, hlk⟩
  · rintro σ H3 ⟨u1, u2, u3, xs, ps, rfl, x3, b3, h3, hp, hpl, hnd, hlk⟩
    have hlen := hp.length
    have tst : EvT (tTest (tOp (rNeD K) (tVar 2) (tLst tNil))) [some (.ref ba), some (.int (d : Nat)), some (.ref D), some (.int sz), u1, u2, u3] H3 (!decide (ps = [])) := fun H4 e4 Q4 q4 => by
      refine ⟨_, rfl, by decide, fun a haN => ?_⟩
      have eN := Ex.new (o := .lst ([] : List V)) haN
      refine ⟨_, _, .lst (SqL.of ((e4.trans eN) D _ h3)) (dpAll_pls (Paired.mapP hp fun _ _ z => Pl.tx (tx_of (e4.trans eN)) z)), .lst (SqL.of upd_same) (dpAll_pls (ps := []) .nil), shaped_pls _, shaped_pls [], _, rfl, ?_⟩
      have eb : PyData.eqv (.list (ps.map fun p => .tuple (p.map .int))) (.list (([] : List (List Int)).map fun p => .tuple (p.map .int))) = decide (ps = []) := by
        cases ps with
        | nil => rfl
        | cons p l => rfl
      rw [eb]
      exact q4 _ eN
    by_cases h0 : ps = []
    · rw [decide_eq_true h0] at tst
      refine tst H3 (Ex.refl _) _ fun H4 e4 => ?_
      rw [if_neg (by decide)]
      have fin : ∀ (x : V) (H6 : Hp), Ex H4 H6 → Pl H6 x (1 :: List.replicate (d - 1) 0) → [x].length ≤ sizeLine ∧ ∀ p, H6 p = none → Q (.ref p) (upd H6 p (.lst [x])) := fun x H6 e6 hx => ⟨by show 1 ≤ sizeLine; decide, fun p hp => by
        have x46 := ExB.of (ba := ba) ((e4.trans e6).trans (Ex.new (o := .lst [x]) hp))
        have pn : H3 p = none := fresh_back (e4.trans e6) hp
        exact k p [1 :: List.replicate (d - 1) 0] _ (fresh_exb x3 (b3.ne pn) pn) (x3.trans x46) (((b3.ex e4).ex e6).ex (Ex.new hp)) ⟨[x], ⟨p, rfl, upd_same⟩, .cons (hx.tx (Tx.new hp)) .nil⟩ ⟨by simp, by simp, by simp, fun q hq => by rw [List.mem_singleton.mp hq]; exact unit_look hd1⟩⟩
      refine ⟨sz_of (by simp), fun pa hpa => ⟨sz_of (by simp), fun pb hpb => ⟨_, rfl, (d : Int), 1, rfl, rfl, pb, (d : Int) - 1, [.int 0], rfl, rfl, upd_same, by simp, by omega, by omega, by simp, fun v H5 e5 hv => ?_⟩⟩⟩
      have ea := Ex.new (o := .tup [V.int 1]) hpa
      have eb := Ex.new (o := .tup [V.int 0]) hpb
      have hA : H5 pa = some (.tup [V.int 1]) := e5 pa _ (eb pa _ upd_same)
      have en : ((d : Int) - 1).toNat = d - 1 := by omega
      rw [en, rep_ints] at hv
      have e45 := (ea.trans eb).trans e5
      obtain ⟨vb, rfl, hvb⟩ := hv
      refine ⟨pa, vb, _, _, rfl, rfl, SqT.of hA, SqT.of hvb, sz_of (by simp; omega), fun z => by simp at z, fun _ z => ?_, fun _ _ p hp => ?_⟩
      · have hz : List.replicate (d - 1) (0 : Int) = [] := by
          cases hq : List.replicate (d - 1) (0 : Int) with
          | nil => rfl
          | cons a l => rw [hq] at z; simp at z
        exact fin _ H5 e45 ⟨pa, rfl, by rw [hz]; exact hA⟩
      · exact fin _ _ (e45.trans (Ex.new hp)) ⟨p, rfl, by rw [upd_same]; rfl⟩
    · rw [decide_eq_false h0] at tst
      refine tst H3 (Ex.refl _) _ fun H4 e4 => ?_
      rw [if_pos (by decide)]
      refine ⟨_, rfl, k D ps H4 hD (x3.trans (ExB.of e4)) (b3.ex e4) ⟨xs, ⟨D, rfl, e4 D _ h3⟩, Paired.mapP hp fun _ _ z => z.tx (tx_of e4)⟩ ⟨List.length_pos_iff.mpr h0, by omega, hnd, hlk⟩⟩
end
end Lk


/-! Lookscan: the law's trees, scans. -/
namespace Lk
open PySem PySem.Spec PyProof.Rows L2 Evl
theorem prod_ge : ∀ {ds : List Int}, (∀ d ∈ ds, 1 ≤ d) → ∀ a : Int, 1 ≤ a → 1 ≤ ds.foldl (fun a b => a * b) a
  | [], _, a, ha => ha
  | d :: ds, h, a, ha => by
    refine prod_ge (fun x hx => h x (List.mem_cons_of_mem _ hx)) (a * d) ?_
    have := Int.mul_le_mul ha (h d List.mem_cons_self) (by decide) (by omega)
    omega
theorem DivOk.nat {ds : List Int} (h : DivOk ds) : ∃ n : Nat, prodP ds = (n : Nat) ∧ 1 ≤ n ∧ n ≤ 12 := by
  have h1 : 1 ≤ prodP ds := prod_ge (fun d hd => (h.pos d hd).1) 1 (by decide)
  have h2 := h.few
  exact ⟨(prodP ds).toNat, by omega, by omega, by omega⟩
theorem gs_make {H : Hp} {d n k : Nat} : ∀ {zs : List V} {gs : List (List Int)}, Paired (fun v p => ∃ t, GrAt H v (p, t) ∧ TrOk d n t ∧ t.ht ≤ k) zs gs → ∃ G : Gs, G.parts = gs ∧ Paired (fun x g => GrAt H x g) zs G.list ∧ GsOk d n G ∧ G.ht ≤ k
  | _, _, .nil => ⟨.nil, rfl, .nil, by unfold GsOk; trivial, by unfold Gs.ht; exact Nat.zero_le _⟩
  | _, _, .cons ⟨t, h1, h2, h3⟩ r => by
    obtain ⟨G, g1, g2, g3, g4⟩ := gs_make r
    refine ⟨.cons _ t G, by rw [← g1]; rfl, .cons h1 g2, by unfold GsOk; exact ⟨h2, g3⟩, by rw [Gs.ht]; omega⟩
section
variable {σ : L2.St} {H : Hp}
theorem ea3 {ta tb tc : TE} {x y z : V} (h : Ev ta σ H x) (h2 : Ev tb σ H y) (h3 : Ev tc σ H z) : EvA (tCons ta (tCons tb (tCons tc tNil))) σ H [x, y, z] := fun H1 e Q q => h H1 e _ fun H2 e2 => h2 H2 (e.trans e2) _ fun H3 e3 => h3 H3 ((e.trans e2).trans e3) _ fun H4 e4 => q H4 ((e2.trans e3).trans e4)
end
theorem q_retS {te : TE} {s : Str} {D : Ends} {σ : L2.St} {H : Hp} (h : te σ H fun x H1 => [V.str s, x].length ≤ sizeLine ∧ ∀ p, H1 p = none → D.rt (.ref p) (upd H1 p (.tup [.str s, x]))) : tRet (tTup (tCons (tC (.str s)) (tCons te tNil))) D σ H := h
theorem q_then {te : TE} {k : V → Hp → VK → Prop} {σ : L2.St} {H : Hp} {Q : VK} (h : te σ H fun x H1 => k x H1 Q) : tThen te k σ H Q := h
theorem call_at {sp : Sp} {ta : TA} {σ : L2.St} {H : Hp} {vs : List V} {Q : VK} (h : EvA ta σ H vs) (k : ∀ H1 E, Ex H H1 → sp (vs ++ []) H1 Q E) : tCall sp [] E0 ta σ H Q := h H (Ex.refl H) _ fun H1 e1 => k H1 _ e1
section
variable {P : Program} {w : World} {K : PySem.W.Frag} {mg : Str → Option Value} {base : Heap} {leaf C fi fc dp dg fo : Addr}
abbrev sLawTree : Stmt := top 63
theorem scLawTree : FnScope ["_law_bag_here", "_law_divisors_here", "_law_depth", "_law_many", "_law_pick", "_law_parts_here", "_law_part", "_law_size", "_law_row", "_law_one", "_law_heights", "_law_number"] ["_law_bag_here", "_law_divisors_here", "_law_depth"] (defScope sLawTree) := ⟨rfl, rfl, rfl, by decide +kernel, rfl, by decide +kernel, by decide +kernel⟩
def spLawTree (h : Nat) : Sp := fun vs H Q _ => ∃ (ba li : Addr) (v : V) (ds : List Int) (dp : Nat), vs = [.ref ba, v, .int (dp : Nat)] ∧ BagAt ba li H ∧ Pl H v ds ∧ DivOk ds ∧ dp < h ∧ dp ≤ 2 ∧ ∀ x T H', ExB ba H H' → BagAt ba li H' → TrAt H' T x → (∃ n : Nat, prodP ds = (n : Nat) ∧ TrOk ds.length n T) → T.ht ≤ dp → Q x H'
theorem ok_law_tree (B : Bt mg) (F : Df K mg "_law_tree" sLawTree) (h__law_pull : Ok P w K mg base 4 "_law_pull" ["_law_bag_here", "_law_amount"] spLawPull) (h__law_of : Ok P w K mg base 4 "_law_of" ["_law_bag_here", "_law_things"] spLawOf) (h__law_count : Ok P w K mg base 4 "_law_count" ["_law_divisors_here"] spLawCount) (h__law_parts : Ok P w K mg base 4 "_law_parts" ["_law_bag_here", "_law_many", "_law_most"] spLawParts) : ∀ h, Ok P w K mg base (h + 5) "_law_tree" ["_law_bag_here", "_law_divisors_here", "_law_depth"] (spLawTree h)
  | 0 => (ok_of (k := 0) F scLawTree (fun vs H Q E h => by obtain ⟨ba, li, v, ds, dp, rfl, _⟩ := h; rfl) (fun dV _ _ _ _ _ _ us hl e => by subst e; exact match us, hl with | [_, _, _], _ => rfl) fun f cdv A outer s H vs Q E hr h => by obtain ⟨ba, li, v, ds, dp, _, _, _, _, h, _⟩ := h; exact absurd h (Nat.not_lt_zero _)).mono (by omega)
  | h + 1 => by
    have h__law_tree := ok_law_tree B F h__law_pull h__law_of h__law_count h__law_parts h
    have h__law_pull := h__law_pull.mono (show 4 ≤ h + 5 by omega)
    have h__law_of := h__law_of.mono (show 4 ≤ h + 5 by omega)
    have h__law_count := h__law_count.mono (show 4 ≤ h + 5 by omega)
    have h__law_parts := h__law_parts.mono (show 4 ≤ h + 5 by omega)
    refine ok_of F scLawTree (fun vs H Q E h => by obtain ⟨ba, li, v, ds, dp, rfl, _⟩ := h; rfl) (fun dV _ _ _ _ _ _ us hl e => by subst e; exact match us, hl with | [_, _, _], _ => rfl) fun f cdv A outer s H vs Q E hr hsp => ?_
    obtain ⟨ba, li, v, ds, dp, rfl, hbag, hv, hd, hdh, hd2, k⟩ := hsp
    refine ⟨_, (pss_cons (ps_par (i := 3) (j := 4) rfl scLawTree.nd rfl rfl (by decide) rfl rfl (pa_cons (pe_do h__law_count hr rfl (pa_cons (pv 1) pa_nil)) (pa_cons (pe_do h__law_pull hr rfl (pa_cons (pv 0) (pa_cons pe_int pa_nil))) pa_nil)) rfl)
      (pss_cons (ps_if (PW.pt (pw_or (pt_cmpR op_eq (pv 2) pe_int (nomark _)) (pw_or1 (pt_cmpR op_eq (pv 4) pe_int (nomark _))))) (pss_one (ps_ret (pe_tup (pa_cons pe_str pa_nil)))) pss_nil)
      (pss_cons (ps_if (pt_cmpR op_eq (pv 4) pe_int (nomark _)) (pss_cons (ps_set (i := 5) scLawTree.nd rfl (Or.inl rfl) (pe_do h__law_parts hr rfl (pa_cons (pv 0) (pa_cons (pv 3) (pa_cons (pe_ifExp (pt_cmpR op_eq (pv 2) pe_int (nomark _)) pe_int pe_int) pa_nil)))))
      (pss_one (ps_ret (pe_tup (pa_cons pe_str (pa_cons (pe_tupleOf rfl B.tuple (pe_lc (own := [("_law_part", 6)]) (g := (gName 6)) (tt := tYes) (te := (tTup (tCons (tVar 6) (tCons (tCall (spLawTree h) [] E0 (tCons (tVar 0) (tCons (tVar 1) (tCons (tOp (rI0 fun i j => .int (i - j)) (tVar 2) (tC (.int 1))) tNil)))) tNil)))) rfl scLawTree.nd (pi_list (pv 5)) (blkOk_by (own := [("_law_part", 6)]) (N := ["_law_bag_here", "_law_divisors_here", "_law_depth", "_law_many", "_law_pick", "_law_parts_here", "_law_part", "_law_size", "_law_row", "_law_one", "_law_heights", "_law_number"]) (sc := defScope sLawTree) (by decide +kernel)) (fun _ _ _ _ _ => (pg_name (i := 6) scLawTree.nd rfl (Or.inl rfl) (Or.inr rfl))) (fun _ _ _ _ _ => pts_nil) (fun _ _ _ _ _ => (pe_tup (pa_cons (pv 6) (pa_cons (pe_do h__law_tree hr rfl (pa_cons (pv 0) (pa_cons (pv 1) (pa_cons (pe_op op_sub (pv 2) pe_int) pa_nil)))) pa_nil)))))) pa_nil)))))) pss_nil)
      (pss_cons (ps_set (i := 7) scLawTree.nd rfl (Or.inr rfl) (pe_do h__law_of hr rfl (pa_cons (pv 0) (pa_cons (pe_lst (pa_cons pe_int (pa_cons pe_int (pa_cons pe_int (pa_cons (pe_op op_pow pe_int pe_int) pa_nil))))) pa_nil))))
      (pss_cons (ps_set (i := 8) scLawTree.nd rfl (Or.inl rfl) (pe_tupleOf rfl B.tuple (pe_lc (own := [("_law_one", 9)]) (g := (gName 9)) (tt := tYes) (te := (tOp (rI0 fun i j => .int (i - j)) (tCall spLawPull [] E0 (tCons (tVar 0) (tCons (tOp (rI0 fun i j => .int (i + j)) (tOp (rI CMul fun i j => .int (i * j)) (tC (.int 2)) (tVar 7)) (tC (.int 1))) tNil))) (tVar 7))) rfl scLawTree.nd (pi_tup (pv 1)) (blkOk_by (own := [("_law_one", 9)]) (N := ["_law_bag_here", "_law_divisors_here", "_law_depth", "_law_many", "_law_pick", "_law_parts_here", "_law_part", "_law_size", "_law_row", "_law_one", "_law_heights", "_law_number"]) (sc := defScope sLawTree) (by decide +kernel)) (fun _ _ _ _ _ => (pg_name (i := 9) scLawTree.nd rfl (Or.inl rfl) (Or.inr rfl))) (fun _ _ _ _ _ => pts_nil) (fun _ _ _ _ _ => (pe_op op_sub (pe_do h__law_pull hr rfl (pa_cons (pv 0) (pa_cons (pe_op op_add (pe_op op_mul pe_int (pv 7)) pe_int) pa_nil))) (pv 7))))))
      (pss_cons (ps_set (i := 10) scLawTree.nd rfl (Or.inl rfl) (pe_tupleOf rfl B.tuple (pe_lc (own := [("_law_number", 11)]) (g := (gName 11)) (tt := tYes) (te := (tIf (tTest (tOp (rI0 fun i j => .bl (decide (i < j))) (tVar 7) (tC (.int 9)))) (tOp (rI0 fun i j => .int (i - j)) (tCall spLawPull [] E0 (tCons (tVar 0) (tCons (tC (.int 9)) tNil))) (tC (.int 4))) (tOp (rI0 fun i j => .int (i - j)) (tCall spLawPull [] E0 (tCons (tVar 0) (tCons (tOp (rI CMul fun i j => .int (i * j)) (tC (.int 4)) (tVar 7)) tNil))) (tOp (rI CMul fun i j => .int (i * j)) (tC (.int 2)) (tVar 7))))) rfl scLawTree.nd (pi_range1 rfl B.range (pa_cons (pv 3) pa_nil)) (blkOk_by (own := [("_law_number", 11)]) (N := ["_law_bag_here", "_law_divisors_here", "_law_depth", "_law_many", "_law_pick", "_law_parts_here", "_law_part", "_law_size", "_law_row", "_law_one", "_law_heights", "_law_number"]) (sc := defScope sLawTree) (by decide +kernel)) (fun _ _ _ _ _ => (pg_name (i := 11) scLawTree.nd rfl (Or.inl rfl) (Or.inr rfl))) (fun _ _ _ _ _ => pts_nil) (fun _ _ _ _ _ => (pe_ifExp (pt_cmpR op_lt (pv 7) pe_int (nomark _)) (pe_op op_sub (pe_do h__law_pull hr rfl (pa_cons (pv 0) (pa_cons pe_int pa_nil))) pe_int) (pe_op op_sub (pe_do h__law_pull hr rfl (pa_cons (pv 0) (pa_cons (pe_op op_mul pe_int (pv 7)) pa_nil))) (pe_op op_mul pe_int (pv 7))))))))
      (pss_one (ps_ret (pe_tup (pa_cons pe_str (pa_cons (pv 8) (pa_cons (pv 10) (pa_cons (pe_do h__law_tree hr rfl (pa_cons (pv 0) (pa_cons (pv 1) (pa_cons (pe_op op_sub (pv 2) pe_int) pa_nil)))) pa_nil))))))))))))), ?_⟩
    obtain ⟨n, hn, hn1, hn12⟩ := hd.nat
    refine ⟨_, rfl, v, ds, rfl, hv, hd, fun H1 e1 => ?_⟩
    rw [hn]
    refine pull_at (ea2 (ev_var rfl) ev_c) (hbag.ex e1) (by decide) (by decide) fun r H2 hr0 hr1 x2 b2 => ⟨_, _, rfl, ?_⟩
    have x02 := (ExB.of e1).trans x2
    refine q_when (et_or (et_test (ev_eqI (ev_var (v := .int (dp : Nat)) rfl) ev_c)) fun _ => et_test (ev_eqI (ev_var (v := .int r) rfl) ev_c)) (fun hb H3 e3 => ?_) fun hb H3 e3 => ?_
    · refine ⟨sz_of (by simp), fun p hp => ?_⟩
      exact k (.ref p) .leaf _ (x02.trans (ExB.of (e3.trans (Ex.new hp)))) ((b2.ex e3).ex (Ex.new hp)) (by unfold TrAt; exact .new) ⟨n, hn, by unfold TrOk; trivial⟩ (by rw [Tr.ht]; exact Nat.zero_le _)
    rw [Bool.or_eq_false_iff] at hb
    have hdp0 : dp ≠ 0 := fun z => by rw [z] at hb; simp at hb
    obtain ⟨d', rfl⟩ : ∃ d', dp = d' + 1 := ⟨dp - 1, by omega⟩
    have x03 := x02.trans (ExB.of e3)
    have b3 := b2.ex e3
    have hv3 := hv.tx (hbag.tx x03)
    refine q_when (et_test (ev_eqI (ev_var (v := .int r) rfl) ev_c)) (fun hb3 H4 e4 => ?_) fun hb3 H4 e4 => ?_
    · -- fork
      have x04 := x03.trans (ExB.of e4)
      have b4 := b3.ex e4
      have prt := ea3 (σ := [some (.ref ba), some v, some (.int ((d' + 1 : Nat) : Int)), some (.int (n : Nat)), some (.int r), none, none, none, none, none, none, none]) (H := H4) (ta := tVar 0) (tb := tVar 3) (tc := tIf (tTest (tOp rEq (tVar 2) (tC (.int 1)))) (tC (.int 5)) (tC (.int 3))) (z := .int (if d' = 0 then 5 else 3)) (ev_var rfl) (ev_var rfl) (ev_if (b := decide (d' = 0)) (et_is (et_test (ev_eqI (ev_var rfl) ev_c)) (by
        by_cases hz : d' = 0
        · rw [decide_eq_true hz, decide_eq_true]; omega
        · rw [decide_eq_false hz, decide_eq_false]; omega)) (fun hz => by rw [if_pos (of_decide_eq_true hz)]; exact ev_c) (fun hz => by rw [if_neg (of_decide_eq_false hz)]; exact ev_c))
      refine q_te (call_at prt fun H5 E5 e5 => ⟨ba, li, n, _, rfl, b4.ex e5, hn1, hn12, by split <;> omega, by split <;> omega, fun D ys gs H6 hD x6 b6 h6 hp6 hpo => ?_⟩)
      have x06 := (x04.trans (ExB.of e5)).trans x6
      have hyl := hp6.length
      have hgl := hpo.few
      have hv6 := hv.tx (hbag.tx x06)
      have dba : D ≠ ba := (b4.ex e5).ne hD
      refine q_retS (q_then (el_lcBL (K := K) (n := ys.length) (ev_var (v := .ref D) rfl) ⟨D, rfl, dba, h6⟩ rfl (fun i v H => ∀ p, gs[i]? = some p → ∃ t, GrAt H v (p, t) ∧ TrOk ds.length n t ∧ t.ht ≤ d') (fun i v H H' tx hh p hp => by obtain ⟨t, g1, g2, g3⟩ := hh p hp; exact ⟨t, g1.tx tx, g2, g3⟩) b6 (by omega) (fun i y H7 hi hy x7 b7 Q2 k2 => ?_) fun D2 zs H7 hD2 x7 b7 h7 each => ?_))
      · obtain ⟨p, hpi, hyp⟩ := paired_getL hp6 hy
        have hv7 := hv6.tx (b6.tx x7)
        refine ⟨y, rfl, _, rfl, _, rfl, _, rfl, ((d' + 1 : Nat) : Int), 1, rfl, rfl, ba, li, v, ds, d', by show [V.ref ba, v, V.int (((d' + 1 : Nat) : Int) - 1)] = _; rw [show (((d' + 1 : Nat) : Int) - 1) = ((d' : Nat) : Int) by omega], b7, hv7, hd, by omega, by omega, fun x T H8 x8 b8 hT ⟨n', hn', hok⟩ hht => ⟨sz_of (by simp), fun q hq => ?_⟩⟩
        have en : n' = n := by omega
        subst en
        have x9 := x8.trans (ExB.of (Ex.new (o := .tup [y, x]) hq))
        refine k2 _ _ x9 (b8.ex (Ex.new hq)) fun p' hp' => ?_
        rw [hpi] at hp'
        cases hp'
        exact ⟨T, ⟨y, x, .new, hyp.tx ((b6.tx x7).trans (b7.tx x9)), hT.tx (Tx.new hq)⟩, hok, hht⟩
      · obtain ⟨G, g1, g2, g3, g4⟩ := gs_make (paired_range hyl each)
        refine .inl ⟨D2, zs, rfl, SqL.of h7, fun t ht => ⟨sz_of (by simp), fun p hp => ?_⟩⟩
        have x8 := ExB.of (ba := ba) ((Ex.new (o := .tup zs) ht).trans (Ex.new (o := .tup [V.str "fork", .ref t]) hp))
        have t8 := b7.tx x8
        exact k (.ref p) (.fork G) _ ((x06.trans x7).trans x8) ((b7.ex (Ex.new ht)).ex (Ex.new hp)) (by unfold TrAt; exact ⟨_, zs, .new, ⟨t, rfl, Ex.new hp t _ upd_same⟩, gsAt_of (Paired.mapP g2 fun _ _ z => z.tx t8)⟩) ⟨n, hn, by unfold TrOk; exact ⟨g1 ▸ hpo, g3⟩⟩ (by rw [Tr.ht]; omega)
    · -- key
      have x04 := x03.trans (ExB.of e4)
      have b4 := b3.ex e4
      refine ⟨_, rfl, 10, 9, rfl, rfl, ⟨by decide, by decide, by decide⟩, sz_of (by simp), fun q hq => ⟨ba, li, q, _, rfl, b4.ex (Ex.new hq), b4.ne hq, upd_same, by simp, by simp, fun z H5 hz x5 b5 => ?_⟩⟩
      have x05 := (x04.trans (ExB.of (Ex.new (o := .lst [V.int 3, .int 3, .int 9, .int (10 ^ (9 : Int).toNat)]) hq))).trans x5
      obtain ⟨sz, rfl, hs1, hs2⟩ : ∃ sz : Int, z = .int sz ∧ 1 ≤ sz ∧ sz ≤ 1000000000 := by
        simp only [List.mem_cons, List.mem_nil_iff, or_false] at hz
        rcases hz with h | h | h | h <;> exact ⟨_, h, by decide, by decide⟩
      have hdl := hd.three
      have hv5 := hv.tx (hbag.tx x05)
      have cm : CMul 2 sz := .inl ⟨by decide, by decide⟩
      have cm4 : CMul 4 sz := .inl ⟨by decide, by decide⟩
      -- row
      dsimp only
      refine q_te (el_lcBT (K := K) (n := ds.length) (ev_var (v := v) rfl) hv5 (by rw [List.length_map]) (fun i v H => ∃ m, v = V.int m ∧ True) (fun _ _ _ _ _ h => h) b5 (by omega) (fun i x H6 hi hx x6 b6 Q2 k2 => ?_) fun D1 ys1 H6 hD1 x6 b6 h6 each1 => ?_)
      · refine pull_at (ea2 (ev_var rfl) (ev_i0 (f := fun i j => .int (i + j)) (ev_iC (C := CMul) (f := fun i j => .int (i * j)) cm ev_c (ev_var (v := .int sz) rfl)) ev_c)) b6 (by omega) (by omega) fun r H7 hr0 hr1 x7 b7 => ⟨_, rfl, r, sz, rfl, rfl, k2 _ H7 x7 b7 ⟨r - sz, rfl, trivial⟩⟩
      obtain ⟨row, rfl, hrl, _⟩ := each_ints each1
      rw [List.length_range] at hrl
      refine .inl ⟨D1, _, rfl, SqL.of h6, fun ra hra => ?_⟩
      have x07 := (x05.trans x6).trans (ExB.of (Ex.new (o := .tup (row.map V.int)) hra))
      have b7 := b6.ex (Ex.new (o := .tup (row.map V.int)) hra)
      have hr7 : Pl (upd H6 ra (.tup (row.map V.int))) (.ref ra) row := .new
      generalize upd H6 ra (.tup (row.map V.int)) = H7 at x07 b7 hr7
      -- heights
      refine q_te (el_lcBR (K := K) (n := n) (ea1 (ev_var rfl)) (fun i v H => ∃ m, v = V.int m ∧ True) (fun _ _ _ _ _ h => h) b7 (by omega) (fun i x H8 hi hx x8 b8 Q2 k2 => ?_) fun D2 ys2 H8 hD2 x8 b8 h8 each2 => ?_)
      · refine et_test (ev_i0 (f := fun i j => .bl (decide (i < j))) (ev_var (v := .int sz) rfl) ev_c) H8 (Ex.refl _) _ fun H9 e9 => ?_
        split
        · refine pull_at (ea2 (ev_var rfl) ev_c) (b8.ex e9) (by decide) (by decide) fun r H10 hr0 hr1 x10 b10 => ⟨r, 4, rfl, rfl, k2 _ H10 ((ExB.of e9).trans x10) b10 ⟨r - 4, rfl, trivial⟩⟩
        · refine pull_at (ea2 (ev_var rfl) (ev_iC (C := CMul) (f := fun i j => .int (i * j)) cm4 ev_c (ev_var (v := .int sz) rfl))) (b8.ex e9) (by omega) (by omega) fun r H10 hr0 hr1 x10 b10 => ⟨_, rfl, 2, sz, rfl, rfl, cm, r, 2 * sz, rfl, rfl, k2 _ H10 ((ExB.of e9).trans x10) b10 ⟨r - 2 * sz, rfl, trivial⟩⟩
      obtain ⟨hts, rfl, hhl, _⟩ := each_ints each2
      rw [List.length_range] at hhl
      refine .inl ⟨D2, _, rfl, SqL.of h8, fun ha hha => ?_⟩
      have x79 := x8.trans (ExB.of (Ex.new (o := .tup (hts.map V.int)) hha))
      have b9 := b8.ex (Ex.new (o := .tup (hts.map V.int)) hha)
      have hr9 := hr7.tx (b7.tx x79)
      have hh9 : Pl (upd H8 ha (.tup (hts.map V.int))) (.ref ha) hts := .new
      have x09 := x07.trans x79
      generalize upd H8 ha (.tup (hts.map V.int)) = H9 at x79 b9 hr9 hh9 x09
      -- the tree below
      have hv9 := hv.tx (hbag.tx x09)
      refine ⟨_, rfl, _, rfl, _, rfl, _, rfl, _, rfl, ((d' + 1 : Nat) : Int), 1, rfl, rfl, ba, li, v, ds, d', by show [V.ref ba, v, V.int (((d' + 1 : Nat) : Int) - 1)] = _; rw [show (((d' + 1 : Nat) : Int) - 1) = ((d' : Nat) : Int) by omega], b9, hv9, hd, by omega, by omega, fun x T H10 x10 b10 hT ⟨n', hn', hok⟩ hht => ⟨sz_of (by simp), fun p hp => ?_⟩⟩
      have en : n' = n := by omega
      subst en
      have x11 := x10.trans (ExB.of (Ex.new (o := .tup [V.str "key", .ref ra, .ref ha, x]) hp))
      have t11 := b9.tx x11
      exact k (.ref p) (.key row hts T) _ (x09.trans x11) (b10.ex (Ex.new hp)) (by unfold TrAt; exact ⟨_, _, _, .new, hr9.tx t11, hh9.tx t11, hT.tx (Tx.new hp)⟩) ⟨n', hn, by unfold TrOk; exact ⟨hrl, hhl, hok⟩⟩ (by rw [Tr.ht]; omega)
end
end Lk


/-! Lookscan: the law's scans. -/
namespace Lk
open PySem PySem.Spec PyProof.Rows L2 Evl
section
variable {P : Program} {w : World} {K : PySem.W.Frag} {mg : Str → Option Value} {base : Heap} {leaf C fi fc dp dg fo : Addr}
abbrev sLawSmallScan : Stmt := top 65
theorem scLawSmallScan : FnScope ["_law_bag_here", "_law_directions", "_law_divisors_here"] ["_law_bag_here", "_law_directions"] (defScope sLawSmallScan) := ⟨rfl, rfl, rfl, by decide +kernel, rfl, by decide +kernel, by decide +kernel⟩
def spLawSmallScan : Sp := fun vs H Q _ => ∃ (ba li : Addr) (d : Nat), vs = [.ref ba, .int (d : Nat)] ∧ BagAt ba li H ∧ 1 ≤ d ∧ d ≤ 3 ∧ ∀ v x1 x2 ds T H', ExB ba H H' → BagAt ba li H' → Tp H' v [x1, x2] → Pl H' x1 ds → TrAt H' T x2 → ScanOk ds T → ds.length = d → Q v H'
theorem ok_law_small_scan (B : Bt mg) (F : Df K mg "_law_small_scan" sLawSmallScan) (h__law_divisors : Ok P w K mg base 8 "_law_divisors" ["_law_bag_here", "_law_directions"] spLawDivisors) (h__law_tree : Ok P w K mg base 8 "_law_tree" ["_law_bag_here", "_law_divisors_here", "_law_depth"] (spLawTree 3)) : Ok P w K mg base 9 "_law_small_scan" ["_law_bag_here", "_law_directions"] spLawSmallScan := by
  refine ok_of F scLawSmallScan (fun vs H Q E h => by obtain ⟨ba, li, d, rfl, _⟩ := h; rfl) (fun dV _ _ _ _ _ _ us hl e => by subst e; exact match us, hl with | [_, _], _ => rfl) fun f cdv A outer s H vs Q E hr h => ?_
  obtain ⟨ba, li, d, rfl, hbag, hd1, hd3, k⟩ := h
  refine ⟨_, (pss_cons (ps_set (i := 2) scLawSmallScan.nd rfl (Or.inl rfl) (pe_do h__law_divisors hr rfl (pa_cons (pv 0) (pa_cons (pv 1) pa_nil))))
      (pss_one (ps_ret (pe_tup (pa_cons (pv 2) (pa_cons (pe_do h__law_tree hr rfl (pa_cons (pv 0) (pa_cons (pv 2) (pa_cons pe_int pa_nil)))) pa_nil)))))), ?_⟩
  refine q_te (call_at (ea2 (ev_var rfl) (ev_var rfl)) fun H1 E1 e1 => ⟨ba, li, d, rfl, hbag.ex e1, hd1, hd3, fun v ds H2 hv hdv hl x2 b2 => ?_⟩)
  refine ⟨_, rfl, _, rfl, _, rfl, ba, li, v, ds, 2, rfl, b2, hv, hdv, by decide, by decide, fun x T H3 x3 b3 hT ho hht => ⟨sz_of (by simp), fun p hp => ?_⟩⟩
  have x4 := ExB.of (ba := ba) (Ex.new (o := .tup [v, x]) hp)
  exact k _ v x ds T _ ((((ExB.of e1).trans x2).trans x3).trans x4) (b3.ex (Ex.new hp)) .new (hv.tx (b2.tx (x3.trans x4))) (hT.tx (Tx.new hp)) ⟨hdv, ho, hht⟩ hl
end
end Lk


/-! Lookscan: the law. -/
namespace Lk
open PySem PySem.Spec PyProof.Rows L2 Evl
theorem inB_mono : ∀ {b w p : List Int}, b.length = w.length → (∀ (i : Nat) s m, b[i]? = some s → w[i]? = some m → s ≤ m) → p.length = b.length → inB b p = true → inB w p = true
  | [], [], p, _, _, _, h => h
  | [], _ :: _, _, h, _, _, _ => by simp at h
  | _ :: _, [], _, h, _, _, _ => by simp at h
  | _ :: _, _ :: _, [], _, _, h, _ => by simp at h
  | s :: b, m :: w, a :: p, h1, h2, h3, h4 => by
    rw [inB_cons, Bool.and_eq_true, Bool.and_eq_true] at h4
    have := h2 0 s m rfl rfl
    have h5 := of_decide_eq_true h4.1.1
    have h6 := of_decide_eq_true h4.1.2
    rw [inB_cons, inB_mono (b := b) (by simpa using h1) (fun i s m e1 e2 => h2 (i + 1) s m (by simpa using e1) (by simpa using e2)) (by simpa using h3) h4.2, decide_eq_true h5, decide_eq_true (show a < m by omega)]
    rfl
theorem mul_le11 {x y u v : Int} (h1 : 0 ≤ x) (h2 : x ≤ u) (h3 : 0 ≤ y) (h4 : y ≤ v) : 0 ≤ x * y ∧ x * y ≤ u * v := ⟨Int.mul_nonneg h1 h3, Int.mul_le_mul h2 h4 h3 (Int.le_trans h1 h2)⟩
theorem boxOk_small {b : List Int} (h1 : 1 ≤ b.length) (h3 : b.length ≤ 3) (h : ∀ i ∈ b, 0 ≤ i ∧ i ≤ 11) : BoxOk b := by
  refine ⟨h1, h3, fun i hi => ⟨(h i hi).1, by have := (h i hi).2; omega⟩, ?_⟩
  match b, h1, h3, h with
  | [x], _, _, h =>
    rw [prod_pos1]
    have := h x (by simp)
    omega
  | [x, y], _, _, h =>
    rw [prod_pos2]
    have a := h x (by simp)
    have c := h y (by simp)
    have := mul_le11 a.1 a.2 c.1 c.2
    omega
  | [x, y, z], _, _, h =>
    rw [prod_pos3]
    have a := h x (by simp)
    have c := h y (by simp)
    have d := h z (by simp)
    have e := mul_le11 a.1 a.2 c.1 c.2
    have := mul_le11 e.1 e.2 d.1 d.2
    omega
theorem top_le {F G : List Int → Int} {cs cs' : List (List Int)} {M N : Nat} (h : Top F cs M) (h' : Top G cs' N) (hl : ∀ c ∈ cs, c ∈ cs' ∧ F c ≤ G c) : M ≤ N := by
  rcases h.hit with h0 | ⟨c, hc, e⟩
  · omega
  · obtain ⟨h1, h2⟩ := hl c hc
    have := h'.ub c h1
    omega
theorem scan_exb {C ba li : Addr} {H H' : Hp} {v : V} {ds : List Int} {T : Tr} (hb : BagAt ba li H) (x : ExB ba H H') (h : ScanAt C H v ds T) : ScanAt C H' v ds T := by
  have tx := hb.tx x
  obtain ⟨a, dx, fs, x1, x2, rfl, h1, h2, h3, h4, h5, h6⟩ := h
  obtain ⟨ns, i, g, s, b1, _⟩ := hb
  exact ⟨a, dx, fs, x1, x2, rfl, x a _ (fun z => by rw [z, b1] at h1; cases h1) h1, h2, h3.tx tx, h4, h5.tx tx, h6⟩
theorem ls_exb {ba li D : Addr} {H H' : Hp} {ps : List (List Int)} (hb : BagAt ba li H) (x : ExB ba H H') (hD : D ≠ ba) (h : Ls H (.ref D) ps) : Ls H' (.ref D) ps := by
  have tx := hb.tx x
  obtain ⟨xs, ⟨a, e, ha⟩, hp⟩ := h
  cases e
  exact ⟨xs, ⟨D, rfl, x D _ hD ha⟩, Paired.mapP hp fun _ _ z => z.tx tx⟩
theorem fn_of {P : Program} {w : World} {K : PySem.W.Frag} {mg : Str → Option Value} {base : Heap} {x : Str} {st : Stmt} {N ps : List Str} {k : Nat} {sp : Sp} {f : Addr} {fd : FuncData} (F : FunD K x x (defArgs st) (defBody st) (defScope st) [] [] f fd) (S : FnScope N ps (defScope st)) (len : ∀ vs H Q E, sp vs H Q E → vs.length = ps.length)
    (hbody : ∀ (f : Addr) (cdv : Value) (A : Around) (outer : List Env) (s : Shared) (H : Hp) (vs : List V) (Q : VK) (E : XK), Room k (A.deeper (envOfC x (defScope st) s.heap.objs.size f cdv)) → sp vs H Q E →
      ∃ t, PSs (cxOf CX0 P w K mg base N x (defScope st) f cdv A outer s H E).nox (defBody st) t ∧ t { nx := fun _ H' => Q .non H', rt := Q } (start N vs) H) : FnOk P w K mg base CX0 (k + 1) f fd ps sp := F.ok S len fun cdv A outer s H vs Q E hr h => by
  obtain ⟨t, h1, h2⟩ := hbody f cdv A outer s H vs Q E hr h
  exact ⟨t, h1.nox, h2⟩
theorem putK_lenL (kvs : List (List Key × V)) (k : List Key) (x : V) : (putK kvs k x).length ≤ kvs.length + 1 := by
  unfold putK
  split <;> simp
theorem looks_one {d : Nat} {ps : List (List Int)} (h : LooksOk d ps) : LooksOk d (ps.take 1) := by
  obtain ⟨h1, h2, h3, h4⟩ := h
  exact ⟨by rw [List.length_take]; omega, by rw [List.length_take]; omega, h3.sublist (List.take_sublist 1 ps), fun p hp => h4 p (List.mem_of_mem_take hp)⟩
theorem top_few {F : List Int → Int} {T : Tr} {ds b : List Int} {ps cs : List (List Int)} {M : Nat} (h : BoxFor ds b ps) (ho : OrderOk T ds b cs) (hF : IsNum F T ds ps b) (hT : Top F cs M) : M ≤ 2000 := by
  have h2 : cs.length ≤ 2000 := by rw [ho.perm.length_eq]; exact len_cells h.box
  rcases hT.hit with h0 | ⟨c, hc, e⟩
  · omega
  · have := num_le h ho hF c hc
    omega
theorem row_few {T : Tr} {ds b : List Int} {cs qs : List (List Int)} (h : BoxOk b) (ho : OrderOk T ds b cs) (hq : qs.Perm cs) (g : List Int → Bool) : (qs.filter g).length ≤ 2000 := by
  have h1 := List.length_filter_le g qs
  have h2 : cs.length ≤ 2000 := by rw [ho.perm.length_eq]; exact len_cells h
  have h3 := hq.length_eq
  omega
theorem ev_wave_count {σ : L2.St} {H : Hp} {C : Addr} {ta : TA} {v l x : V} {ds b : List Int} {T : Tr} {ps : List (List Int)} {M : Nat} (h : EvA ta σ H [v, l, x]) (hs : ScanAt C H v ds T) (ho : ScanOk ds T) (hl : Ls H l ps) (hps : LooksOk ds.length ps) (hx : Pl H x b) (hb : BoxOk b) (hd : b.length = ds.length)
    (hu : ∀ M' F cs, OrderOk T ds b cs → IsNum F T ds ps b → Top F cs M' → M' = M) : Ev (tCall (spWaveCount C) [] E0 ta) σ H (.int (M : Nat)) := fun H1 e Q q => h H1 e _ fun H2 e2 => ⟨v, l, x, ds, T, ps, b, rfl, hs.ex (e.trans e2), ho, hl.ex (e.trans e2), hps, hx.tx (tx_of (e.trans e2)), hb, hd, fun M' F cs H3 e3 h1 h2 h3 => by
  rw [hu M' F cs h1 h2 h3]
  exact q H3 (e2.trans e3)⟩
theorem make_at {C : Addr} {sp : Sp} {ta : TA} {σ : L2.St} {H : Hp} {vs : List V} {Q : VK} (h : EvA ta σ H vs) (k : ∀ H1, Ex H H1 → ∀ x dx, H1 x = none → H1 dx = none → dx ≠ x → ∀ E, sp (.ref x :: (vs ++ [])) (upd (upd H1 dx (.own x)) x (.ins C dx [])) (fun v H2 => v = .non ∧ Q (.ref x) H2) E) : tMake C sp [] E0 ta σ H Q := h H (Ex.refl H) _ fun H1 e1 x dx hx hdx hne => k H1 e1 x dx hx hdx hne _
theorem ex_exb {x : Addr} {H H1 H2 : Hp} (e : Ex H H1) (hx : H x = none) (x2 : ExB x H1 H2) : Ex H H2 := fun a o h => x2 a o (fun z => by rw [z, hx] at h; cases h) (e a o h)
section
variable {P : Program} {w : World} {K : PySem.W.Frag} {mg : Str → Option Value} {base : Heap} {leaf C fi fc dp dg fo : Addr}
abbrev sLaw : Stmt := top 66
theorem scLaw : FnScope ["_law_script", "_law_bag_here", "_law_turn", "_law_directions", "_law_pair", "_law_looks_here", "_law_scan", "_law_box", "_law_at", "_law_wide", "_law_side", "_law_told", "_law_late", "_law_cell", "_law_chain"] ["_law_script"] (defScope sLaw) := ⟨rfl, rfl, rfl, by decide +kernel, rfl, by decide +kernel, by decide +kernel⟩
def spLaw (K : PySem.W.Frag) : Sp := fun vs H Q _ => ∃ (a : Addr) (ns : List Int), vs = [.ref a] ∧ SqL K H a (ns.map V.int) ∧ ∀ H', Q (.bl true) H'
theorem ok_law (B : Bt mg) (S : ScanK K mg leaf C fi fc dp dg fo) {f0 : Addr} {fd0 : FuncData} (F : FunD K "law" "law" (defArgs sLaw) (defBody sLaw) (defScope sLaw) [] [] f0 fd0) (h__law_bag : Ok P w K mg base 10 "_law_bag" ["_law_script"] (spLawBag K)) (h__law_pull : Ok P w K mg base 10 "_law_pull" ["_law_bag_here", "_law_amount"] spLawPull) (h__law_small_scan : Ok P w K mg base 10 "_law_small_scan" ["_law_bag_here", "_law_directions"] spLawSmallScan)
    (h__law_looks : Ok P w K mg base 10 "_law_looks" ["_law_bag_here", "_law_directions"] spLawLooks) (h_init : OkF P w K mg base 6 fi ["self", "divisors", "tree"] (spInit C)) (h_waves : Ok P w K mg base 10 "waves" ["scan", "looks", "box"] (spWaves C)) (h_wave_count : Ok P w K mg base 10 "wave_count" ["scan", "looks", "box"] (spWaveCount C)) (h_wave_chain : Ok P w K mg base 10 "wave_chain" ["scan", "looks", "box"] (spWaveChain C)) (h_chain_waves : Ok P w K mg base 10 "chain_waves" ["scan", "looks", "chain"] (spChainWaves C)) : FnOk P w K mg base CX0 11 f0 fd0 ["_law_script"] (spLaw K) := by
  refine fn_of F scLaw (fun vs H Q E h => by obtain ⟨a, ns, rfl, _⟩ := h; rfl) fun f cdv A outer s H vs Q E hr h => ?_
  obtain ⟨a, ns, rfl, hq, k⟩ := h
  refine ⟨_, (pss_cons (ps_set (i := 1) scLaw.nd rfl (Or.inr rfl) (pe_do h__law_bag hr rfl (pa_cons (pv 0) pa_nil)))
      (pss_cons (ps_for PassesOwn.never rfl (pi_range1 rfl B.range (pa_cons pe_int pa_nil)) (pg_name (i := 2) scLaw.nd rfl (Or.inl rfl))
      (pss_cons (ps_set (i := 3) scLaw.nd rfl (Or.inr rfl) (pe_op op_add pe_int (pe_do h__law_pull hr rfl (pa_cons (pv 1) (pa_cons pe_int pa_nil)))))
      (pss_cons (ps_par (i := 4) (j := 5) rfl scLaw.nd rfl rfl (by decide) rfl rfl (pa_cons (pe_do h__law_small_scan hr rfl (pa_cons (pv 1) (pa_cons (pv 3) pa_nil))) (pa_cons (pe_do h__law_looks hr rfl (pa_cons (pv 1) (pa_cons (pv 3) pa_nil))) pa_nil)) rfl)
      (pss_cons (ps_set (i := 6) scLaw.nd rfl (Or.inl rfl) (pe_doN h_init S.maker (hr.mono (by decide)) rfl S.glob (pa_cons (pe_ix ix_tup (pv 4) pe_int (fun _ _ => rfl)) (pa_cons (pe_ix ix_tup (pv 4) pe_int (fun _ _ => rfl)) pa_nil))))
      (pss_cons (ps_set (i := 7) scLaw.nd rfl (Or.inl rfl) (pe_tupleOf rfl B.tuple (pe_lc (own := [("_law_at", 8)]) (g := (gName 8)) (tt := tYes) (te := (tCall spLawPull [] E0 (tCons (tVar 1) (tCons (tOp (rIxL K) (tLst (tCons (tC (.int 10)) (tCons (tC (.int 5)) (tCons (tC (.int 4)) tNil)))) (tOp (rI0 fun i j => .int (i - j)) (tVar 3) (tC (.int 1)))) tNil)))) rfl scLaw.nd (pi_range1 rfl B.range (pa_cons (pv 3) pa_nil)) (blkOk_by (own := [("_law_at", 8)]) (N := ["_law_script", "_law_bag_here", "_law_turn", "_law_directions", "_law_pair", "_law_looks_here", "_law_scan", "_law_box", "_law_at", "_law_wide", "_law_side", "_law_told", "_law_late", "_law_cell", "_law_chain"]) (sc := defScope sLaw) (by decide +kernel)) (fun _ _ _ _ _ => (pg_name (i := 8) scLaw.nd rfl (Or.inl rfl) (Or.inr rfl))) (fun _ _ _ _ _ => pts_nil) (fun _ _ _ _ _ => (pe_do h__law_pull hr rfl (pa_cons (pv 1) (pa_cons (pe_ix ix_list (pe_lst (pa_cons pe_int (pa_cons pe_int (pa_cons pe_int pa_nil)))) (pe_op op_sub (pv 3) pe_int) (fun _ _ => rfl)) pa_nil)))))))
      (pss_cons (ps_set (i := 9) scLaw.nd rfl (Or.inl rfl) (pe_tupleOf rfl B.tuple (pe_lc (own := [("_law_side", 10)]) (g := (gName 10)) (tt := tYes) (te := (tOp (rI0 fun i j => .int (i + j)) (tVar 10) (tCall spLawPull [] E0 (tCons (tVar 1) (tCons (tC (.int 3)) tNil))))) rfl scLaw.nd (pi_tup (pv 7)) (blkOk_by (own := [("_law_side", 10)]) (N := ["_law_script", "_law_bag_here", "_law_turn", "_law_directions", "_law_pair", "_law_looks_here", "_law_scan", "_law_box", "_law_at", "_law_wide", "_law_side", "_law_told", "_law_late", "_law_cell", "_law_chain"]) (sc := defScope sLaw) (by decide +kernel)) (fun _ _ _ _ _ => (pg_name (i := 10) scLaw.nd rfl (Or.inl rfl) (Or.inr rfl))) (fun _ _ _ _ _ => pts_nil) (fun _ _ _ _ _ => (pe_op op_add (pv 10) (pe_do h__law_pull hr rfl (pa_cons (pv 1) (pa_cons pe_int pa_nil))))))))
      (pss_cons (ps_set (i := 11) scLaw.nd rfl (Or.inl rfl) (pe_lst (pa_cons (pe_do h_waves hr rfl (pa_cons (pv 6) (pa_cons (pv 5) (pa_cons (pv 7) pa_nil)))) (pa_cons (pe_do h_waves hr rfl (pa_cons (pv 6) (pa_cons (pv 5) (pa_cons (pv 9) pa_nil)))) pa_nil))))
      (pss_cons (ps_if (PW.pt (pw_or (pt_cmpR op_gt (pe_callB call_len_seq rfl B.len PySem.boot_len (pa_cons (pe_ix ix_list (pv 11) pe_int (fun _ _ => rfl)) pa_nil)) (pe_callB call_len_seq rfl B.len PySem.boot_len (pa_cons (pe_ix ix_list (pv 11) pe_int (fun _ _ => rfl)) pa_nil)) (nomark _)) (pw_or1 (pt_cmpR op_ne (pe_do h_wave_count hr rfl (pa_cons (pv 6) (pa_cons (pv 5) (pa_cons (pv 9) pa_nil)))) (pe_callB call_len_seq rfl B.len PySem.boot_len (pa_cons (pe_ix ix_list (pv 11) pe_int (fun _ _ => rfl)) pa_nil)) (nomark _))))) (pss_one (ps_ret pe_bl)) pss_nil)
      (pss_cons (ps_set (i := 12) scLaw.nd rfl (Or.inl rfl) pe_dnewT)
      (pss_cons (ps_for PassesOwn.never rfl (pi_range1 rfl B.range (pa_cons (pe_callB call_len_seq rfl B.len PySem.boot_len (pa_cons (pe_ix ix_list (pv 11) pe_int (fun _ _ => rfl)) pa_nil)) pa_nil)) (pg_name (i := 8) scLaw.nd rfl (Or.inl rfl))
      (pss_one (ps_for PassesOwn.never rfl (pi_list (pe_ix ix_list (pe_ix ix_list (pv 11) pe_int (fun _ _ => rfl)) (pv 8) (fun _ _ => rfl))) (pg_name (i := 13) scLaw.nd rfl (Or.inl rfl))
      (pss_one (ps_dput (hu_of hr) (pv 12) (pv 13) (pv 8) rfl)))))
      (pss_cons (ps_for PassesOwn.never rfl (pi_range1 rfl B.range (pa_cons (pe_callB call_len_seq rfl B.len PySem.boot_len (pa_cons (pe_ix ix_list (pv 11) pe_int (fun _ _ => rfl)) pa_nil)) pa_nil)) (pg_name (i := 8) scLaw.nd rfl (Or.inl rfl))
      (pss_one (ps_for PassesOwn.never rfl (pi_list (pe_ix ix_list (pe_ix ix_list (pv 11) pe_int (fun _ _ => rfl)) (pv 8) (fun _ _ => rfl))) (pg_name (i := 13) scLaw.nd rfl (Or.inl rfl))
      (pss_one (ps_if (pt_cmpR op_lt (pe_dget (hu_of hr) (pv 12) (pv 13) (fun _ _ => rfl)) (pv 8) (nomark _)) (pss_one (ps_ret pe_bl)) pss_nil)))))
      (pss_cons (ps_set (i := 14) scLaw.nd rfl (Or.inl rfl) (pe_do h_wave_chain hr rfl (pa_cons (pv 6) (pa_cons (pv 5) (pa_cons (pv 7) pa_nil)))))
      (pss_one (ps_if (PW.pt (pw_or (pt_cmpR op_ne (pe_do h_chain_waves hr rfl (pa_cons (pv 6) (pa_cons (pv 5) (pa_cons (pv 14) pa_nil)))) (pe_callB call_len_seq rfl B.len PySem.boot_len (pa_cons (pe_ix ix_list (pv 11) pe_int (fun _ _ => rfl)) pa_nil)) (nomark _)) (pw_or1 (pt_cmpR op_gt (pe_do h_wave_count hr rfl (pa_cons (pv 6) (pa_cons (pe_slice sl_list (pv 5) po_none (po_some pe_int)) (pa_cons (pv 9) pa_nil)))) (pe_callB call_len_seq rfl B.len PySem.boot_len (pa_cons (pe_ix ix_list (pv 11) pe_int (fun _ _ => rfl)) pa_nil)) (nomark _))))) (pss_one (ps_ret pe_bl)) pss_nil))))))))))))))
      (pss_one (ps_ret pe_bl)))), ?_⟩
  refine q_te (call_at (ea1 (ev_var rfl)) fun H1 E1 e1 => ⟨a, ns, rfl, ex_l e1 hq, fun ba li H2 hba e2 b2 => ?_⟩)
  refine ⟨3, rfl, by decide, by decide, ?_⟩
  refine for_range (lo := 0) (n := (3 : Int).toNat) (fun i σ H' => ∃ (u2 u3 u4 u5 u6 u7 u8 u9 u10 u11 u12 u13 u14 : Option V), σ = [some (.ref a), some (.ref ba), u2, u3, u4, u5, u6, u7, u8, u9, u10, u11, u12, u13, u14] ∧ BagAt ba li H') ⟨_, _, _, _, _, _, _, _, _, _, _, _, _, rfl, b2⟩ ?_ ?_
  · rintro i σ H3 hi ⟨u2, u3, u4, u5, u6, u7, u8, u9, u10, u11, u12, u13, u14, rfl, b3⟩
    refine q_te (pull_at (ea2 (ev_var rfl) ev_c) b3 (by decide) (by decide) fun r H4 hr0 hr1 x4 b4 => ?_)
    obtain ⟨d, hd⟩ : ∃ d : Nat, 1 + r = (d : Nat) := ⟨(1 + r).toNat, by omega⟩
    have hd1 : 1 ≤ d := by omega
    have hd3 : d ≤ 3 := by omega
    refine ⟨1, r, rfl, rfl, ?_⟩
    try dsimp only
    rw [hd]
    refine ⟨_, rfl, _, rfl, ba, li, d, rfl, b4, hd1, hd3, fun v x1 x2 ds T H5 x5 b5 hv h1 hT hso hdl => ⟨_, rfl, _, rfl, ba, li, d, rfl, b5, hd1, hd3, fun D ps H6 hD x6 b6 hls hps => ⟨_, _, rfl, ?_⟩⟩⟩
    have Dba := b5.ne hD
    have t56 := b5.tx x6
    have hv6 := hv.tx t56
    have h16 := h1.tx t56
    have hT6 := hT.tx t56
    -- the scan
    refine q_te (make_at (ea2 (ev_ixT (K := K) 0 (ev_var rfl) hv6 ev_c rfl rfl) (ev_ixT (K := K) 1 (ev_var rfl) hv6 ev_c rfl rfl)) fun H7 e7 x dx hx hdx hne E7 => ?_)
    have e67 : Ex H6 (upd (upd H7 dx (.own x)) x (.ins C dx [])) := e7.trans ((Ex.new hdx).trans (Ex.new (by rw [upd_ne (Ne.symm hne)]; exact hx)))
    have hx6 : H6 x = none := fresh_back e7 hx
    refine ⟨x, dx, x1, x2, ds, T, rfl, upd_same, h16.tx (tx_of e67), hT6.tx (tx_of e67), hso, fun H8 fs x8 h8 l1 l2 l3 => ⟨rfl, ?_⟩⟩
    have e68 := ex_exb e67 hx6 x8
    have hs8 : ScanAt C H8 (.ref x) ds T := ⟨x, dx, fs, x1, x2, rfl, h8, l1, h16.tx (tx_of e68), l2, hT6.tx (tx_of e68), l3⟩
    have b8 := b6.ex e68
    have hls8 := hls.ex e68
    -- the box
    refine q_te (el_lcBR (K := K) (n := d) (ea1 (ev_var rfl)) (fun i v H => ∃ m, v = V.int m ∧ 0 ≤ m ∧ m ≤ 9) (fun _ _ _ _ _ h => h) b8 (by omega) (fun i y H9 hi hy x9 b9 Q2 k2 => ?_) fun D1 ys1 H9 hD1 x9 b9 h9 each1 => ?_)
    · obtain ⟨e, he, hat⟩ : ∃ e : Int, (0 < e ∧ e ≤ 10) ∧ atI [V.int 10, .int 5, .int 4] ((d : Int) - 1) = some (.int e) := by
        rcases (by omega : d = 1 ∨ d = 2 ∨ d = 3) with rfl | rfl | rfl
        · exact ⟨10, by decide, rfl⟩
        · exact ⟨5, by decide, rfl⟩
        · exact ⟨4, by decide, rfl⟩
      refine ⟨_, rfl, sz_of (by simp), fun q hq => ⟨_, rfl, (d : Int), 1, rfl, rfl, q, _, (d : Int) - 1, .int e, rfl, rfl, SqL.of upd_same, hat, ba, li, e, rfl, b9.ex (Ex.new hq), he.1, by omega, fun r2 H10 g0 g1 x10 b10 => ?_⟩⟩
      exact k2 _ H10 ((ExB.of (Ex.new hq)).trans x10) b10 ⟨r2, rfl, g0, by omega⟩
    obtain ⟨bx, rfl, hbl, hbr⟩ := each_ints each1
    rw [List.length_range] at hbl
    refine .inl ⟨D1, _, rfl, SqL.of h9, fun pb hpb => ?_⟩
    have x10 := x9.trans (ExB.of (ba := ba) (Ex.new (o := .tup (bx.map V.int)) hpb))
    have b10 := b9.ex (Ex.new (o := .tup (bx.map V.int)) hpb)
    have hb10 : Pl (upd H9 pb (.tup (bx.map V.int))) (.ref pb) bx := .new
    generalize upd H9 pb (.tup (bx.map V.int)) = H10 at x10 b10 hb10
    have hs10 := scan_exb b8 x10 hs8
    have hls10 := ls_exb b8 x10 Dba hls8
    have hbox : BoxOk bx := boxOk_small (by omega) (by omega) fun i hi => ⟨(hbr i hi).1, by have := (hbr i hi).2; omega⟩
    -- the wide box
    refine q_te (el_lcBT (K := K) (n := d) (ev_var (v := .ref pb) rfl) hb10 (by rw [List.length_map, hbl]) (fun i v H => ∃ m, v = V.int m ∧ ∃ s, bx[i]? = some s ∧ s ≤ m ∧ m ≤ s + 2) (fun _ _ _ _ _ h => h) b10 (by omega) (fun i y H11 hi hy x11 b11 Q2 k2 => ?_) fun D2 ys2 H11 hD2 x11 b11 h11 each2 => ?_)
    · rw [List.getElem?_map] at hy
      obtain ⟨s, hs, rfl⟩ := Option.map_eq_some_iff.mp hy
      refine ⟨_, rfl, ?_⟩
      refine pull_at (ea2 (ev_var rfl) ev_c) b11 (by decide) (by decide) fun r2 H12 g0 g1 x12 b12 => ⟨s, r2, rfl, rfl, k2 _ H12 x12 b12 ⟨s + r2, rfl, s, hs, by omega, by omega⟩⟩
    obtain ⟨wd, rfl, hwl, _⟩ := each_ints (Pm := fun _ => True) (Paired.mapP each2 fun _ _ ⟨m, e, _⟩ => ⟨m, e, trivial⟩)
    rw [List.length_range] at hwl
    have hwr : ∀ (i : Nat) m, wd[i]? = some m → ∃ s, bx[i]? = some s ∧ s ≤ m ∧ m ≤ s + 2 := fun i m hm => by
      obtain ⟨j, hj, m', e, hh⟩ := paired_getL each2 (i := i) (x := V.int m) (by rw [List.getElem?_map, hm]; rfl)
      cases e
      have hij : j = i := by
        have := (List.getElem?_eq_some_iff.mp hj).2
        rw [List.getElem_range] at this
        exact this.symm
      rw [hij] at hh
      exact hh
    refine .inl ⟨D2, _, rfl, SqL.of h11, fun pw hpw => ?_⟩
    have x12 := x11.trans (ExB.of (ba := ba) (Ex.new (o := .tup (wd.map V.int)) hpw))
    have b12 := b11.ex (Ex.new (o := .tup (wd.map V.int)) hpw)
    have hw12 : Pl (upd H11 pw (.tup (wd.map V.int))) (.ref pw) wd := .new
    generalize upd H11 pw (.tup (wd.map V.int)) = H12 at x12 b12 hw12
    have hs12 := scan_exb b10 x12 hs10
    have hls12 := ls_exb b10 x12 Dba hls10
    have hb12 := hb10.tx (b10.tx x12)
    have hwide : BoxOk wd := boxOk_small (by omega) (by omega) fun m hm => by
      obtain ⟨i, hi, ei⟩ := List.mem_iff_getElem.mp hm
      obtain ⟨s, hs, g1, g2⟩ := hwr i m (by rw [List.getElem?_eq_getElem hi, ei])
      have := hbr s (List.mem_of_getElem? hs)
      omega
    have hwider : Wider bx wd := fun p hp hin => inB_mono (by rw [hbl, hwl]) (fun i s m h1 h2 => by
      obtain ⟨s', hs', g1, _⟩ := hwr i m h2
      rw [h1] at hs'
      cases hs'
      exact g1) hp hin
    have hbd : bx.length = ds.length := by rw [hbl, hdl]
    have hwd : wd.length = ds.length := by rw [hwl, hdl]
    rw [← hdl] at hps
    -- told
    refine ⟨_, rfl, _, rfl, _, rfl, .ref x, .ref D, .ref pb, ds, T, ps, bx, rfl, hs12, hso, hls12, hps, hb12, hbox, hbd, fun Db ab Mb Fb cb qb H13 hDb e13 hDb2 hab hob hFb hTb hqb rows_b hfb => ?_⟩
    refine ⟨_, rfl, _, rfl, _, rfl, .ref x, .ref D, .ref pw, ds, T, ps, wd, rfl, hs12.ex e13, hso, hls12.ex e13, hps, hw12.tx (tx_of e13), hwide, hwd, fun Dw aw Mw Fw cw qw H14 hDw e14 hDw2 haw how hFw hTw hqw rows_w hfw => ⟨sz_of (by simp), fun tl htl => ?_⟩⟩
    -- the mathematics
    have bfb : BoxFor ds bx ps := ⟨hbox, hbd, hps.2.2.2⟩
    have bfw : BoxFor ds wd ps := ⟨hwide, hwd, hps.2.2.2⟩
    have hcells := wider_cells hbox hwide (by rw [hbl, hwl]) hwider
    have hle : ∀ c ∈ cellsOf bx, Fb c ≤ Fw c := num_mono bfb hob hFb hFw hcells fun c hc => causes_sub bfb hc hwider fun _ h => h
    have hMM : Mb ≤ Mw := top_le hTb hTw fun c hc => ⟨how.perm.mem_iff.mpr (hcells c (hob.perm.mem_iff.mp hc)), hle c (hob.perm.mem_iff.mp hc)⟩
    have huw : ∀ M' F cs, OrderOk T ds wd cs → IsNum F T ds ps wd → Top F cs M' → M' = Mw := fun M' F cs h1 h2 h3 => Nat.le_antisymm (top_le h3 hTw fun c hc => ⟨how.perm.mem_iff.mpr (h1.perm.mem_iff.mp hc), by rw [num_uniq bfw h1 h2 hFw c (h1.perm.mem_iff.mp hc)]; exact Int.le_refl _⟩) (top_le hTw h3 fun c hc => ⟨h1.perm.mem_iff.mpr (how.perm.mem_iff.mp hc), by rw [num_uniq bfw how hFw h2 c (how.perm.mem_iff.mp hc)]; exact Int.le_refl _⟩)
    have hub : ∀ M' F cs, OrderOk T ds bx cs → IsNum F T ds ps bx → Top F cs M' → M' = Mb := fun M' F cs h1 h2 h3 => Nat.le_antisymm (top_le h3 hTb fun c hc => ⟨hob.perm.mem_iff.mpr (h1.perm.mem_iff.mp hc), by rw [num_uniq bfb h1 h2 hFb c (h1.perm.mem_iff.mp hc)]; exact Int.le_refl _⟩) (top_le hTb h3 fun c hc => ⟨h1.perm.mem_iff.mpr (hob.perm.mem_iff.mp hc), by rw [num_uniq bfb hob hFb h2 c (hob.perm.mem_iff.mp hc)]; exact Int.le_refl _⟩)
    have hMw := top_few bfw how hFw hTw
    have hMb := top_few bfb hob hFb hTb
    -- what stands
    have e15 : Ex H14 (upd H14 tl (.lst [.ref Db, .ref Dw])) := Ex.new htl
    have htl15 : upd H14 tl (.lst [.ref Db, .ref Dw]) tl = some (.lst [.ref Db, .ref Dw]) := upd_same
    generalize upd H14 tl (.lst [.ref Db, .ref Dw]) = H15 at e15 htl15
    have e1215 := (e13.trans e14).trans e15
    have hs15 := hs12.ex e1215
    have hls15 := hls12.ex e1215
    have hb15 := hb12.tx (tx_of e1215)
    have hw15 := hw12.tx (tx_of e1215)
    have b15 := b12.ex e1215
    have hDb15 := (e14.trans e15) Db _ hDb2
    have hDw15 := e15 Dw _ hDw2
    have rb : ∀ (k : Nat) (a : Addr), ab[k]? = some a → ∃ zs, H15 a = some (.lst zs) ∧ Paired (fun y c => Pl H15 y c) zs (qb.filter fun c => decide (Fb c = (k : Int) + 1)) := fun k a ha => by
      obtain ⟨zs, h1, h2⟩ := rows_b.row k a ha
      exact ⟨zs, (e14.trans e15) a _ h1, Paired.mapP h2 fun _ _ z => z.tx (tx_of (e14.trans e15))⟩
    have rw' : ∀ (k : Nat) (a : Addr), aw[k]? = some a → ∃ zs, H15 a = some (.lst zs) ∧ Paired (fun y c => Pl H15 y c) zs (qw.filter fun c => decide (Fw c = (k : Int) + 1)) := fun k a ha => by
      obtain ⟨zs, h1, h2⟩ := rows_w.row k a ha
      exact ⟨zs, e15 a _ h1, Paired.mapP h2 fun _ _ z => z.tx (tx_of e15)⟩
    have lenb : ∀ {σ : L2.St} {H : Hp}, σ[11]? = some (some (.ref tl)) → Ex H15 H → Ev (tCB (rLenS K) (tCons (tOp (rIxL K) (tVar 11) (tC (.int 0))) tNil)) σ H (.int (Mb : Nat)) := fun h e => by
      have := ev_len (K := K) (ev_ixL (K := K) 0 (ev_var h) ⟨tl, rfl, e tl _ htl15⟩ ev_c rfl rfl) (SqL.of (e Db _ hDb15))
      rw [List.length_map, hab] at this
      exact this
    have lenw : ∀ {σ : L2.St} {H : Hp}, σ[11]? = some (some (.ref tl)) → Ex H15 H → Ev (tCB (rLenS K) (tCons (tOp (rIxL K) (tVar 11) (tC (.int 1))) tNil)) σ H (.int (Mw : Nat)) := fun h e => by
      have := ev_len (K := K) (ev_ixL (K := K) 1 (ev_var h) ⟨tl, rfl, e tl _ htl15⟩ ev_c rfl rfl) (SqL.of (e Dw _ hDw15))
      rw [List.length_map, haw] at this
      exact this
    -- as many rows at least
    refine q_when (et_or (et_test (ev_i0 (f := fun i j => .bl (decide (j < i))) (lenb rfl (Ex.refl _)) (lenw rfl (Ex.refl _)))) fun _ => et_test (ev_neI (ev_wave_count (ea3 (ev_var rfl) (ev_var rfl) (ev_var rfl)) hs15 hso hls15 hps hw15 hwide hwd huw) (lenw rfl (Ex.refl _)))) (fun hb _ _ => ?_) fun _ H16 e16 => ?_
    · exfalso
      rw [decide_eq_false (by omega), decide_eq_true rfl] at hb
      cases hb
    -- late
    intro ld hld
    have hld15 : H15 ld = none := fresh_back e16 hld
    -- the first loop
    refine q_forR1 (n := (Mw : Nat)) (ea1 (lenw rfl (e16.trans (Ex.new hld)))) ⟨by omega, by omega⟩ (fun k' σ' H' => ∃ (u8 u10 u13 u14 : Option V) (kvs : List (List Key × V)), σ' = [some (.ref a), some (.ref ba), some (.int (0 + (i : Nat))), some (.int (d : Nat)), some v, some (.ref D), some (.ref x), some (.ref pb), u8, some (.ref pw), u10, some (.ref tl), some (.ref ld), u13, u14] ∧ Ex H15 H' ∧ H' ld = some (.dT kvs) ∧ kvs.length ≤ k' * 2000 ∧ ∀ c ∈ qw, Fw c ≤ k' → valV kvs (ky c) = some (.int (Fw c - 1))) (fun H17 e17 => ⟨_, _, _, _, [], rfl, (e16.trans (Ex.new hld)).trans e17, e17 ld _ upd_same, by simp, fun c hc hc2 => ?_⟩) ?_ ?_
    · exfalso
      have := num_pos hFw c (how.perm.mem_iff.mp (hqw.mem_iff.mp hc))
      omega
    · rintro k' σ' H17 hk' ⟨u8, u10, u13, u14, kvs, rfl, e17, hl17, hkl, hkv⟩
      have hkw : k' < aw.length := by omega
      obtain ⟨ra, hra⟩ : ∃ ra, aw[k']? = some ra := ⟨aw[k'], List.getElem?_eq_getElem hkw⟩
      obtain ⟨zs, hz15, hzp⟩ := rw' k' ra hra
      have hrf := row_few hwide how hqw (fun c => decide (Fw c = (k' : Int) + 1))
      generalize hrow : (qw.filter fun c => decide (Fw c = (k' : Int) + 1)) = row at hzp hrf
      have hzl := hzp.length
      have hin : ∀ c, c ∈ row → c ∈ qw ∧ Fw c = (k' : Int) + 1 := fun c hc => by
        rw [← hrow] at hc
        exact ⟨(List.mem_filter.mp hc).1, of_decide_eq_true (List.mem_filter.mp hc).2⟩
      refine s_forLn (a := ra) (xs := zs) (ev_ixL (K := K) k' (ev_ixL (K := K) 1 (ev_var rfl) ⟨tl, rfl, e17 tl _ htl15⟩ ev_c rfl rfl) ⟨Dw, rfl, e17 Dw _ hDw15⟩ (ev_var rfl) rfl (by rw [List.getElem?_map, hra]; rfl)) (SqL.of (e17 ra _ hz15)) (fun j σ' H' => ∃ (u10 u13 u14 : Option V) (kvs : List (List Key × V)), σ' = [some (.ref a), some (.ref ba), some (.int (0 + (i : Nat))), some (.int (d : Nat)), some v, some (.ref D), some (.ref x), some (.ref pb), some (.int (k' : Nat)), some (.ref pw), u10, some (.ref tl), some (.ref ld), u13, u14] ∧ Ex H15 H' ∧ H' ld = some (.dT kvs) ∧ kvs.length ≤ k' * 2000 + j ∧ (∀ c ∈ qw, Fw c ≤ k' → valV kvs (ky c) = some (.int (Fw c - 1))) ∧ ∀ c ∈ row.take j, valV kvs (ky c) = some (.int (Fw c - 1))) (fun H18 e18 => ⟨_, _, _, kvs, rfl, e17.trans e18, e18 ld _ hl17, by omega, hkv, fun c hc => by simp at hc⟩) (fun j σ' H' hj h => by obtain ⟨_, _, _, _, _, h5, _⟩ := h; exact SqL.of (h5 ra _ hz15)) ?_ ?_
      · rintro j y σ' H18 hj ⟨u10, u13, u14, kvs, rfl, e18, hl18, hkl2, hkv2, hkv3⟩
        obtain ⟨c, hcj, hyc⟩ := paired_getL hzp hj
        obtain ⟨hcq, hcF⟩ := hin c (List.mem_of_getElem? hcj)
        have hjl := (List.getElem?_eq_some_iff.mp hcj).1
        refine s_dput (ev_var (v := .int (k' : Nat)) rfl) fun H19 e19 => ?_
        obtain ⟨ta, rfl, hta⟩ := hyc.tx (tx_of (e18.trans e19))
        have hl19 := e19 ld _ hl18
        refine ⟨_, rfl, _, rfl, ld, _, rfl, DPut.t hl19 (by rw [ky_val]; exact hta) (Nat.lt_of_le_of_lt (show kvs.length ≤ 5000000 by omega) (by decide)), u10, _, u14, _, rfl, (e18.trans e19).mut hld15, upd_same, ?_, fun c' hc' hF' => ?_, fun c' hc' => ?_⟩
        · have := putK_lenL kvs (ky c) (V.int (k' : Nat))
          omega
        · rw [valV_put, if_neg (fun z => by
            have := ky_inj z
            rw [this, hcF] at hF'
            omega)]
          exact hkv2 c' hc' hF'
        · rw [valV_put]
          by_cases hcc : c' = c
          · rw [if_pos (by rw [hcc]), hcc, hcF]
            congr 2
            omega
          · rw [if_neg (fun z => hcc (ky_inj z))]
            rw [take_next _ hcj] at hc'
            rcases List.mem_append.mp hc' with h | h
            · exact hkv3 c' h
            · exact absurd (List.mem_singleton.mp h) hcc
      · rintro σ' H18 ⟨u10, u13, u14, kvs, rfl, e18, hl18, hkl2, hkv2, hkv3⟩
        rw [hzl, List.take_length] at hkv3
        refine ⟨_, _, _, _, kvs, rfl, e18, hl18, by omega, fun c hc hF => ?_⟩
        by_cases hh : Fw c ≤ k'
        · exact hkv2 c hc hh
        · exact hkv3 c (by rw [← hrow]; exact List.mem_filter.mpr ⟨hc, decide_eq_true (by omega)⟩)
    rintro σ' H17 ⟨u8, u10, u13, u14, kvs, rfl, e17, hl17, hkl, hkv⟩
    have hkv' : ∀ c ∈ qw, valV kvs (ky c) = some (.int (Fw c - 1)) := fun c hc => hkv c hc (by
      have := hTw.ub c (hqw.mem_iff.mp hc)
      omega)
    -- the second loop
    refine q_forR1 (n := (Mb : Nat)) (ea1 (lenb rfl e17)) ⟨by omega, by omega⟩ (fun k' σ' H' => ∃ (u8 u10 u13 u14 : Option V), σ' = [some (.ref a), some (.ref ba), some (.int (0 + (i : Nat))), some (.int (d : Nat)), some v, some (.ref D), some (.ref x), some (.ref pb), u8, some (.ref pw), u10, some (.ref tl), some (.ref ld), u13, u14] ∧ Ex H17 H') (fun H18 e18 => ⟨_, _, _, _, rfl, e18⟩) ?_ ?_
    · rintro k' σ' H18 hk' ⟨u8, u10, u13, u14, rfl, e18⟩
      have hkb : k' < ab.length := by omega
      obtain ⟨ra, hra⟩ : ∃ ra, ab[k']? = some ra := ⟨ab[k'], List.getElem?_eq_getElem hkb⟩
      obtain ⟨zs, hz15, hzp⟩ := rb k' ra hra
      have e178 := e17.trans e18
      refine s_forLn (a := ra) (xs := zs) (ev_ixL (K := K) k' (ev_ixL (K := K) 0 (ev_var rfl) ⟨tl, rfl, e178 tl _ htl15⟩ ev_c rfl rfl) ⟨Db, rfl, e178 Db _ hDb15⟩ (ev_var rfl) rfl (by rw [List.getElem?_map, hra]; rfl)) (SqL.of (e178 ra _ hz15)) (fun j σ' H' => ∃ (u10 u13 u14 : Option V), σ' = [some (.ref a), some (.ref ba), some (.int (0 + (i : Nat))), some (.int (d : Nat)), some v, some (.ref D), some (.ref x), some (.ref pb), some (.int (k' : Nat)), some (.ref pw), u10, some (.ref tl), some (.ref ld), u13, u14] ∧ Ex H17 H') (fun H19 e19 => ⟨_, _, _, rfl, e18.trans e19⟩) (fun j σ' H' hj h => by obtain ⟨_, _, _, _, h5⟩ := h; exact SqL.of ((e17.trans h5) ra _ hz15)) ?_ ?_
      · rintro j y σ' H19 hj ⟨u10, u13, u14, rfl, e19⟩
        obtain ⟨c, hcj, hyc⟩ := paired_getL hzp hj
        have hcm := List.mem_filter.mp (List.mem_of_getElem? hcj)
        have hcF := of_decide_eq_true hcm.2
        have hcb : c ∈ cellsOf bx := hob.perm.mem_iff.mp (hqb.mem_iff.mp hcm.1)
        have hcw : c ∈ qw := hqw.mem_iff.mpr (how.perm.mem_iff.mpr (hcells c hcb))
        have hlec := hle c hcb
        have evd : Ev (tDGet (tVar 12) (tVar 13)) [some (.ref a), some (.ref ba), some (.int (0 + (i : Nat))), some (.int (d : Nat)), some v, some (.ref D), some (.ref x), some (.ref pb), some (.int (k' : Nat)), some (.ref pw), u10, some (.ref tl), some (.ref ld), some y, u14] H19 (.int (Fw c - 1)) := fun H20 e20 Q6 q6 => by
          obtain ⟨ta, rfl, hta⟩ := hyc.tx (tx_of ((e17.trans e19).trans e20))
          refine ⟨_, rfl, _, rfl, ld, _, rfl, ?_, q6 H20 (Ex.refl _)⟩
          rw [← hkv' c hcw]
          exact DGet.t ((e19.trans e20) ld _ hl17) (by rw [ky_val]; exact hta)
        refine s_when (et_test (ev_i0 (f := fun i j => .bl (decide (i < j))) evd (ev_var (v := .int (k' : Nat)) rfl))) (fun hb _ _ => ?_) fun _ H20 e20 => ⟨_, _, _, rfl, e19.trans e20⟩
        exfalso
        have := of_decide_eq_true hb
        omega
      · rintro σ' H19 ⟨u10, u13, u14, rfl, e19⟩
        exact ⟨_, _, _, _, rfl, e19⟩
    rintro σ' H18 ⟨u8, u10, u13, u14, rfl, e18⟩
    have e158 := e17.trans e18
    -- the chain
    refine q_te (call_at (ea3 (ev_var (v := .ref x) rfl) (ev_var (v := .ref D) rfl) (ev_var (v := .ref pb) rfl)) fun H19 E19 e19 => ⟨.ref x, .ref D, .ref pb, ds, T, ps, bx, rfl, hs15.ex (e158.trans e19), hso, hls15.ex (e158.trans e19), hps, hb15.tx (tx_of (e158.trans e19)), hbox, hbd, fun Dc yc ch Mc Fc cc H20 hDc e20 hDc2 hyc hoc hFc hTc hch hcl => ?_⟩)
    have e1520 := (e158.trans e19).trans e20
    have hMc := hub Mc Fc cc hoc hFc hTc
    subst hMc
    have ecw : ∀ {σ : L2.St} {H : Hp} {ta : TA}, EvA ta σ H [.ref x, .ref D, .ref Dc] → Ex H20 H → Ev (tCall (spChainWaves C) [] E0 ta) σ H (.int (Mc : Nat)) := fun h e H1 e1 Q1 q1 => h H1 e1 _ fun H2 e2 => by
      have ee := (e.trans e1).trans e2
      exact ⟨.ref x, .ref D, .ref Dc, ds, T, ps, bx, Fc, yc, ch, Mc, rfl, hs15.ex (e1520.trans ee), hso, hls15.ex (e1520.trans ee), hps, hbox, hbd, ⟨Dc, rfl, ee Dc _ hDc2⟩, Paired.mapP hyc fun _ _ z => z.tx (tx_of ee), hch, hcl, fun H3 e3 => q1 H3 (e2.trans e3)⟩
    have tst2 : EvT (tTest (tOp (rI0 fun i j => .bl (decide (j < i))) (tCall (spWaveCount C) [] E0 (tCons (tVar 6) (tCons (tSl (rSlL K) (tVar 5) tNoPart (tPart (tC (.int 1)))) (tCons (tVar 9) tNil)))) (tCB (rLenS K) (tCons (tOp (rIxL K) (tVar 11) (tC (.int 1))) tNil)))) [some (.ref a), some (.ref ba), some (.int (0 + (i : Nat))), some (.int (d : Nat)), some v, some (.ref D), some (.ref x), some (.ref pb), u8, some (.ref pw), u10, some (.ref tl), some (.ref ld), u13, some (.ref Dc)] H20 false := fun H21 e21 Q1 q1 => by
      have e151 := e1520.trans e21
      obtain ⟨xs, ⟨Dl, eD, hxs⟩, hxp⟩ := hls15.ex e151
      cases eD
      have hxl := hxp.length
      refine ⟨_, rfl, _, rfl, 1, rfl, D, xs, rfl, SqL.of hxs, fun L hL => ?_⟩
      have hcut : cutV xs none (some 1) = xs.take 1 := cutV_take xs (i := 1) (by have := hps.1; omega)
      rw [hcut]
      have eL := Ex.new (o := .lst (xs.take 1)) hL
      have e152 := e151.trans eL
      have ps1 := looks_one hps
      have bf1 : BoxFor ds wd (ps.take 1) := ⟨hwide, hwd, ps1.2.2.2⟩
      refine ⟨_, rfl, .ref x, .ref L, .ref pw, ds, T, ps.take 1, wd, rfl, hs15.ex e152, hso, ⟨xs.take 1, ⟨L, rfl, upd_same⟩, paired_take 1 (Paired.mapP hxp fun _ _ z => z.tx (tx_of eL))⟩, ps1, hw15.tx (tx_of e152), hwide, hwd, fun M3 F3 c3 H22 e22 ho3 hF3 hT3 => ?_⟩
      have h3 : M3 ≤ Mw := top_le hT3 hTw fun c hc => ⟨how.perm.mem_iff.mpr (ho3.perm.mem_iff.mp hc), num_mono bf1 ho3 hF3 hFw (fun _ h => h) (fun c hc => causes_sub bf1 hc (fun p h1 h2 => h2) fun l hl => List.mem_of_mem_take hl) c (ho3.perm.mem_iff.mp hc)⟩
      refine lenw (σ := [some (.ref a), some (.ref ba), some (.int (0 + (i : Nat))), some (.int (d : Nat)), some v, some (.ref D), some (.ref x), some (.ref pb), u8, some (.ref pw), u10, some (.ref tl), some (.ref ld), u13, some (.ref Dc)]) rfl (e152.trans e22) H22 (Ex.refl _) _ fun H23 e23 => ⟨M3, Mw, rfl, rfl, _, rfl, ?_⟩
      rw [decide_eq_false (by omega)]
      exact q1 H23 ((eL.trans e22).trans e23)
    refine s_when (et_or (et_test (ev_neI (ecw (ea3 (ev_var (v := .ref x) rfl) (ev_var (v := .ref D) rfl) (ev_var (v := .ref Dc) rfl)) (Ex.refl _)) (lenb rfl e1520))) fun _ => tst2) (fun hb _ _ => ?_) fun _ H21 e21 => ⟨_, _, _, _, _, _, _, _, _, _, _, _, _, rfl, b15.ex (e1520.trans e21)⟩
    exfalso
    rw [decide_eq_true rfl] at hb
    cases hb
  · rintro σ H3 ⟨u2, u3, u4, u5, u6, u7, u8, u9, u10, u11, u12, u13, u14, rfl, b3⟩
    exact k H3
end
end Lk


set_option maxHeartbeats 0
/-! Lookscan: the head and the end. -/
namespace Lk
open PySem PySem.Spec PyProof.Rows L2
abbrev Rr : PySem.W.OpenRow := PySem.W.OpenLaw.row PySem.Challenge.rw_lookscan_k73_whole_wider_boxes_need_no_f
def dG (x : Str) (i : Nat) : He.DefD := ⟨(x, none), x, x, defArgs (top i), defBody (top i), defScope (top i), [], []⟩
def dM (m : Str) (j : Nat) (dv : List He.Dv) : He.DefD := ⟨("Scan", some m), m, Str.ofString "Scan." ++ m, defArgs (inClass (top 54) j), defBody (inClass (top 54) j), defScope (inClass (top 54) j), dv, []⟩
def fnL : List He.DefD := [dG "_law_bag" 56, dG "_law_count" 60, dG "_law_divisors" 61, dG "_law_looks" 64, dG "_law_mixed" 59, dG "_law_of" 58, dG "_law_parts" 62, dG "_law_pull" 57, dG "_law_small_scan" 65, dG "_law_tree" 63, dG "are_numbers" 12, dG "below" 47, dG "causes" 34, dG "cell_count" 27, dG "cells" 30, dG "chain_waves" 40, dG "class_at" 32, dG "class_count" 31, dG "group_at" 50, dG "is_in" 29, dG "is_look" 19, dG "is_node" 46, dG "is_number" 11, dG "is_parting" 45, dG "is_tree" 48, dG "law" 66, dG "minus" 14, dG "need_all" 36, dG "need_box" 26, dG "need_cells" 28, dG "need_looks" 20, dG "need_place" 25, dG "node_count" 49, dG "numbered" 35, dG "path_of" 53, dG "plus" 13, dG "sign_of" 51, dG "times" 15, dG "wave_chain" 39, dG "wave_count" 38, dG "waves" 37, dM "__init__" 2 [.glo "LEAF"], dM "__call__" 7 [], dM "order" 10 []]
def faL : List He.Fa := [.glo "_law_bag", .glo "_law_count", .glo "_law_divisors", .glo "_law_looks", .glo "_law_mixed", .glo "_law_of", .glo "_law_parts", .glo "_law_pull", .glo "_law_small_scan", .glo "_law_tree", .glo "are_numbers", .glo "below", .glo "causes", .glo "cell_count", .glo "cells", .glo "chain_waves", .glo "class_at", .glo "class_count", .glo "group_at", .glo "is_in", .glo "is_look", .glo "is_node", .glo "is_number", .glo "is_parting", .glo "is_tree", .glo "law", .glo "minus", .glo "need_all", .glo "need_box", .glo "need_cells", .glo "need_looks", .glo "need_place", .glo "node_count", .glo "numbered", .glo "path_of", .glo "plus", .glo "sign_of", .glo "times", .glo "wave_chain", .glo "wave_count", .glo "waves", .free "len", .free "isinstance", .free "tuple", .free "list", .free "int", .free "bool", .free "range", .free "zip", .free "enumerate", .free "sorted", .free "sum", .free "max", .free "min", .free "abs", .free "all", .free "any", .int "MAX_LOOKS" 4, .int "MAX_REACH" 9, .int "MAX_DIRECTIONS" 3, .int "MAX_CLASSES" 12, .int "MAX_CELLS" 2000, .int "MAX_DEPTH" 20, .int "MAX_NODES" 200, .glo "Scan", .cls "Scan", .noat "Scan" "held_divisors", .noat "Scan" "held_tree", .noat "Scan" "class_total", .noat "Scan" "node_total", .mkr "Scan", .meth "Scan" "order", .glo "LEAF"]
/-- the property's object, its getter -/
def pA (K : PySem.W.Frag) : Addr := He.ma K (He.ga K "Scan") "directions"
def gA (K : PySem.W.Frag) : Addr := match PySem.W.recIn K (pA K) "property" with
  | some (.ref g :: _) => g
  | _ => 0
def fnA (K : PySem.W.Frag) (a : Addr) : He.FnW := match K.lookup a with
  | some ⟨_, _, .func fd, _⟩ => some (fd.name, fd.qualname, fd.params, fd.body, fd.scope, fd.globals, fd.closure, fd.builtins)
  | _ => none
def okA (K : PySem.W.Frag) (a : Addr) (q : Str) : Bool := PySem.W.keepIn K (.ref a) && (match K.lookup a with
  | some ⟨_, _, .func fd, _⟩ => PySem.W.codeIn K fd.code q && (He.dflB K fd.defaults [] && He.kwdB K fd.kwdefaults [])
  | _ => false)
theorem funA {K : PySem.W.Frag} {a : Addr} {x q : Str} {ar : Arguments} {bd : List Stmt} {sc : Scope} (e : fnA K a = some (x, q, ar, .stmts bd, sc, mainGlobals, [], builtinsNs)) (c : okA K a q = true) : ∃ fd, FunD K x q ar bd sc [] [] a fd := by
  obtain ⟨kp, c2⟩ := He.ba c
  unfold fnA at e
  cases h : K.lookup a with
  | none =>
    rw [h] at c2
    cases c2
  | some o =>
    obtain ⟨oc, od, dt, osl⟩ := o
    rw [h] at c2 e
    cases dt with
    | func fd =>
      obtain ⟨n1, n2, n3, n4, n5, n6, n7, n8, n9, n10, n11, n12, n13, n14, n15⟩ := fd
      have e2 : (some (n1, n2, n3, n4, n5, n6, n7, n15) : He.FnW) = some (x, q, ar, .stmts bd, sc, mainGlobals, [], builtinsNs) := e
      simp only [Option.some.injEq, Prod.mk.injEq] at e2
      obtain ⟨h1, h2, h3, h4, h5, h6, h7, h8⟩ := e2
      subst h1 h2 h3 h4 h5 h6 h7 h8
      have c3 : (PySem.W.codeIn K n13 n2 && (He.dflB K n8 [] && He.kwdB K n9 [])) = true := c2
      obtain ⟨k1, k2⟩ := He.ba c3
      obtain ⟨k3, k4⟩ := He.ba k2
      exact ⟨_, ⟨oc, od, n8, n9, n10, n11, n12, n13, n14, osl, rfl, h, k1, He.dflB_ok k3, He.kwdB_ok k4⟩, kp⟩
    | _ => cases c2
def sDr : Stmt := inClass (top 54) 6
def vDr : He.FnW := some ("directions", "Scan.directions", defArgs sDr, .stmts (defBody sDr), defScope sDr, mainGlobals, [], builtinsNs)
def cA (K : PySem.W.Frag) : Addr := He.ma K (He.ga K "Scan") "__call__"
def exL (K : PySem.W.Frag) : Bool := He.tupB K "LEAF" [.str "places"] && (okA K (gA K) "Scan.directions" && (decide (PySem.W.findIn K (.ref (He.ga K "Scan")) "directions" = some (some (.ref (pA K)))) && (decide (PySem.W.specialIn K (.ref (pA K)) "__get__" = some (some (.builtin "property.__get__"))) && (decide (PySem.W.takesIn K (.ref (pA K)) = some true) &&
  ((match PySem.W.recIn K (pA K) "property" with
    | some (.ref g :: _) => true
    | _ => false) && (decide (PySem.W.findIn K (.ref (He.ga K "Scan")) "__call__" = some (some (.ref (cA K)))) && (PySem.W.isFn K (.ref (cA K)) && PySem.W.fnIn K (cA K))))))))
abbrev AlL : Type := He.AlD × (Bool × He.FnW)
def obsL (K : PySem.W.Frag) : AlL := (He.obsD faL fnL K, (exL K, fnA K (gA K)))
def valL : AlL := (He.valD fnL, (true, vDr))
def obsLG (g : Addr → Option Obj) : AlL := obsL (He.frG g (He.asD g 6))
def hkL : PySem.W.Hook where
  α := AlL
  obs := fun s => obsLG s.heap.get?
  val := fun _ => valL
  says := fun _ h => ∃ K : PySem.W.Frag, K.In h ∧ obsL K = valL
  of := fun _ _ e => ⟨_, He.frG_in, e⟩
  keeps := fun _ _ _ ⟨K, hK, c⟩ k => ⟨K, PySem.W.Frag.In.keeps hK k, c⟩
def obL (s : PySem.W.SharedT) : AlL := obsLG (HandSHeadRun.getT s)
theorem obL_eq (s : PySem.W.SharedT) : obL s = hkL.obs s.abs := by
  have e : HandSHeadRun.getT s = s.abs.heap.get? := funext (HandSHeadRun.getT_eq s)
  show obsLG (HandSHeadRun.getT s) = obsLG s.abs.heap.get?
  rw [e]
def nmL0 : List Str := ["_wall", "ScanError", "InvalidPlace", "InvalidBox", "InvalidDivisors", "TooManyClasses", "InvalidLooks", "InvalidTree", "TooManyCells", "is_number", "are_numbers", "plus", "minus", "times", "MAX_LOOKS", "MAX_REACH", "is_look", "need_looks", "MAX_DIRECTIONS", "MAX_CLASSES"]
def nmL1 : List Str := ["MAX_CELLS", "need_place", "need_box", "cell_count", "need_cells", "is_in", "cells", "class_count", "class_at", "causes", "numbered", "need_all", "waves", "wave_count", "wave_chain", "chain_waves", "MAX_DEPTH", "MAX_NODES", "LEAF", "is_parting"]
def nmL2 : List Str := ["is_node", "below", "is_tree", "node_count", "group_at", "sign_of", "path_of", "Scan", "_law_bag", "_law_pull", "_law_of", "_law_mixed", "_law_count", "_law_divisors", "_law_parts", "_law_tree", "_law_looks", "_law_small_scan"]
def nmsL : List Str := nmL0 ++ nmL1 ++ nmL2
theorem runL (w : World) : HandSHeadRun.RunEq Rr (PySem.W.view Rr.prog [66]) hkL obL 6000 nmsL w := by
  intro os
  kernel_rfl
theorem factsL {P : Program} {w : World} {K : PySem.W.Frag} {h : Heap} {mg : Str → Option Value} {f : Addr} (X : K.In h) (G : h.Ns mainGlobals mg) (hfa : mg ("law" : Str) = some (.ref f)) (cc : obsL K = valL) :
    ∃ fd : FuncData, (∀ (s : Shared) (v : Value), BindsTo s fd ⟨[v], []⟩ [("_law_script", v)]) ∧ ∀ base : Heap, K.In base → base.Ns mainGlobals mg → FnOk P w K mg base CX0 11 f fd ["_law_script"] (spLaw K) := by
  have c : He.SaysD faL fnL K := congrArg (fun z : AlL => z.1) cc
  have ex : exL K = true := congrArg (fun z : AlL => z.2.1) cc
  have fe : fnA K (gA K) = vDr := congrArg (fun z : AlL => z.2.2) cc
  obtain ⟨x1, ex⟩ := He.ba ex
  obtain ⟨x2, ex⟩ := He.ba ex
  obtain ⟨x3, ex⟩ := He.ba ex
  obtain ⟨x4, ex⟩ := He.ba ex
  obtain ⟨x5, ex⟩ := He.ba ex
  obtain ⟨x6, ex⟩ := He.ba ex
  obtain ⟨x7, ex⟩ := He.ba ex
  obtain ⟨x8, x9⟩ := He.ba ex
  have D__law_bag : Df K mg "_law_bag" sLawBag := by
    obtain ⟨fd, F⟩ := c.def_ 0 (d := dG "_law_bag" 56) rfl
    exact ⟨_, fd, F, He.glo_ok X G (c.fact 0 (f := .glo "_law_bag") rfl)⟩
  have D__law_count : Df K mg "_law_count" sLawCount := by
    obtain ⟨fd, F⟩ := c.def_ 1 (d := dG "_law_count" 60) rfl
    exact ⟨_, fd, F, He.glo_ok X G (c.fact 1 (f := .glo "_law_count") rfl)⟩
  have D__law_divisors : Df K mg "_law_divisors" sLawDivisors := by
    obtain ⟨fd, F⟩ := c.def_ 2 (d := dG "_law_divisors" 61) rfl
    exact ⟨_, fd, F, He.glo_ok X G (c.fact 2 (f := .glo "_law_divisors") rfl)⟩
  have D__law_looks : Df K mg "_law_looks" sLawLooks := by
    obtain ⟨fd, F⟩ := c.def_ 3 (d := dG "_law_looks" 64) rfl
    exact ⟨_, fd, F, He.glo_ok X G (c.fact 3 (f := .glo "_law_looks") rfl)⟩
  have D__law_mixed : Df K mg "_law_mixed" sLawMixed := by
    obtain ⟨fd, F⟩ := c.def_ 4 (d := dG "_law_mixed" 59) rfl
    exact ⟨_, fd, F, He.glo_ok X G (c.fact 4 (f := .glo "_law_mixed") rfl)⟩
  have D__law_of : Df K mg "_law_of" sLawOf := by
    obtain ⟨fd, F⟩ := c.def_ 5 (d := dG "_law_of" 58) rfl
    exact ⟨_, fd, F, He.glo_ok X G (c.fact 5 (f := .glo "_law_of") rfl)⟩
  have D__law_parts : Df K mg "_law_parts" sLawParts := by
    obtain ⟨fd, F⟩ := c.def_ 6 (d := dG "_law_parts" 62) rfl
    exact ⟨_, fd, F, He.glo_ok X G (c.fact 6 (f := .glo "_law_parts") rfl)⟩
  have D__law_pull : Df K mg "_law_pull" sLawPull := by
    obtain ⟨fd, F⟩ := c.def_ 7 (d := dG "_law_pull" 57) rfl
    exact ⟨_, fd, F, He.glo_ok X G (c.fact 7 (f := .glo "_law_pull") rfl)⟩
  have D__law_small_scan : Df K mg "_law_small_scan" sLawSmallScan := by
    obtain ⟨fd, F⟩ := c.def_ 8 (d := dG "_law_small_scan" 65) rfl
    exact ⟨_, fd, F, He.glo_ok X G (c.fact 8 (f := .glo "_law_small_scan") rfl)⟩
  have D__law_tree : Df K mg "_law_tree" sLawTree := by
    obtain ⟨fd, F⟩ := c.def_ 9 (d := dG "_law_tree" 63) rfl
    exact ⟨_, fd, F, He.glo_ok X G (c.fact 9 (f := .glo "_law_tree") rfl)⟩
  have D_are_numbers : Df K mg "are_numbers" sAreNumbers := by
    obtain ⟨fd, F⟩ := c.def_ 10 (d := dG "are_numbers" 12) rfl
    exact ⟨_, fd, F, He.glo_ok X G (c.fact 10 (f := .glo "are_numbers") rfl)⟩
  have D_below : Df K mg "below" sBelow := by
    obtain ⟨fd, F⟩ := c.def_ 11 (d := dG "below" 47) rfl
    exact ⟨_, fd, F, He.glo_ok X G (c.fact 11 (f := .glo "below") rfl)⟩
  have D_causes : Df K mg "causes" sCauses := by
    obtain ⟨fd, F⟩ := c.def_ 12 (d := dG "causes" 34) rfl
    exact ⟨_, fd, F, He.glo_ok X G (c.fact 12 (f := .glo "causes") rfl)⟩
  have D_cell_count : Df K mg "cell_count" sCellCount := by
    obtain ⟨fd, F⟩ := c.def_ 13 (d := dG "cell_count" 27) rfl
    exact ⟨_, fd, F, He.glo_ok X G (c.fact 13 (f := .glo "cell_count") rfl)⟩
  have D_cells : Df K mg "cells" sCells := by
    obtain ⟨fd, F⟩ := c.def_ 14 (d := dG "cells" 30) rfl
    exact ⟨_, fd, F, He.glo_ok X G (c.fact 14 (f := .glo "cells") rfl)⟩
  have D_chain_waves : Df K mg "chain_waves" sChainWaves := by
    obtain ⟨fd, F⟩ := c.def_ 15 (d := dG "chain_waves" 40) rfl
    exact ⟨_, fd, F, He.glo_ok X G (c.fact 15 (f := .glo "chain_waves") rfl)⟩
  have D_class_at : Df K mg "class_at" sClassAt := by
    obtain ⟨fd, F⟩ := c.def_ 16 (d := dG "class_at" 32) rfl
    exact ⟨_, fd, F, He.glo_ok X G (c.fact 16 (f := .glo "class_at") rfl)⟩
  have D_class_count : Df K mg "class_count" sClassCount := by
    obtain ⟨fd, F⟩ := c.def_ 17 (d := dG "class_count" 31) rfl
    exact ⟨_, fd, F, He.glo_ok X G (c.fact 17 (f := .glo "class_count") rfl)⟩
  have D_group_at : Df K mg "group_at" sGroupAt := by
    obtain ⟨fd, F⟩ := c.def_ 18 (d := dG "group_at" 50) rfl
    exact ⟨_, fd, F, He.glo_ok X G (c.fact 18 (f := .glo "group_at") rfl)⟩
  have D_is_in : Df K mg "is_in" sIsIn := by
    obtain ⟨fd, F⟩ := c.def_ 19 (d := dG "is_in" 29) rfl
    exact ⟨_, fd, F, He.glo_ok X G (c.fact 19 (f := .glo "is_in") rfl)⟩
  have D_is_look : Df K mg "is_look" sIsLook := by
    obtain ⟨fd, F⟩ := c.def_ 20 (d := dG "is_look" 19) rfl
    exact ⟨_, fd, F, He.glo_ok X G (c.fact 20 (f := .glo "is_look") rfl)⟩
  have D_is_node : Df K mg "is_node" sIsNode := by
    obtain ⟨fd, F⟩ := c.def_ 21 (d := dG "is_node" 46) rfl
    exact ⟨_, fd, F, He.glo_ok X G (c.fact 21 (f := .glo "is_node") rfl)⟩
  have D_is_number : Df K mg "is_number" sIsNumber := by
    obtain ⟨fd, F⟩ := c.def_ 22 (d := dG "is_number" 11) rfl
    exact ⟨_, fd, F, He.glo_ok X G (c.fact 22 (f := .glo "is_number") rfl)⟩
  have D_is_parting : Df K mg "is_parting" sIsParting := by
    obtain ⟨fd, F⟩ := c.def_ 23 (d := dG "is_parting" 45) rfl
    exact ⟨_, fd, F, He.glo_ok X G (c.fact 23 (f := .glo "is_parting") rfl)⟩
  have D_is_tree : Df K mg "is_tree" sIsTree := by
    obtain ⟨fd, F⟩ := c.def_ 24 (d := dG "is_tree" 48) rfl
    exact ⟨_, fd, F, He.glo_ok X G (c.fact 24 (f := .glo "is_tree") rfl)⟩
  have D_law : Df K mg "law" sLaw := by
    obtain ⟨fd, F⟩ := c.def_ 25 (d := dG "law" 66) rfl
    exact ⟨_, fd, F, He.glo_ok X G (c.fact 25 (f := .glo "law") rfl)⟩
  have D_minus : Df K mg "minus" sMinus := by
    obtain ⟨fd, F⟩ := c.def_ 26 (d := dG "minus" 14) rfl
    exact ⟨_, fd, F, He.glo_ok X G (c.fact 26 (f := .glo "minus") rfl)⟩
  have D_need_all : Df K mg "need_all" sNeedAll := by
    obtain ⟨fd, F⟩ := c.def_ 27 (d := dG "need_all" 36) rfl
    exact ⟨_, fd, F, He.glo_ok X G (c.fact 27 (f := .glo "need_all") rfl)⟩
  have D_need_box : Df K mg "need_box" sNeedBox := by
    obtain ⟨fd, F⟩ := c.def_ 28 (d := dG "need_box" 26) rfl
    exact ⟨_, fd, F, He.glo_ok X G (c.fact 28 (f := .glo "need_box") rfl)⟩
  have D_need_cells : Df K mg "need_cells" sNeedCells := by
    obtain ⟨fd, F⟩ := c.def_ 29 (d := dG "need_cells" 28) rfl
    exact ⟨_, fd, F, He.glo_ok X G (c.fact 29 (f := .glo "need_cells") rfl)⟩
  have D_need_looks : Df K mg "need_looks" sNeedLooks := by
    obtain ⟨fd, F⟩ := c.def_ 30 (d := dG "need_looks" 20) rfl
    exact ⟨_, fd, F, He.glo_ok X G (c.fact 30 (f := .glo "need_looks") rfl)⟩
  have D_need_place : Df K mg "need_place" sNeedPlace := by
    obtain ⟨fd, F⟩ := c.def_ 31 (d := dG "need_place" 25) rfl
    exact ⟨_, fd, F, He.glo_ok X G (c.fact 31 (f := .glo "need_place") rfl)⟩
  have D_node_count : Df K mg "node_count" sNodeCount := by
    obtain ⟨fd, F⟩ := c.def_ 32 (d := dG "node_count" 49) rfl
    exact ⟨_, fd, F, He.glo_ok X G (c.fact 32 (f := .glo "node_count") rfl)⟩
  have D_numbered : Df K mg "numbered" sNumbered := by
    obtain ⟨fd, F⟩ := c.def_ 33 (d := dG "numbered" 35) rfl
    exact ⟨_, fd, F, He.glo_ok X G (c.fact 33 (f := .glo "numbered") rfl)⟩
  have D_path_of : Df K mg "path_of" sPathOf := by
    obtain ⟨fd, F⟩ := c.def_ 34 (d := dG "path_of" 53) rfl
    exact ⟨_, fd, F, He.glo_ok X G (c.fact 34 (f := .glo "path_of") rfl)⟩
  have D_plus : Df K mg "plus" sPlus := by
    obtain ⟨fd, F⟩ := c.def_ 35 (d := dG "plus" 13) rfl
    exact ⟨_, fd, F, He.glo_ok X G (c.fact 35 (f := .glo "plus") rfl)⟩
  have D_sign_of : Df K mg "sign_of" sSignOf := by
    obtain ⟨fd, F⟩ := c.def_ 36 (d := dG "sign_of" 51) rfl
    exact ⟨_, fd, F, He.glo_ok X G (c.fact 36 (f := .glo "sign_of") rfl)⟩
  have D_times : Df K mg "times" sTimes := by
    obtain ⟨fd, F⟩ := c.def_ 37 (d := dG "times" 15) rfl
    exact ⟨_, fd, F, He.glo_ok X G (c.fact 37 (f := .glo "times") rfl)⟩
  have D_wave_chain : Df K mg "wave_chain" sWaveChain := by
    obtain ⟨fd, F⟩ := c.def_ 38 (d := dG "wave_chain" 39) rfl
    exact ⟨_, fd, F, He.glo_ok X G (c.fact 38 (f := .glo "wave_chain") rfl)⟩
  have D_wave_count : Df K mg "wave_count" sWaveCount := by
    obtain ⟨fd, F⟩ := c.def_ 39 (d := dG "wave_count" 38) rfl
    exact ⟨_, fd, F, He.glo_ok X G (c.fact 39 (f := .glo "wave_count") rfl)⟩
  have D_waves : Df K mg "waves" sWaves := by
    obtain ⟨fd, F⟩ := c.def_ 40 (d := dG "waves" 37) rfl
    exact ⟨_, fd, F, He.glo_ok X G (c.fact 40 (f := .glo "waves") rfl)⟩
  have B : Bt mg := ⟨He.free_ok X G (c.fact 41 (f := .free "len") rfl), He.free_ok X G (c.fact 42 (f := .free "isinstance") rfl), He.free_ok X G (c.fact 43 (f := .free "tuple") rfl), He.free_ok X G (c.fact 44 (f := .free "list") rfl), He.free_ok X G (c.fact 45 (f := .free "int") rfl), He.free_ok X G (c.fact 46 (f := .free "bool") rfl), He.free_ok X G (c.fact 47 (f := .free "range") rfl), He.free_ok X G (c.fact 48 (f := .free "zip") rfl), He.free_ok X G (c.fact 49 (f := .free "enumerate") rfl), He.free_ok X G (c.fact 50 (f := .free "sorted") rfl), He.free_ok X G (c.fact 51 (f := .free "sum") rfl), He.free_ok X G (c.fact 52 (f := .free "max") rfl), He.free_ok X G (c.fact 53 (f := .free "min") rfl), He.free_ok X G (c.fact 54 (f := .free "abs") rfl), He.free_ok X G (c.fact 55 (f := .free "all") rfl), He.free_ok X G (c.fact 56 (f := .free "any") rfl)⟩
  have C : Cs mg := ⟨He.int_ok X G (c.fact 57 (f := .int "MAX_LOOKS" 4) rfl), He.int_ok X G (c.fact 58 (f := .int "MAX_REACH" 9) rfl), He.int_ok X G (c.fact 59 (f := .int "MAX_DIRECTIONS" 3) rfl), He.int_ok X G (c.fact 60 (f := .int "MAX_CLASSES" 12) rfl), He.int_ok X G (c.fact 61 (f := .int "MAX_CELLS" 2000) rfl), He.int_ok X G (c.fact 62 (f := .int "MAX_DEPTH" 20) rfl), He.int_ok X G (c.fact 63 (f := .int "MAX_NODES" 200) rfl)⟩
  have L : LeafOk K mg (He.ga K "LEAF") := ⟨He.glo_ok X G (c.fact 72 (f := .glo "LEAF") rfl), fun H => He.tupB_ok x1 H⟩
  have hrec : ∃ rest, PySem.W.recIn K (pA K) "property" = some (.ref (gA K) :: rest) := by
    unfold gA
    split at x6
    · rename_i g r hq
      rw [hq]
      exact ⟨r, rfl⟩
    · cases x6
  have S : ScanK K mg (He.ga K "LEAF") (He.ga K "Scan") (He.ma K (He.ga K "Scan") "__init__") (cA K) (pA K) (gA K) (He.ma K (He.ga K "Scan") "order") :=
    ⟨He.glo_ok X G (c.fact 64 (f := .glo "Scan") rfl), He.cls_ok (c.fact 65 (f := .cls "Scan") rfl), He.noat_ok (c.fact 66 (f := .noat "Scan" "held_divisors") rfl), He.noat_ok (c.fact 67 (f := .noat "Scan" "held_tree") rfl), He.noat_ok (c.fact 68 (f := .noat "Scan" "class_total") rfl), He.noat_ok (c.fact 69 (f := .noat "Scan" "node_total") rfl), He.mkr_ok (c.fact 70 (f := .mkr "Scan") rfl),
      c.def_ 41 (d := dM "__init__" 2 [.glo "LEAF"]) rfl, ⟨of_decide_eq_true x7, x8, x9⟩, c.def_ 42 (d := dM "__call__" 7 []) rfl, ⟨of_decide_eq_true x3, of_decide_eq_true x4, of_decide_eq_true x5, hrec⟩, funA fe x2, He.meth_ok (c.fact 71 (f := .meth "Scan" "order") rfl), c.def_ 43 (d := dM "order" 10 []) rfl⟩
  obtain ⟨fd, F⟩ := c.def_ 25 (d := dG "law" 66) rfl
  have e := hfa.symm.trans (He.glo_ok X G (c.fact 25 (f := .glo "law") rfl))
  cases e
  have b := FunD.bindsA (ps := ["_law_script"]) F fun _ _ _ _ _ _ us hl => match us, hl with | [_], _ => rfl
  have key : ∀ base : Heap, FnOk P w K mg base CX0 11 (He.ga K "law") fd ["_law_script"] (spLaw K) := fun base => by
    have o_is_number := ok_is_number (P := P) (w := w) (base := base) B D_is_number
    have o_are_numbers := ok_are_numbers (P := P) (w := w) (base := base) B D_are_numbers (o_is_number.mono (by decide))
    have o_plus := ok_plus (P := P) (w := w) (base := base) B D_plus
    have o_minus := ok_minus (P := P) (w := w) (base := base) B D_minus
    have o_times := ok_times (P := P) (w := w) (base := base) B D_times
    have o_is_look := ok_is_look (P := P) (w := w) (base := base) B C D_is_look (o_are_numbers.mono (by decide))
    have o_need_looks := ok_need_looks (P := P) (w := w) (base := base) B C D_need_looks (o_is_look.mono (by decide))
    have o_need_place := ok_need_place (P := P) (w := w) (base := base) B D_need_place (o_are_numbers.mono (by decide))
    have o_need_box := ok_need_box (P := P) (w := w) (base := base) B D_need_box (o_are_numbers.mono (by decide))
    have o_cell_count := ok_cell_count (P := P) (w := w) (base := base) B D_cell_count
    have o_need_cells := ok_need_cells (P := P) (w := w) (base := base) B C D_need_cells (o_need_box.mono (by decide)) (o_cell_count.mono (by decide))
    have o_is_in := ok_is_in (P := P) (w := w) (base := base) B D_is_in
    have o_class_count := ok_class_count (P := P) (w := w) (base := base) B C D_class_count (o_is_number.mono (by decide)) (o_cell_count.mono (by decide))
    have o_class_at := ok_class_at (P := P) (w := w) (base := base) B D_class_at
    have o_below := ok_below (P := P) (w := w) (base := base) B D_below
    have o_group_at := ok_group_at (P := P) (w := w) (base := base) B D_group_at
    have o_is_parting := ok_is_parting (P := P) (w := w) (base := base) B D_is_parting (o_is_number.mono (by decide))
    have o_is_node := ok_is_node (P := P) (w := w) (base := base) B L D_is_node (o_are_numbers.mono (by decide)) (o_is_parting.mono (by decide))
    have o_node_count := ok_node_count (P := P) (w := w) (base := base) B D_node_count (o_below.mono (by decide))
    have o_is_tree := ok_is_tree (P := P) (w := w) (base := base) B C D_is_tree (o_is_node.mono (by decide)) (o_below.mono (by decide))
    have o_path_of := ok_path_of (P := P) (w := w) (base := base) B L D_path_of (o_class_at.mono (by decide)) (o_times.mono (by decide)) (o_group_at.mono (by decide))
    have o_sign_of := ok_sign_of (P := P) (w := w) (base := base) B L D_sign_of (o_class_at.mono (by decide)) (o_times.mono (by decide)) (o_group_at.mono (by decide))
    have o_cells := ok_cells (P := P) (w := w) (base := base) B C D_cells (o_need_cells.mono (by decide)) (o_cell_count.mono (by decide))
    have o_directions := ok_directions (P := P) (w := w) (base := base) B S
    have o_scan_call := ok_scan_call (P := P) (w := w) (base := base) B S (o_need_place.mono (by decide)) (o_sign_of.mono (by decide))
    have o_order := ok_order (P := P) (w := w) (base := base) B S (o_need_cells.mono (by decide)) o_cells (o_path_of.mono (by decide))
    have o_init := ok_init (P := P) (w := w) (base := base) B S (o_class_count.mono (by decide)) (o_is_tree.mono (by decide)) ((o_node_count 3).mono (by decide))
    have o_need_all := ok_need_all (P := P) (w := w) (base := base) B S D_need_all (o_need_looks.mono (by decide)) (o_need_cells.mono (by decide)) (o_directions.mono (by decide))
    have o_causes := ok_causes (P := P) (w := w) (base := base) B S D_causes (o_plus.mono (by decide)) (o_minus.mono (by decide)) (o_is_in.mono (by decide)) (o_scan_call.mono (by decide))
    have o_numbered := ok_numbered (P := P) (w := w) (base := base) B S D_numbered (o_order.mono (by decide)) (o_causes.mono (by decide))
    have o_waves := ok_waves (P := P) (w := w) (base := base) B S D_waves (o_need_all.mono (by decide)) (o_numbered.mono (by decide))
    have o_wave_count := ok_wave_count (P := P) (w := w) (base := base) B S D_wave_count (o_waves.mono (by decide))
    have o_wave_chain := ok_wave_chain (P := P) (w := w) (base := base) B S D_wave_chain (o_need_all.mono (by decide)) (o_numbered.mono (by decide)) (o_causes.mono (by decide))
    have o_chain_waves := ok_chain_waves (P := P) (w := w) (base := base) B S D_chain_waves (o_need_looks.mono (by decide)) (o_need_place.mono (by decide)) (o_minus.mono (by decide)) (o_directions.mono (by decide)) (o_scan_call.mono (by decide))
    have o__law_pull := ok_law_pull (P := P) (w := w) (base := base) B D__law_pull
    have o__law_of := ok_law_of (P := P) (w := w) (base := base) B D__law_of (o__law_pull.mono (by decide))
    have o__law_mixed := ok_law_mixed (P := P) (w := w) (base := base) B D__law_mixed (o__law_pull.mono (by decide))
    have o__law_count := ok_law_count (P := P) (w := w) (base := base) B D__law_count
    have o__law_bag := ok_law_bag (P := P) (w := w) (base := base) B D__law_bag
    have o__law_divisors := ok_law_divisors (P := P) (w := w) (base := base) B D__law_divisors (o__law_pull.mono (by decide)) (o__law_mixed.mono (by decide))
    have o__law_parts := ok_law_parts (P := P) (w := w) (base := base) B D__law_parts (o__law_pull.mono (by decide))
    have o__law_looks := ok_law_looks (P := P) (w := w) (base := base) B D__law_looks (o__law_pull.mono (by decide)) (o__law_of.mono (by decide))
    have o__law_tree := ok_law_tree (P := P) (w := w) (base := base) B D__law_tree (o__law_pull.mono (by decide)) (o__law_of.mono (by decide)) (o__law_count.mono (by decide)) (o__law_parts.mono (by decide))
    have o__law_small_scan := ok_law_small_scan (P := P) (w := w) (base := base) B D__law_small_scan (o__law_divisors.mono (by decide)) ((o__law_tree 3).mono (by decide))
    have o_law := ok_law (P := P) (w := w) (base := base) B S F (o__law_bag.mono (by decide)) (o__law_pull.mono (by decide)) (o__law_small_scan.mono (by decide)) (o__law_looks.mono (by decide)) (o_init.mono (by decide)) (o_waves.mono (by decide)) (o_wave_count.mono (by decide)) (o_wave_chain.mono (by decide)) (o_chain_waves.mono (by decide))
    exact o_law
  exact ⟨fd, fun s v => b s [v] rfl, fun base _ _ => key base⟩
end Lk

open PySem PySem.W PySem.Calls PyProof.Rows
theorem PySem.Challenge.cw_lookscan_k73_whole_wider_boxes_need_no_f_holds : PySem.Challenge.rw_lookscan_k73_whole_wider_boxes_need_no_f.Holds := by
  w_on; o_law
  refine HandSHeadRun.head_any (r := OpenLaw.row PySem.Challenge.rw_lookscan_k73_whole_wider_boxes_need_no_f) (q := view (OpenLaw.row PySem.Challenge.rw_lookscan_k73_whole_wider_boxes_need_no_f).prog [66]) (H := Lk.hkL) (ob := Lk.obL) (M := 6000) (loose := Lk.nmsL) (d := HandSHeadRun.topDef (OpenLaw.row PySem.Challenge.rw_lookscan_k73_whole_wider_boxes_need_no_f).prog 66) (kwd := []) Lk.obL_eq
    (by kernel_rfl) (fun s => by kernel_rfl) Lk.runL (by kernel_rfl) (by kernel_rfl) (by kernel_rfl) (by rfl) (by first | assumption | decide +kernel) (by decide +kernel) ⟨rfl, rfl, rfl, rfl, rfl, by decide +kernel⟩ ?hw ?hc
  case hw => w_witness2
  case hc =>
    refine L2.walk_ofE (l := PySem.Challenge.rw_lookscan_k73_whole_wider_boxes_need_no_f) (n := 63) (k := 11) (x := "_law_script") (CX := L2.CX0) rfl (by decide) (by kernel_rfl) ⟨rfl, by decide, by decide⟩ ?F (fun _ _ _ _ z => z)
    intro w mg fa h Y G hmg0
    obtain ⟨K, KX, c⟩ := Y
    have hmg : mg ("law" : PySem.Str) = some (.ref fa) := by
      have e : (HandSHeadRun.topDef (OpenLaw.row PySem.Challenge.rw_lookscan_k73_whole_wider_boxes_need_no_f).prog 66).name = ("law" : PySem.Str) := by kernel_rfl
      rw [← e]
      exact hmg0
    obtain ⟨fd, hb, hF⟩ := Lk.factsL (P := (PySem.Challenge.rw_lookscan_k73_whole_wider_boxes_need_no_f).prog) (w := w) KX G hmg c
    exact ⟨K, fd, Lk.spLaw K, KX, hb, fun H a ns hl _ hS => ⟨a, ns, rfl, hS, fun _ => rfl⟩, hF⟩

