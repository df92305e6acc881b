import PyProof.Rows.All
import Wide.All
import OpenK.AllK
import Wide.FinOn
import HandS.ForMost
import HandS.Wide
import PyProof.CollectIter
import HandS.IsInst
import HandS.Zip
import HandS.DictComp
import HandS.SetKeys
import HandS.DeepEq
import HandS.TupMul
import HandS.TupAny
import HandS.NoneIn
import HandS.Style
import HandS.Evl
import HandS.Walk
import PyProof.NeKinds
import HandS.ListEq
import PySem.Challenge.RW_trayworks_k05_acts_known_by_hand
set_option Elab.async false
set_option linter.all false
set_option maxRecDepth 100000
set_option maxHeartbeats 4000000
/-! own words: a callee as one fact, the tape of draws -/
namespace Tw
open PySem PySem.Spec PyProof.Rows L2
/-- a def of the top, by its name: it stands there, and keeps its promise at level k -/
structure Cal (P : Program) (w : World) (K : PySem.W.Frag) (mg : Str → Option Value) (base : Heap) (x : Str) (k : Nat) (ps : List Str) (sp : Sp) : Prop where
  ex : ∃ (f : Addr) (fd : FuncData), FnOk P w K mg base CX0 k f fd ps sp ∧ mg x = some (.ref f) ∧ PySem.W.keepIn K (.ref f) = true ∧ Binds K fd ps []
section
variable {X : Cx} {x : Str} {j k : Nat} {ps : List Str} {sp : Sp} {e : Expr} {es : List Expr} {t : TA} {p pos : Pos}
theorem pe_c (C : Cal X.prog X.w X.K X.mg X.base x k ps sp) (hr : Room j X.A) (hk : k ≤ j := by decide) (hg : Gl X x := by rfl) (ha : PA X (e :: es) t)
    (hdb : (x == ("__debug__" : Str)) = false := by decide) (he : starEach (e :: es) X.env = (false, eval e X.env) :: starEach es X.env := by rfl) (hpl : (backTo pos (starEach es X.env)).any (·.1) = false := by rfl) :
    PE X (.Call (.Name x p) (e :: es) [] pos) (tCall sp [] E0 t) := by
  obtain ⟨f, fd, F, hm, hkp, hb⟩ := C.ex
  exact pe_call F (hr.mono hk) hg hm hkp hb .nil pass0 ha hdb he hpl
end
section
variable {X : Cx}
/-- a % b told by a letter and its bounds -/
def rModA : R2 := fun x y H Q => ∃ i j : Int, x = .int i ∧ y = .int j ∧ 0 < j ∧ ∀ o : Int, 0 ≤ o → o < j → o = i % j → Q (.int o) H
theorem op_modA : OpR X (binaryOp .Mod) rModA := fun pins s σ H x y u v Q I rx ry h => by
  obtain ⟨i, j, e1, e2, hj, q⟩ := h
  exact op_mod pins s σ H x y u v Q I rx ry ⟨i, j, e1, e2, hj, q _ (Int.emod_nonneg _ (by omega)) (Int.emod_lt_of_pos _ hj) rfl⟩
end
/-- the tape of draws at t, good for n draws more -/
def Tape (H : Hp) (t : Addr) (n : Nat) : Prop := ∃ a b c : Int, H t = some (.lst [.int a, .int b, .int c]) ∧ 0 ≤ b ∧ b < 4611686018427387904 ∧ 0 ≤ c ∧ c + (n : Int) ≤ 1000000000000
/-- all that was tracked stands, but for t -/
def Kp (t : Addr) (H H' : Hp) : Prop := ∀ b o, b ≠ t → H b = some o → H' b = some o
theorem Kp.refl (t : Addr) (H : Hp) : Kp t H H := fun _ _ _ h => h
theorem Kp.trans {t : Addr} {H H1 H2 : Hp} (a : Kp t H H1) (b : Kp t H1 H2) : Kp t H H2 := fun c o n h => b c o n (a c o n h)
theorem Kp.set {t : Addr} {H : Hp} {o : HO} : Kp t H (upd H t o) := fun b u n h => by
  rw [upd_ne n]
  exact h
theorem Kp.new {t p : Addr} {H : Hp} {o : HO} (h : H p = none) : Kp t H (upd H p o) := fun b u _ e => by
  rw [upd_ne (ne_of_none e h)]
  exact e
theorem Tape.mono {H : Hp} {t : Addr} {n m : Nat} (h : Tape H t n) (l : m ≤ n) : Tape H t m := by
  obtain ⟨a, b, c, e, h1, h2, h3, h4⟩ := h
  exact ⟨a, b, c, e, h1, h2, h3, by omega⟩
/-- a draw: below m, the tape alone changes -/
def spDraw : Sp := fun vs H Q _ => ∃ (t : Addr) (m : Int) (n : Nat), vs = [.ref t, .int m] ∧ 0 < m ∧ m < 1073741824 ∧ Tape H t (n + 1) ∧
  ∀ (i : Int) H', 0 ≤ i → i < m → Kp t H H' → Tape H' t n → Q (.int i) H'
end Tw

/-! word, *rest = a tuple -/
namespace Tw
open PySem PySem.Spec PyProof.Rows L2
theorem walksShift {prog : Program} {w : World} {A : Around} {I : Addr} {fp wr : List Addr} {G : Array GenState → Array GenState → Prop} {n : Nat} {P : Nat → Value → Prop} {St : Nat → Shared → Prop}
    (W : WalksS prog w A I fp wr G (n + 1) P St) : WalksS prog w A I fp wr G n (fun i v => P (i + 1) v) (fun i s => St (i + 1) s) where
  sub := W.sub
  grefl := W.grefl
  gtrans := W.gtrans
  frame := fun i s h' tk st ht hk => W.frame (i + 1) s h' tk st ht hk
  item := fun i s Q E hi st hQ => W.item (i + 1) s Q E (by omega) st hQ
  done := fun s Q E st hQ => W.done s Q E st hQ
  self := fun i s Q E st hQ => W.self (i + 1) s Q E st hQ
section
variable {prog : Program} {w : World} {A : Around} {E : Value → Shared → Prop} {s : Shared}
theorem unpackItems_star {t : Addr} {x : Value} {xs : List Value} {Q : List Value → Shared → Prop} (hh : A.handled = none) (ht : IsTup s.heap t (x :: xs).toArray) (hz : xs.length ≤ sizeLine)
    (hQ : ∀ (h1 : Heap) (tk : Nat), (∀ b o, s.heap.get? b = some o → h1.get? b = some o) → Q [x, .ref h1.objs.size] { s with heap := h1.push { cls := .type "list", data := .seq xs.toArray }, toks := tk }) :
    wpAny (model prog w) A (unpackItems (.ref t) 2 (some 1)) Q E s := by
  have hlt : t ≠ s.heap.objs.size := by obtain ⟨o, ho, _⟩ := ht; exact Nat.ne_of_lt (Heap.lt_size ho)
  unfold unpackItems
  refine wpAny_bind ?_
  unfold notIterableAtAll
  refine wpAny_bind (wpAny_specialOf ht.typeIs slot_tuple_iter.lookup ?_)
  refine wpAny_pure ?_
  simp only [Bool.false_eq_true, if_false]
  refine wpAny_bind (wpAny_holding (iter_tuple ht ?_))
  refine wpAny_bind (wpAny_holding (draw_tuple hlt 1 0 _ _ ⟨_, Heap.get?_push_size _ rfl, rfl, rfl⟩ (ht.push _) (by simp) fun h₁ hit₁ hs₁ => ?_))
  have e1 : List.take 1 (List.drop 0 (x :: xs).toArray.toList) = [x] := by simp
  rw [e1, if_neg (by simp)]
  have ht₁ : IsTup h₁ t (x :: xs).toArray := (ht.push _).extBut hs₁.extBut hlt
  have hA : A.in1.handled = none := hh
  have W := walksShift (n := xs.length) (Walks.toS (Walks.tuple (prog := prog) (w := w) hA s.heap.objs.size t hlt (x :: xs).toArray))
  have hI : s.heap.objs.size < h₁.objs.size := by obtain ⟨o, ho, _⟩ := hit₁; exact Heap.lt_size ho
  have ht2 : t < h₁.objs.size := ht₁.lt
  refine wpAny_bind (wpAny_holding (wpAny_collect_iter (T := "tuple_iterator") (.inr (.inr (.inr rfl))) W (fun i s st => ?_) ?_ ?_ (by simp) (fun s' acc hm hacc => ?_) hz))
  · obtain ⟨⟨o, ho, hc, _⟩, _⟩ := st
    exact ⟨o, ho, hc⟩
  · exact ⟨hit₁, ht₁⟩
  · intro b hb
    simp at hb
    rcases hb with rfl | rfl
    · exact hI
    · exact ht2
  · have ea : acc.toList = xs := by
      refine List.ext_getElem? fun j => ?_
      cases hj : acc.toList[j]? with
      | none =>
        have h1 : acc.toList.length ≤ j := List.getElem?_eq_none_iff.mp hj
        have h2 := hacc.1
        rw [← Array.length_toList] at h2
        exact (List.getElem?_eq_none_iff.mpr (by omega)).symm
      | some v =>
        have h1 := hacc.2 j v (by rw [← Array.getElem?_toList]; exact hj)
        have h2 : (x :: xs)[j + 1]? = some v := by simpa using h1
        rw [← h2]
        rfl
    rw [ea]

    rw [if_neg (by omega)]
    have e2 : 2 - 1 - 1 = 0 := rfl
    have e3 : xs.take (xs.length - (2 - 1 - 1)) = xs := by rw [e2, Nat.sub_zero]; exact List.take_length
    have e4 : xs.drop (xs.length - (2 - 1 - 1)) = [] := by rw [e2, Nat.sub_zero]; exact List.drop_length
    rw [e3, e4]
    have hg : s'.gens = s.gens := hm.gens
    refine wpAny_bind (wpAny_newList (wpAny_pure ?_) (by first | size_fits | exact hz))
    have hk : ∀ b o, s.heap.get? b = some o → s'.heap.get? b = some o := fun b o e => by
      have hb : b ≠ s.heap.objs.size := Nat.ne_of_lt (Heap.lt_size e)
      exact hm.heap b o (by simpa using hb) (hs₁.extBut b o hb (Heap.get?_push_of_some _ e))
    have q := hQ s'.heap s'.toks hk
    have es : ({ s with heap := s'.heap.push { cls := .type "list", data := .seq xs.toArray }, toks := s'.toks } : Shared) = { s' with heap := s'.heap.push { cls := .type "list", data := .seq xs.toArray } } := by
      have h1 := hm.drawn
      have h2 := hm.os
      cases s' with
      | mk hp g d tk os =>
        cases s with
        | mk hp0 g0 d0 tk0 os0 =>
          dsimp only at h1 h2 hg ⊢
          subst h1 h2 hg
          rfl
    rw [es] at q
    exact q
end
section
variable {X : Cx} {pos : Pos}
/-- a, *r = a tuple of one at least: r a new list of the others -/
def gStar (K : PySem.W.Frag) (i j : Nat) : TG := fun v σ H Q => ∃ a x xs, v = .ref a ∧ SqT K H a (x :: xs) ∧ ∀ p, H p = none → Q ((σ.set i (some x)).set j (some (.ref p))) (upd H p (.lst xs))
theorem pg_star {i j : Nat} {x y : Str} {px py ps : Pos} {k : Nat} (hc : X.calm = true) (hN : X.N.Nodup) (hi : X.N[i]? = some x) (hj : X.N[j]? = some y) (hx : Loc X.env.scope x) (hy : Loc X.env.scope y)
    (hfx : X.fn x = true ∨ X.env.scope.names.lookup x = some .local := by first | exact .inl rfl | exact .inr rfl | assumption) (hfy : X.fn y = true ∨ X.env.scope.names.lookup y = some .local := by first | exact .inl rfl | exact .inr rfl | assumption) :
    PG X (.Tuple [.Name x px, .Starred (.Name y py) ps] k pos) (gStar X.K i j) := by
  refine ⟨fun pins s σ H v u Q I r hw => ?_⟩
  obtain ⟨a, x0, xs, e1, hq, hw⟩ := hw
  subst e1
  cases r
  obtain ⟨its, rv, ht, hz⟩ := I.tuple hq
  cases rv with
  | cons rx rr =>
    rename_i ux us
    have hzu : us.length ≤ sizeLine := by
      have := rr.length
      rw [List.length_cons] at hz
      omega
    rw [PyProof.Rows.assign_Tuple]
    refine wpAny_bind (wpAny_standAt ?_)
    unfold unpack
    show wpAny _ _ (holding [Value.ref a] (unpackItems (.ref a) 2 (some 1)) >>= fun vs => assignInOrder [assign (.Name x px) X.env, assign (.Name y py) X.env] vs) _ _ s
    refine wpAny_bind (wpAny_holding (unpackItems_star (I.ok.hd hc) ht hzu fun h1 tk hk => ?_))
    have I1 : Inv X pins σ H { s with heap := h1, toks := tk } := I.kept hk
    have I2 : Inv X pins σ (upd H h1.objs.size (.lst xs)) { s with heap := h1.push { cls := .type "list", data := .seq us.toArray }, toks := tk } :=
      I1.laid (t' := tk) (fun b o e => Heap.get?_push_of_some _ e) (Nat.le_refl _) ⟨by rw [rr.length]; exact hzu, us, _, rr, Heap.get?_push_size _ rfl⟩
    have hn : H h1.objs.size = none := I1.hok.fresh (Nat.le_refl _)
    refine assignInOrder_cons (thn ((pg_name (pos := px) hN hi hx hfx).run pins _ σ _ x0 ux _ I2 rx (show gName i x0 σ _ (fun σ' H' => σ' = σ.set i (some x0) ∧ H' = upd H h1.objs.size (.lst xs)) from ⟨rfl, rfl⟩)) fun _ s3 ⟨σ3, H3, I3, q3⟩ => ?_)
    obtain ⟨rfl, rfl⟩ := q3
    refine assignInOrder_cons (thn ((pg_name (pos := py) hN hj hy hfy).run pins _ _ _ (.ref h1.objs.size) _ _ I3 rfl (show gName j (.ref h1.objs.size) _ _ (fun σ' H' => Q σ' H') from hw _ hn)) fun _ s4 q4 => ?_)
    exact assignInOrder_nil q4
end
end Tw

namespace Tw
open PySem PySem.Spec PyProof.Rows L2
/-- the built-in names that the top leaves alone -/
structure Bl (mg : Str → Option Value) : Prop where
  len : mg "len" = none
  abs : mg "abs" = none
  int : mg "int" = none
  list : mg "list" = none
  tuple : mg "tuple" = none
  str : mg "str" = none
  bool : mg "bool" = none
  range : mg "range" = none
  enumerate : mg "enumerate" = none
  zip : mg "zip" = none
  all : mg "all" = none
  isinstance : mg "isinstance" = none
/-! ### data -/
def tyN : PyData → String
  | .none => "NoneType" | .bool _ => "bool" | .int _ => "int" | .str _ => "str" | .list _ => "list" | .tuple _ => "tuple" | .dict _ => "dict"
/-- data of at most so many storeys, without dicts, no part longer than 100000 -/
def okD : Nat → PyData → Prop
  | _, .none => True | _, .bool _ => True | _, .int _ => True | _, .str _ => True
  | 0, .list _ => False | 0, .tuple _ => False | _, .dict _ => False
  | n + 1, .list ds => ds.length ≤ 100000 ∧ ∀ d ∈ ds, okD n d
  | n + 1, .tuple ds => ds.length ≤ 100000 ∧ ∀ d ∈ ds, okD n d
theorem same_sqt {K : PySem.W.Frag} {H H' : Hp} {a : Addr} {xs : List V} (e : Same H H') (h : SqT K H a xs) : SqT K H' a xs := by
  rcases h with (h | ⟨o, h⟩) | h
  · exact .inl (.inl (e _ _ h))
  · exact .inl (.inr ⟨o, e _ _ h⟩)
  · exact .inr h
theorem same_new {H : Hp} {p : Addr} {o : HO} (h : H p = none) : Same H (upd H p o) := fun b x e => by
  rw [upd_ne (ne_of_none e h)]
  exact e
/-- an object that H does not know may change -/
theorem same_mut {H H' : Hp} {p : Addr} {o : HO} (e : Same H H') (h : H p = none) : Same H (upd H' p o) := fun a u ha => by
  rw [upd_ne (ne_of_none ha h)]
  exact e a u ha
mutual
theorem dp_mono {K : PySem.W.Frag} {H H' : Hp} (e : Same H H') : ∀ {v : V} {d : PyData}, Dp K H v d → Dp K H' v d
  | _, _, .non => .non
  | _, _, .bl b => .bl b
  | _, _, .int i => .int i
  | _, _, .str x => .str x
  | _, _, .lst h a => .lst (e.seq h) (dpa_mono e a)
  | _, _, .tup h a => .tup (same_sqt e h) (dpa_mono e a)
theorem dpa_mono {K : PySem.W.Frag} {H H' : Hp} (e : Same H H') : ∀ {vs : List V} {ds : List PyData}, DpAll K H vs ds → DpAll K H' vs ds
  | _, _, .nil => .nil
  | _, _, .cons h a => .cons (dp_mono e h) (dpa_mono e a)
end
theorem dpa_len {K : PySem.W.Frag} {H : Hp} : ∀ {vs : List V} {ds : List PyData}, DpAll K H vs ds → vs.length = ds.length
  | _, _, .nil => rfl
  | _, _, .cons _ a => congrArg Nat.succ (dpa_len a)
theorem dpa_get {K : PySem.W.Frag} {H : Hp} : ∀ {vs : List V} {ds : List PyData} {i : Nat} {v : V}, DpAll K H vs ds → vs[i]? = some v → ∃ d, ds[i]? = some d ∧ Dp K H v d
  | _, _, _, _, .nil, e => by simp at e
  | _, _, 0, _, .cons h _, e => by
    simp at e
    subst e
    exact ⟨_, rfl, h⟩
  | _, _, i + 1, v, .cons _ a, e => by
    obtain ⟨d, h1, h2⟩ := dpa_get (i := i) (v := v) a (by simpa using e)
    exact ⟨d, by simpa using h1, h2⟩
theorem sqL_ty {K : PySem.W.Frag} {H : Hp} {a : Addr} {xs : List V} (h : SqL K H a xs) : TyX K H (.ref a) (.type "list") := by
  rcases h with (h | ⟨o, h⟩) | ⟨o, its, n, h, hc, _⟩
  · exact .base (.lst h)
  · exact .base (.frz h)
  · exact .kList h hc
theorem sqT_ty {K : PySem.W.Frag} {H : Hp} {a : Addr} {xs : List V} (h : SqT K H a xs) : TyX K H (.ref a) (.type "tuple") := by
  rcases h with (h | ⟨o, h⟩) | ⟨o, its, n, h, hc, _⟩
  · exact .base (.tup h)
  · exact .fTuple h
  · exact .kTuple h hc
theorem any2 {K : PySem.W.Frag} {t a b : String} {x y : Bool} (h1 : kitB t a = some x) (h2 : kitB t b = some y) : PySem.W.kitAny K (.type t) [.type a, .type b] = some (x || y) := by
  refine kitAny_cons (kit_ty h1) (fun e => ?_) (fun e => by rw [e]; rfl)
  subst e
  refine kitAny_cons (kit_ty h2) (fun e => ?_) (fun e => by rw [e]; rfl)
  subst e
  exact kitAny_nil
/-! ### a comprehension over zip -/
theorem lc_zipL {K : PySem.W.Frag} {a b : Addr} {xs ys : List V} {g : TG} {tt : TT} {te : TE} {vs : List Nat} {σ : L2.St} {H1 : Hp} {D : Addr} {Qd : Hp → Prop} (hl : xs.length = ys.length) (Pv : Nat → Hp → Prop) (h0 : Pv 0 (upd H1 D (.lst []))) (hq : ∀ i H, Pv i H → SqL K H a xs ∧ SqL K H b ys)
    (hs : ∀ (i : Nat) (x y : V) (T : Addr) (H : Hp), xs[i]? = some x → ys[i]? = some y → Pv i H → H T = none → g (.ref T) (wipe σ vs) (upd H T (.tup [x, y])) fun σ2 H2 => wipe σ2 vs = wipe σ vs ∧ tt σ2 H2 fun b H3 =>
      if b = true then te σ2 H3 fun y H4 => ∃ acc, H4 D = some (.lst acc) ∧ acc.length < sizeLine ∧ Pv (i + 1) (upd H4 D (.lst (acc ++ [y]))) else Pv (i + 1) H3) (hd : ∀ H, Pv xs.length H → Qd H) :
    ∃ W : Nat → Nat → Hp → Prop, (∃ m, W 0 m (upd H1 D (.lst []))) ∧ ∀ i m H, W i m H →
      ((Itz K a b).stop i H ∧ Qd H) ∨ ((Itz K a b).go i H ∧ ∃ Nx : Hp → Prop, (∀ H', Nx H' → ∃ m', m' < m ∧ W (i + 1) m' H') ∧ ∀ x H', (Itz K a b).yld i H x H' → g x (wipe σ vs) H' fun σ2 H2 => wipe σ2 vs = wipe σ vs ∧ tt σ2 H2 fun b H3 =>
        if b = true then te σ2 H3 fun y H4 => ∃ acc, H4 D = some (.lst acc) ∧ acc.length < sizeLine ∧ Nx (upd H4 D (.lst (acc ++ [y]))) else Nx H3) := by
  refine ⟨fun i m H => m = xs.length - i ∧ i ≤ xs.length ∧ Pv i H, ⟨xs.length, rfl, Nat.zero_le _, h0⟩, ?_⟩
  rintro i m H ⟨rfl, hi, p⟩
  obtain ⟨qx, qy⟩ := hq i H p
  by_cases hlt : i < xs.length
  · have hx : xs[i]? = some xs[i] := List.getElem?_eq_getElem hlt
    have hlt2 : i < ys.length := by omega
    have hy : ys[i]? = some ys[i] := List.getElem?_eq_getElem hlt2
    refine .inr ⟨⟨xs, ys, _, _, qx, qy, hx, hy⟩, Pv (i + 1), fun H' p' => ⟨xs.length - (i + 1), by omega, rfl, hlt, p'⟩, fun v H' y => ?_⟩
    obtain ⟨T, x', y', rfl, hT, rfl, f1, f2⟩ := y
    exact hs i x' y' T H (f1 xs qx) (f2 ys qy) p hT
  · have e : i = xs.length := by omega
    subst e
    exact .inl ⟨⟨xs, ys, qx, qy, Or.inl (Nat.le_refl _)⟩, hd H p⟩
theorem lc_zipT {K : PySem.W.Frag} {a b : Addr} {xs ys : List V} {g : TG} {tt : TT} {te : TE} {vs : List Nat} {σ : L2.St} {H1 : Hp} {D : Addr} {Qd : Hp → Prop} (hl : xs.length = ys.length) (Pv : Nat → Hp → Prop) (h0 : Pv 0 (upd H1 D (.lst []))) (hq : ∀ i H, Pv i H → SqT K H a xs ∧ SqT K H b ys)
    (hs : ∀ (i : Nat) (x y : V) (T : Addr) (H : Hp), xs[i]? = some x → ys[i]? = some y → Pv i H → H T = none → g (.ref T) (wipe σ vs) (upd H T (.tup [x, y])) fun σ2 H2 => wipe σ2 vs = wipe σ vs ∧ tt σ2 H2 fun b H3 =>
      if b = true then te σ2 H3 fun y H4 => ∃ acc, H4 D = some (.lst acc) ∧ acc.length < sizeLine ∧ Pv (i + 1) (upd H4 D (.lst (acc ++ [y]))) else Pv (i + 1) H3) (hd : ∀ H, Pv xs.length H → Qd H) :
    ∃ W : Nat → Nat → Hp → Prop, (∃ m, W 0 m (upd H1 D (.lst []))) ∧ ∀ i m H, W i m H →
      ((RZ.ItzT K a b).stop i H ∧ Qd H) ∨ ((RZ.ItzT K a b).go i H ∧ ∃ Nx : Hp → Prop, (∀ H', Nx H' → ∃ m', m' < m ∧ W (i + 1) m' H') ∧ ∀ x H', (RZ.ItzT K a b).yld i H x H' → g x (wipe σ vs) H' fun σ2 H2 => wipe σ2 vs = wipe σ vs ∧ tt σ2 H2 fun b H3 =>
        if b = true then te σ2 H3 fun y H4 => ∃ acc, H4 D = some (.lst acc) ∧ acc.length < sizeLine ∧ Nx (upd H4 D (.lst (acc ++ [y]))) else Nx H3) := by
  refine ⟨fun i m H => m = xs.length - i ∧ i ≤ xs.length ∧ Pv i H, ⟨xs.length, rfl, Nat.zero_le _, h0⟩, ?_⟩
  rintro i m H ⟨rfl, hi, p⟩
  obtain ⟨qx, qy⟩ := hq i H p
  by_cases hlt : i < xs.length
  · have hx : xs[i]? = some xs[i] := List.getElem?_eq_getElem hlt
    have hlt2 : i < ys.length := by omega
    have hy : ys[i]? = some ys[i] := List.getElem?_eq_getElem hlt2
    refine .inr ⟨⟨xs, ys, _, _, qx, qy, hx, hy⟩, Pv (i + 1), fun H' p' => ⟨xs.length - (i + 1), by omega, rfl, hlt, p'⟩, fun v H' y => ?_⟩
    obtain ⟨T, x', y', rfl, hT, rfl, f1, f2⟩ := y
    exact hs i x' y' T H (f1 xs qx) (f2 ys qy) p hT
  · have e : i = xs.length := by omega
    subst e
    exact .inl ⟨⟨xs, ys, qx, qy, Or.inl (Nat.le_refl _)⟩, hd H p⟩
/-- two things that are the same data, of at most n storeys: True -/
def spSame (K : PySem.W.Frag) (n : Nat) : Sp := fun vs H Q _ => ∃ (x y : V) (d : PyData), vs = [x, y] ∧ Dp K H x d ∧ Dp K H y d ∧ okD n d ∧ ∀ H', Same H H' → Q (.bl true) H'
end Tw

/-! codes done on a pile: the plain law -/
namespace Tw
open PySem PySem.Spec PyProof.Rows L2
/-- pile: the top first -/
structure DS where
  pile : List Int
  kept : List Int
  taken : List (Str × List Int)
  given : List (Str × List Int)
inductive Act where
  | take (t : Str) | give (t : Str) | num (n : Int) | keep (k : Nat) | kept (k : Nat) | wrd (w : Str)
def lk (es : List (Str × List Int)) (t : Str) : Option (List Int) := (es.find? fun e => decide (e.1 = t)).map (·.2)
def stE (es : List (Str × List Int)) (t : Str) (ns : List Int) : List (Str × List Int) := es.map fun e => if e.1 = t then (e.1, ns) else e
def pushE (es : List (Str × List Int)) (t : Str) (x : Int) : List (Str × List Int) := match lk es t with
  | some ns => stE es t (ns ++ [x])
  | none => es ++ [(t, [x])]
def reck (w : Str) (a b : Int) : Option Int :=
  if w = "below" then some (if a < b then 1 else 0) else if w = "plus" then some ((a + b) % 1000000) else if w = "less" then some ((a - b) % 1000000) else if w = "times" then some (a * b % 1000000) else none
def wstep (w : Str) (p : List Int) : Option (List Int) :=
  if w = "drop" then (match p with | _ :: r => some r | _ => none)
  else if w = "twice" then (match p with | b :: r => some (b :: b :: r) | _ => none)
  else if w = "swap" then (match p with | b :: a :: r => some (a :: b :: r) | _ => none)
  else if w = "pick" then (match p with | b :: a :: c :: r => some ((if c ≠ 0 then a else b) :: r) | _ => none)
  else match p with | b :: a :: r => (reck w a b).map (· :: r) | _ => none
def step (s : DS) : Act → Option DS
  | .take t => match lk s.taken t with | some (x :: r) => some { s with pile := x :: s.pile, taken := stE s.taken t r } | _ => none
  | .num n => some { s with pile := n :: s.pile }
  | .kept k => match s.kept[k]? with | some x => some { s with pile := x :: s.pile } | none => none
  | .give t => match s.pile with | x :: r => some { s with pile := r, given := pushE s.given t x } | [] => none
  | .keep k => match s.pile with | x :: r => if k < s.kept.length then some { s with pile := r, kept := s.kept.set k x } else none | [] => none
  | .wrd w => match wstep w s.pile with | some p => some { s with pile := p } | none => none
def runA : DS → List Act → Option DS
  | s, [] => some s
  | s, a :: r => match step s a with | some s' => runA s' r | none => none
theorem runA_snoc : ∀ (as : List Act) (s s' : DS) (a : Act), runA s as = some s' → runA s (as ++ [a]) = step s' a
  | [], s, s', a, h => by
    cases h
    show (match step s a with | some s' => runA s' [] | none => none) = step s a
    cases step s a <;> rfl
  | b :: r, s, s', a, h => by
    have h' : (match step s b with | some s' => runA s' r | none => none) = some s' := h
    show (match step s b with | some s' => runA s' (r ++ [a]) | none => none) = step s' a
    cases e : step s b with
    | none =>
      rw [e] at h'
      cases h'
    | some t =>
      rw [e] at h'
      exact runA_snoc r t s' a h'
/-- an ITEM -/
def it (x : Int) : Prop := 0 ≤ x ∧ x < 1000000
structure DS.Good (s : DS) : Prop where
  p : ∀ x ∈ s.pile, it x
  k : ∀ x ∈ s.kept, it x
  t : ∀ e ∈ s.taken, ∀ x ∈ e.2, it x
def ActGood : Act → Prop
  | .num n => it n
  | _ => True
/-- no part longer than n -/
structure DS.Bnd (s : DS) (n : Nat) : Prop where
  p : s.pile.length ≤ n
  g : s.given.length ≤ n
  e : ∀ e ∈ s.given, e.2.length ≤ n
theorem lk_mem {es : List (Str × List Int)} {t : Str} {ns : List Int} (h : lk es t = some ns) : (t, ns) ∈ es := by
  unfold lk at h
  cases e : es.find? (fun e => decide (e.1 = t)) with
  | none =>
    rw [e] at h
    cases h
  | some p =>
    rw [e] at h
    have h1 := List.mem_of_find?_eq_some e
    have h2 : p.1 = t := by
      have h0 := List.find?_some e
      simpa using h0
    have h3 : p.2 = ns := Option.some.inj h
    rw [← h2, ← h3]
    exact h1
theorem stE_mem {es : List (Str × List Int)} {t : Str} {ns : List Int} {e : Str × List Int} (h : e ∈ stE es t ns) : e ∈ es ∨ e.2 = ns := by
  unfold stE at h
  obtain ⟨e', h1, h2⟩ := List.mem_map.mp h
  by_cases c : e'.1 = t
  · rw [if_pos c] at h2
    rw [← h2]
    exact .inr rfl
  · rw [if_neg c] at h2
    rw [← h2]
    exact .inl h1
theorem reck_it {w : Str} {a b n : Int} (h : reck w a b = some n) : it n := by
  unfold reck at h
  split at h
  · cases h
    split
    · exact ⟨by decide, by decide⟩
    · exact ⟨by decide, by decide⟩
  · split at h
    · cases h
      exact ⟨by omega, by omega⟩
    · split at h
      · cases h
        exact ⟨by omega, by omega⟩
      · split at h
        · cases h
          exact ⟨Int.emod_nonneg _ (by decide), Int.emod_lt_of_pos _ (by decide)⟩
        · cases h
theorem wstep_it {w : Str} {p q : List Int} (h : wstep w p = some q) (hp : ∀ x ∈ p, it x) : ∀ x ∈ q, it x := by
  unfold wstep at h
  split at h
  · split at h
    · cases h
      exact fun x hx => hp x (List.mem_cons_of_mem _ hx)
    · cases h
  · split at h
    · split at h
      · cases h
        intro x hx
        rcases List.mem_cons.mp hx with rfl | hx
        · exact hp _ List.mem_cons_self
        · exact hp x hx
      · cases h
    · split at h
      · split at h
        · cases h
          intro x hx
          simp only [List.mem_cons] at hx hp
          rcases hx with rfl | rfl | hx
          · exact hp _ (.inr (.inl rfl))
          · exact hp _ (.inl rfl)
          · exact hp _ (.inr (.inr hx))
        · cases h
      · split at h
        · split at h
          · cases h
            intro x hx
            simp only [List.mem_cons] at hx hp
            rcases hx with rfl | hx
            · split
              · exact hp _ (.inr (.inl rfl))
              · exact hp _ (.inl rfl)
            · exact hp _ (.inr (.inr (.inr hx)))
          · cases h
        · split at h
          · rename_i b a r
            cases e : reck w a b with
            | none =>
              rw [e] at h
              cases h
            | some n =>
              rw [e] at h
              cases h
              intro x hx
              rcases List.mem_cons.mp hx with rfl | hx
              · exact reck_it e
              · exact hp x (List.mem_cons_of_mem _ (List.mem_cons_of_mem _ hx))
          · cases h
theorem wstep_len {w : Str} {p q : List Int} (h : wstep w p = some q) : q.length ≤ p.length + 1 := by
  unfold wstep at h
  split at h
  · split at h
    · cases h
      simp only [List.length_cons]
      omega
    · cases h
  · split at h
    · split at h
      · cases h
        simp only [List.length_cons]
        omega
      · cases h
    · split at h
      · split at h
        · cases h
          simp only [List.length_cons]
          omega
        · cases h
      · split at h
        · split at h
          · cases h
            simp only [List.length_cons]
            omega
          · cases h
        · split at h
          · rename_i b a r
            cases e : reck w a b with
            | none =>
              rw [e] at h
              cases h
            | some n =>
              rw [e] at h
              cases h
              simp only [List.length_cons]
              omega
          · cases h
theorem step_good {s s' : DS} {a : Act} (h : step s a = some s') (g : s.Good) (ga : ActGood a) : s'.Good := by
  cases a with
  | take t =>
    unfold step at h
    dsimp only at h
    split at h
    · rename_i x r e
      cases h
      have hm := lk_mem e
      refine ⟨fun y hy => ?_, g.k, fun e' he y hy => ?_⟩
      · rcases List.mem_cons.mp hy with rfl | hy
        · exact g.t _ hm _ List.mem_cons_self
        · exact g.p y hy
      · rcases stE_mem he with he | he
        · exact g.t e' he y hy
        · rw [he] at hy
          exact g.t _ hm y (List.mem_cons_of_mem _ hy)
    · cases h
  | num n =>
    cases h
    refine ⟨fun y hy => ?_, g.k, g.t⟩
    rcases List.mem_cons.mp hy with rfl | hy
    · exact ga
    · exact g.p y hy
  | kept k =>
    unfold step at h
    dsimp only at h
    split at h
    · rename_i x e
      cases h
      refine ⟨fun y hy => ?_, g.k, g.t⟩
      rcases List.mem_cons.mp hy with rfl | hy
      · exact g.k _ (List.mem_of_getElem? e)
      · exact g.p y hy
    · cases h
  | give t =>
    unfold step at h
    dsimp only at h
    split at h
    · rename_i x r e
      cases h
      exact ⟨fun y hy => g.p y (by rw [e]; exact List.mem_cons_of_mem _ hy), g.k, g.t⟩
    · cases h
  | keep k =>
    unfold step at h
    dsimp only at h
    split at h
    · rename_i x r e
      split at h
      · cases h
        refine ⟨fun y hy => g.p y (by rw [e]; exact List.mem_cons_of_mem _ hy), fun y hy => ?_, g.t⟩
        rcases List.mem_or_eq_of_mem_set hy with hy | rfl
        · exact g.k y hy
        · exact g.p _ (by rw [e]; exact List.mem_cons_self)
      · cases h
    · cases h
  | wrd w =>
    unfold step at h
    dsimp only at h
    split at h
    · rename_i p e
      cases h
      exact ⟨wstep_it e g.p, g.k, g.t⟩
    · cases h
theorem step_bnd {s s' : DS} {a : Act} {n : Nat} (h : step s a = some s') (b : s.Bnd n) : s'.Bnd (n + 1) := by
  have b0 := b.p
  have b1 := b.g
  have be : ∀ e ∈ s.given, e.2.length ≤ n + 1 := fun e he => Nat.le_succ_of_le (b.e e he)
  cases a with
  | take t =>
    unfold step at h
    dsimp only at h
    split at h
    · cases h
      exact ⟨by simp only [List.length_cons]; omega, by dsimp only; omega, be⟩
    · cases h
  | num m =>
    cases h
    exact ⟨by simp only [List.length_cons]; omega, by dsimp only; omega, be⟩
  | kept k =>
    unfold step at h
    dsimp only at h
    split at h
    · cases h
      exact ⟨by simp only [List.length_cons]; omega, by dsimp only; omega, be⟩
    · cases h
  | give t =>
    unfold step at h
    dsimp only at h
    split at h
    · rename_i x r e
      cases h
      rw [e, List.length_cons] at b0
      refine ⟨by dsimp only; omega, ?_, fun e' he => ?_⟩
      · dsimp only
        unfold pushE
        split
        · unfold stE
          rw [List.length_map]
          omega
        · rw [List.length_append, List.length_singleton]
          omega
      · dsimp only at he
        unfold pushE at he
        split at he
        · rename_i ns hl
          have h1 := b.e _ (lk_mem hl)
          rcases stE_mem he with he | he
          · exact be e' he
          · rw [he, List.length_append, List.length_singleton]
            dsimp only at h1
            omega
        · rcases List.mem_append.mp he with he | he
          · exact be e' he
          · rw [List.mem_singleton.mp he, List.length_singleton]
            omega
    · cases h
  | keep k =>
    unfold step at h
    dsimp only at h
    split at h
    · rename_i x r e
      rw [e, List.length_cons] at b0
      split at h
      · cases h
        exact ⟨by dsimp only; omega, by dsimp only; omega, be⟩
      · cases h
    · cases h
  | wrd w =>
    unfold step at h
    dsimp only at h
    split at h
    · rename_i p e
      cases h
      have := wstep_len e
      exact ⟨by dsimp only; omega, by dsimp only; omega, be⟩
    · cases h
end Tw

/-! a Doing in the heap -/
namespace Tw
open PySem PySem.Spec PyProof.Rows L2
/-- a dict of lists of numbers: its pairs, what they hold, where the lists lie -/
inductive Ents (H : Hp) : List (Key × V) → List (Str × List Int) → List Addr → Prop
  | nil : Ents H [] [] []
  | cons {s : Str} {a : Addr} {ns : List Int} {kvs : List (Key × V)} {es : List (Str × List Int)} {as : List Addr} : H a = some (.lst (ns.map V.int)) → Ents H kvs es as → Ents H ((Sum.inr s, .ref a) :: kvs) ((s, ns) :: es) (a :: as)
theorem ents_mono {H H' : Hp} : ∀ {kvs : List (Key × V)} {es : List (Str × List Int)} {as : List Addr}, Ents H kvs es as → (∀ a ∈ as, ∀ o, H a = some o → H' a = some o) → Ents H' kvs es as
  | _, _, _, .nil, _ => .nil
  | _, _, _, .cons h r, k => .cons (k _ List.mem_cons_self _ h) (ents_mono r fun a ha => k a (List.mem_cons_of_mem _ ha))
theorem ents_len {H : Hp} : ∀ {kvs : List (Key × V)} {es : List (Str × List Int)} {as : List Addr}, Ents H kvs es as → kvs.length = es.length ∧ as.length = es.length
  | _, _, _, .nil => ⟨rfl, rfl⟩
  | _, _, _, .cons _ r => ⟨congrArg Nat.succ (ents_len r).1, congrArg Nat.succ (ents_len r).2⟩
theorem lk_pos {es : List (Str × List Int)} {e : Str × List Int} {t : Str} (h : e.1 = t) : lk (e :: es) t = some e.2 := by simp [lk, List.find?_cons, h]
theorem lk_neg {es : List (Str × List Int)} {e : Str × List Int} {t : Str} (h : ¬ e.1 = t) : lk (e :: es) t = lk es t := by simp [lk, List.find?_cons, h]
theorem inr_ne {s t : Str} (h : ¬ s = t) : ¬ (Sum.inr s : Key) = Sum.inr t := fun e => h (Sum.inr.inj e)
theorem ents_none {H : Hp} {t : Str} : ∀ {kvs : List (Key × V)} {es : List (Str × List Int)} {as : List Addr}, Ents H kvs es as → (valV kvs (Sum.inr t : Key) = none ↔ lk es t = none)
  | _, _, _, .nil => ⟨fun _ => rfl, fun _ => rfl⟩
  | _, _, _, .cons (s := s) h r => by
    by_cases c : s = t
    · rw [valV_pos (by rw [c]), lk_pos c]
      exact ⟨fun z => (Option.some_ne_none _ z).elim, fun z => (Option.some_ne_none _ z).elim⟩
    · rw [valV_neg (inr_ne c), lk_neg c]
      exact ents_none r
/-- the list of a name -/
theorem ents_get {H : Hp} {t : Str} {ns : List Int} : ∀ {kvs : List (Key × V)} {es : List (Str × List Int)} {as : List Addr}, Ents H kvs es as → lk es t = some ns → ∃ a, valV kvs (Sum.inr t : Key) = some (.ref a) ∧ a ∈ as ∧ H a = some (.lst (ns.map V.int))
  | _, _, _, .nil, h => nomatch h
  | _, _, _, .cons (s := s) (a := a) h r, e => by
    by_cases c : s = t
    · rw [lk_pos c] at e
      cases e
      exact ⟨a, valV_pos (by rw [c]), List.mem_cons_self, h⟩
    · rw [lk_neg c] at e
      obtain ⟨b, h1, h2, h3⟩ := ents_get r e
      exact ⟨b, (valV_neg (inr_ne c)).trans h1, List.mem_cons_of_mem _ h2, h3⟩
/-- that list changed -/
theorem ents_set {H : Hp} {t : Str} {ns : List Int} {b : Addr} : ∀ {kvs : List (Key × V)} {es : List (Str × List Int)} {as : List Addr}, Ents H kvs es as → as.Nodup → (es.map (·.1)).Nodup → valV kvs (Sum.inr t : Key) = some (.ref b) →
    Ents (upd H b (.lst (ns.map V.int))) kvs (stE es t ns) as
  | _, _, _, .nil, _, _, _ => .nil
  | _, _, _, .cons (s := s) (a := a) (es := es) (as := as) h r, nd, nk, e => by
    have n1 := (List.nodup_cons.mp nd).1
    have n2 := (List.nodup_cons.mp nd).2
    rw [List.map_cons] at nk
    have k1 := (List.nodup_cons.mp nk).1
    have k2 := (List.nodup_cons.mp nk).2
    by_cases c : s = t
    · rw [valV_pos (by rw [c])] at e
      cases e
      have e2 : stE es t ns = es := by
        unfold stE
        refine (List.map_congr_left fun p hp => ?_).trans (List.map_id es)
        rw [if_neg (fun z => k1 (by rw [c, ← z]; exact List.mem_map.mpr ⟨p, hp, rfl⟩))]
        rfl
      show Ents _ _ ((if s = t then (s, ns) else _) :: stE es t ns) _
      rw [if_pos c, e2]
      refine .cons upd_same (ents_mono r fun x hx o ho => ?_)
      rw [upd_ne (fun z => n1 (by rw [← z]; exact hx))]
      exact ho
    · rw [valV_neg (inr_ne c)] at e
      show Ents _ _ ((if s = t then _ else (s, _)) :: stE es t ns) _
      rw [if_neg c]
      have hb : b ∈ as := by
        obtain ⟨ms, hm⟩ : ∃ ms, lk es t = some ms := by
          cases q : lk es t with
          | none =>
            rw [(ents_none r).mpr q] at e
            cases e
          | some ms => exact ⟨ms, rfl⟩
        obtain ⟨b', h1, h2, _⟩ := ents_get r hm
        rw [e] at h1
        cases h1
        exact h2
      refine .cons ?_ (ents_set r n2 k2 e)
      rw [upd_ne (fun z => n1 (by rw [z]; exact hb))]
      exact h
theorem ents_snoc {H : Hp} {t : Str} {ns : List Int} {b : Addr} (hb : H b = some (.lst (ns.map V.int))) : ∀ {kvs : List (Key × V)} {es : List (Str × List Int)} {as : List Addr}, Ents H kvs es as → Ents H (kvs ++ [(Sum.inr t, .ref b)]) (es ++ [(t, ns)]) (as ++ [b])
  | _, _, _, .nil => .cons hb .nil
  | _, _, _, .cons h r => .cons h (ents_snoc hb r)
theorem stE_keys (es : List (Str × List Int)) (t : Str) (ns : List Int) : (stE es t ns).map (·.1) = es.map (·.1) := by
  unfold stE
  rw [List.map_map]
  refine List.map_congr_left fun e _ => ?_
  show (if e.1 = t then (e.1, ns) else e).1 = e.1
  split <;> rfl
theorem pushE_nd {es : List (Str × List Int)} {t : Str} {x : Int} (h : (es.map (·.1)).Nodup) : ((pushE es t x).map (·.1)).Nodup := by
  unfold pushE
  split
  · rw [stE_keys]
    exact h
  · rename_i hl
    rw [List.map_append, List.map_singleton, List.nodup_append]
    refine ⟨h, by simp, fun a ha b hb => ?_⟩
    rw [List.mem_singleton.mp hb]
    rintro rfl
    obtain ⟨e, he, h2⟩ := List.mem_map.mp ha
    unfold lk at hl
    cases q : es.find? (fun e' => decide (e'.1 = e.1)) with
    | none =>
      have := List.find?_eq_none.mp q e he
      simp at this
    | some p =>
      rw [← h2, q] at hl
      cases hl
/-! ### the object -/
def flds (pl kp tk gv : Addr) : List (Str × V) := [("own_pile", .ref pl), ("own_kept", .ref kp), ("own_taken", .ref tk), ("own_given", .ref gv)]
theorem flds_pile {pl kp tk gv : Addr} : (flds pl kp tk gv).lookup ("own_pile" : Str) = some (V.ref pl) := rfl
theorem flds_kept {pl kp tk gv : Addr} : (flds pl kp tk gv).lookup ("own_kept" : Str) = some (V.ref kp) := rfl
theorem flds_taken {pl kp tk gv : Addr} : (flds pl kp tk gv).lookup ("own_taken" : Str) = some (V.ref tk) := rfl
theorem flds_given {pl kp tk gv : Addr} : (flds pl kp tk gv).lookup ("own_given" : Str) = some (V.ref gv) := rfl
theorem flds_made {pl kp tk gv : Addr} : putF "own_given" (.ref gv) (putF "own_taken" (.ref tk) (putF "own_kept" (.ref kp) (putF "own_pile" (.ref pl) []))) = flds pl kp tk gv := rfl
theorem flds_no1 {pl kp tk gv : Addr} : (flds pl kp tk gv).lookup ("come_on" : Str) = none := rfl
theorem flds_no2 {pl kp tk gv : Addr} : (flds pl kp tk gv).lookup ("go_off" : Str) = none := rfl
theorem flds_no3 {pl kp tk gv : Addr} : (flds pl kp tk gv).lookup ("reckon" : Str) = none := rfl
theorem flds_no4 {pl kp tk gv : Addr} : (flds pl kp tk gv).lookup ("do_act" : Str) = none := rfl
theorem flds_no5 {pl kp tk gv : Addr} : (flds pl kp tk gv).lookup ("told" : Str) = none := rfl
/-- a Doing at p, made behind H0 -/
structure DX (C : Addr) (H0 H : Hp) (p dx pl kp tk gv : Addr) (tks gvs : List (Key × V)) (ta ga : List Addr) (s : DS) : Prop where
  ob : H p = some (.ins C dx (flds pl kp tk gv))
  hp : H pl = some (.lst (s.pile.reverse.map V.int))
  hk : H kp = some (.lst (s.kept.map V.int))
  ht : H tk = some (.dK tks)
  hg : H gv = some (.dK gvs)
  et : Ents H tks s.taken ta
  eg : Ents H gvs s.given ga
  nd : (pl :: kp :: (ta ++ ga)).Nodup
  ntg : tk ≠ gv
  kt : (s.taken.map (·.1)).Nodup
  kg : (s.given.map (·.1)).Nodup
  fr : H0 p = none ∧ H0 pl = none ∧ H0 kp = none ∧ H0 tk = none ∧ H0 gv = none ∧ ∀ a ∈ ta ++ ga, H0 a = none
  sm : Same H0 H
section
variable {C : Addr} {H0 H : Hp} {p dx pl kp tk gv : Addr} {tks gvs : List (Key × V)} {ta ga : List Addr} {s : DS}
theorem ents_lst {H : Hp} {a : Addr} : ∀ {kvs : List (Key × V)} {es : List (Str × List Int)} {as : List Addr}, Ents H kvs es as → a ∈ as → ∃ ns, H a = some (.lst ns)
  | _, _, _, .nil, h => nomatch h
  | _, _, _, .cons h r, ha => by
    rcases List.mem_cons.mp ha with rfl | ha
    · exact ⟨_, h⟩
    · exact ents_lst r ha
/-- new things elsewhere -/
theorem DX.other {H' : Hp} (X : DX C H0 H p dx pl kp tk gv tks gvs ta ga s) (k : Same H H') : DX C H0 H' p dx pl kp tk gv tks gvs ta ga s :=
  ⟨k _ _ X.ob, k _ _ X.hp, k _ _ X.hk, k _ _ X.ht, k _ _ X.hg, ents_mono X.et fun a _ o h => k a o h, ents_mono X.eg fun a _ o h => k a o h, X.nd, X.ntg, X.kt, X.kg, X.fr, X.sm.trans k⟩
theorem lst_ne_ins {a b : Addr} {xs : List V} {fs : List (Str × V)} (h : H a = some (.lst xs)) (h' : H b = some (.ins C dx fs)) : b ≠ a := ne_of h' h (by intro z; cases z)
theorem lst_ne_dk {a b : Addr} {xs : List V} {ks : List (Key × V)} (h : H a = some (.lst xs)) (h' : H b = some (.dK ks)) : b ≠ a := ne_of h' h (by intro z; cases z)
theorem ins_ne_dk {a b : Addr} {fs : List (Str × V)} {ks : List (Key × V)} (h : H a = some (.dK ks)) (h' : H b = some (.ins C dx fs)) : b ≠ a := ne_of h' h (by intro z; cases z)
theorem DX.pile (X : DX C H0 H p dx pl kp tk gv tks gvs ta ga s) (xs : List Int) : DX C H0 (upd H pl (.lst (xs.reverse.map V.int))) p dx pl kp tk gv tks gvs ta ga { s with pile := xs } := by
  have n := List.nodup_cons.mp X.nd
  have nk : kp ≠ pl := fun z => n.1 (by rw [← z]; exact List.mem_cons_self)
  have na : ∀ a ∈ ta ++ ga, a ≠ pl := fun a ha z => n.1 (by rw [← z]; exact List.mem_cons_of_mem _ ha)
  refine ⟨?_, upd_same, ?_, ?_, ?_, ?_, ?_, X.nd, X.ntg, X.kt, X.kg, X.fr, same_mut X.sm X.fr.2.1⟩
  · rw [upd_ne (lst_ne_ins X.hp X.ob)]; exact X.ob
  · rw [upd_ne nk]; exact X.hk
  · rw [upd_ne (lst_ne_dk X.hp X.ht)]; exact X.ht
  · rw [upd_ne (lst_ne_dk X.hp X.hg)]; exact X.hg
  · refine ents_mono X.et fun a ha o h => ?_
    rw [upd_ne (na a (List.mem_append_left _ ha))]; exact h
  · refine ents_mono X.eg fun a ha o h => ?_
    rw [upd_ne (na a (List.mem_append_right _ ha))]; exact h
theorem DX.keep (X : DX C H0 H p dx pl kp tk gv tks gvs ta ga s) (xs : List Int) : DX C H0 (upd H kp (.lst (xs.map V.int))) p dx pl kp tk gv tks gvs ta ga { s with kept := xs } := by
  have n := List.nodup_cons.mp X.nd
  have m := List.nodup_cons.mp n.2
  have nk : pl ≠ kp := fun z => n.1 (by rw [z]; exact List.mem_cons_self)
  have na : ∀ a ∈ ta ++ ga, a ≠ kp := fun a ha z => m.1 (by rw [← z]; exact ha)
  refine ⟨?_, ?_, upd_same, ?_, ?_, ?_, ?_, X.nd, X.ntg, X.kt, X.kg, X.fr, same_mut X.sm X.fr.2.2.1⟩
  · rw [upd_ne (lst_ne_ins X.hk X.ob)]; exact X.ob
  · rw [upd_ne nk]; exact X.hp
  · rw [upd_ne (lst_ne_dk X.hk X.ht)]; exact X.ht
  · rw [upd_ne (lst_ne_dk X.hk X.hg)]; exact X.hg
  · refine ents_mono X.et fun a ha o h => ?_
    rw [upd_ne (na a (List.mem_append_left _ ha))]; exact h
  · refine ents_mono X.eg fun a ha o h => ?_
    rw [upd_ne (na a (List.mem_append_right _ ha))]; exact h
/-- a list within ta ++ ga is none of the others -/
theorem DX.apart (X : DX C H0 H p dx pl kp tk gv tks gvs ta ga s) {b : Addr} (hb : b ∈ ta ++ ga) : p ≠ b ∧ pl ≠ b ∧ kp ≠ b ∧ tk ≠ b ∧ gv ≠ b := by
  have n := List.nodup_cons.mp X.nd
  have m := List.nodup_cons.mp n.2
  obtain ⟨ns, hl⟩ : ∃ ns, H b = some (.lst ns) := by
    rcases List.mem_append.mp hb with h | h
    · exact ents_lst X.et h
    · exact ents_lst X.eg h
  exact ⟨lst_ne_ins hl X.ob, fun z => n.1 (by rw [z]; exact List.mem_cons_of_mem _ hb), fun z => m.1 (by rw [z]; exact hb), lst_ne_dk hl X.ht, lst_ne_dk hl X.hg⟩
theorem DX.took (X : DX C H0 H p dx pl kp tk gv tks gvs ta ga s) {t : Str} {b : Addr} (ns : List Int) (hv : valV tks (Sum.inr t : Key) = some (.ref b)) (hb : b ∈ ta) :
    DX C H0 (upd H b (.lst (ns.map V.int))) p dx pl kp tk gv tks gvs ta ga { s with taken := stE s.taken t ns } := by
  obtain ⟨a1, a2, a3, a4, a5⟩ := X.apart (List.mem_append_left ga hb)
  have n := (List.nodup_cons.mp (List.nodup_cons.mp X.nd).2).2
  obtain ⟨n1, n2, n3⟩ := List.nodup_append.mp n
  refine ⟨?_, ?_, ?_, ?_, ?_, ents_set X.et n1 X.kt hv, ?_, X.nd, X.ntg, ?_, X.kg, X.fr, same_mut X.sm (X.fr.2.2.2.2.2 b (List.mem_append_left _ hb))⟩
  · rw [upd_ne a1]; exact X.ob
  · rw [upd_ne a2]; exact X.hp
  · rw [upd_ne a3]; exact X.hk
  · rw [upd_ne a4]; exact X.ht
  · rw [upd_ne a5]; exact X.hg
  · refine ents_mono X.eg fun a ha o h => ?_
    rw [upd_ne (fun z => n3 b hb a ha z.symm)]; exact h
  · show ((stE s.taken t ns).map (·.1)).Nodup
    rw [stE_keys]; exact X.kt
theorem DX.gave (X : DX C H0 H p dx pl kp tk gv tks gvs ta ga s) {t : Str} {b : Addr} (ns : List Int) (hv : valV gvs (Sum.inr t : Key) = some (.ref b)) (hb : b ∈ ga) :
    DX C H0 (upd H b (.lst (ns.map V.int))) p dx pl kp tk gv tks gvs ta ga { s with given := stE s.given t ns } := by
  obtain ⟨a1, a2, a3, a4, a5⟩ := X.apart (List.mem_append_right ta hb)
  have n := (List.nodup_cons.mp (List.nodup_cons.mp X.nd).2).2
  obtain ⟨n1, n2, n3⟩ := List.nodup_append.mp n
  refine ⟨?_, ?_, ?_, ?_, ?_, ?_, ents_set X.eg n2 X.kg hv, X.nd, X.ntg, X.kt, ?_, X.fr, same_mut X.sm (X.fr.2.2.2.2.2 b (List.mem_append_right _ hb))⟩
  · rw [upd_ne a1]; exact X.ob
  · rw [upd_ne a2]; exact X.hp
  · rw [upd_ne a3]; exact X.hk
  · rw [upd_ne a4]; exact X.ht
  · rw [upd_ne a5]; exact X.hg
  · refine ents_mono X.et fun a ha o h => ?_
    rw [upd_ne (fun z => n3 a ha b hb z)]; exact h
  · show ((stE s.given t ns).map (·.1)).Nodup
    rw [stE_keys]; exact X.kg
/-- a tray that was not given into: its list, at b, is new -/
theorem DX.gave0 (X : DX C H0 H p dx pl kp tk gv tks gvs ta ga s) {t : Str} {b : Addr} (ns : List Int) (hv : lk s.given t = none) (hb : H b = none) :
    DX C H0 (upd (upd H b (.lst (ns.map V.int))) gv (.dK (putK gvs (Sum.inr t) (.ref b)))) p dx pl kp tk gv tks (gvs ++ [(Sum.inr t, .ref b)]) ta (ga ++ [b]) { s with given := s.given ++ [(t, ns)] } := by
  have hv2 : valV gvs (Sum.inr t : Key) = none := (ents_none X.eg).mpr hv
  have eb : ∀ a o, H a = some o → a ≠ b := fun a o h => ne_of_none h hb
  have nb : ∀ a ∈ ta ++ ga, a ≠ b := fun a ha => by
    rcases List.mem_append.mp ha with h | h
    · obtain ⟨ns, hl⟩ := ents_lst X.et h
      exact eb a _ hl
    · obtain ⟨ns, hl⟩ := ents_lst X.eg h
      exact eb a _ hl
  have ng : ∀ a ∈ ta ++ ga, a ≠ gv := fun a ha => (X.apart ha).2.2.2.2.symm
  have nbg : b ≠ gv := (eb gv _ X.hg).symm
  have hb0 : H0 b = none := X.sm.free hb
  have keep : ∀ a o, a ≠ gv → H a = some o → (upd (upd H b (.lst (ns.map V.int))) gv (.dK (putK gvs (Sum.inr t) (.ref b)))) a = some o := fun a o h1 h2 => by
    rw [upd_ne h1, upd_ne (eb a o h2)]
    exact h2
  refine ⟨keep _ _ (ins_ne_dk X.hg X.ob) X.ob, keep _ _ (lst_ne_dk X.hp X.hg).symm X.hp, keep _ _ (lst_ne_dk X.hk X.hg).symm X.hk, keep _ _ X.ntg X.ht, ?_, ents_mono X.et fun a ha o h => keep a o (ng a (List.mem_append_left _ ha)) h, ?_, ?_, X.ntg, X.kt, ?_, ?_, ?_⟩
  · rw [upd_same, putK_new _ hv2]
  · refine ents_snoc ?_ (ents_mono X.eg fun a ha o h => keep a o (ng a (List.mem_append_right _ ha)) h)
    rw [upd_ne nbg, upd_same]
  · have e : pl :: kp :: (ta ++ (ga ++ [b])) = (pl :: kp :: (ta ++ ga)) ++ [b] := by
      simp only [List.cons_append, List.append_assoc]
    rw [e, List.nodup_append]
    refine ⟨X.nd, by simp, fun a ha c hc => ?_⟩
    rw [List.mem_singleton.mp hc]
    rcases List.mem_cons.mp ha with rfl | ha
    · exact eb _ _ X.hp
    · rcases List.mem_cons.mp ha with rfl | ha
      · exact eb _ _ X.hk
      · exact nb a ha
  · have := pushE_nd (t := t) (x := 0) X.kg
    unfold pushE at this
    rw [hv] at this
    rw [List.map_append] at this ⊢
    exact this
  · refine ⟨X.fr.1, X.fr.2.1, X.fr.2.2.1, X.fr.2.2.2.1, X.fr.2.2.2.2.1, fun a ha => ?_⟩
    rcases List.mem_append.mp ha with h | h
    · exact X.fr.2.2.2.2.2 a (List.mem_append_left _ h)
    · rcases List.mem_append.mp h with h | h
      · exact X.fr.2.2.2.2.2 a (List.mem_append_right _ h)
      · rw [List.mem_singleton.mp h]
        exact hb0
  · exact same_mut (same_mut X.sm hb0) X.fr.2.2.2.2.1
end
end Tw

namespace Tw
open PySem PySem.Spec PyProof.Rows L2
def topS (i : Nat) : Stmt := PySem.Challenge.pw_trayworks_k05_acts_known_by_hand.main.body.getD i (.Pass ⟨0, 0, 0, 0⟩)
abbrev sDraw : Stmt := topS 11
theorem scDraw : FnScope ["_law_tape_here", "_law_many", "_law_found", "_law_once", "_law_twice", "_law_wide"] ["_law_tape_here", "_law_many"] (defScope sDraw) := ⟨rfl, rfl, rfl, by decide +kernel, rfl, by decide +kernel, by decide +kernel⟩
section
variable {P : Program} {w : World} {K : PySem.W.Frag} {mg : Str → Option Value} {base : Heap}
theorem ok_draw {f : Addr} {fd : FuncData} {k : Nat} (F : Fun K "_law_draw" "_law_draw" sDraw f fd) : FnOk P w K mg base CX0 (k + 1) f fd ["_law_tape_here", "_law_many"] spDraw := by
  refine F.ok scDraw (fun vs H Q E h => ?_) (fun cdv A outer s H vs Q E hr h => ?_)
  · obtain ⟨t, m, n, rfl, _⟩ := h
    rfl
  · obtain ⟨t, m, n, rfl, hm0, hm1, ⟨a, b, c, hT, hb0, hb1, hc0, hc1⟩, q⟩ := h
    refine ⟨_, (pss_cons (ps_if (pt_cmpR op_gt (pe_ix ix_list (pv 0) pe_int (fun _ _ => rfl)) pe_int (nomark _))
    (pss_cons (ps_set (i := 2) scDraw.nd rfl (Or.inl rfl) (pe_op op_mod (pe_ix ix_list (pv 0) pe_int (fun _ _ => rfl)) (pv 1)))
    (pss_cons (ps_asg (pe_op op_fdiv (pe_ix ix_list (pv 0) pe_int (fun _ _ => rfl)) (pv 1)) (pg_sub (pv 0) pe_int set_list))
    (pss_one (ps_ret (pv 2)))))
    pss_nil)
  (pss_cons (ps_asg (pe_op op_add (pe_ix ix_list (pv 0) pe_int (fun _ _ => rfl)) pe_int) (pg_sub (pv 0) pe_int set_list))
  (pss_cons (ps_set (i := 3) scDraw.nd rfl (Or.inl rfl) (pe_op op_modA (pe_op op_pow (pe_op op_add (pe_ix ix_list (pv 0) pe_int (fun _ _ => rfl)) (pe_op op_mul pe_int (pe_ix ix_list (pv 0) pe_int (fun _ _ => rfl)))) pe_int) pe_int))
  (pss_cons (ps_set (i := 4) scDraw.nd rfl (Or.inl rfl) (pe_op op_modA (pe_op op_mul (pe_op op_add (pv 3) (pe_ix ix_list (pv 0) pe_int (fun _ _ => rfl))) (pe_op op_add (pe_op op_add (pe_op op_mod (pv 3) pe_int) pe_int) (pe_ix ix_list (pv 0) pe_int (fun _ _ => rfl)))) pe_int))
  (pss_cons (ps_set (i := 5) scDraw.nd rfl (Or.inl rfl) (pe_op op_modA (pe_op op_add (pe_op op_add (pe_op op_fdivW (pe_ix ix_list (pv 0) pe_int (fun _ _ => rfl)) pe_int) (pe_op op_mul (pv 4) pe_int)) (pe_ix ix_list (pv 0) pe_int (fun _ _ => rfl))) pe_int))
  (pss_one (ps_ret (pe_op op_mod (pe_op op_fdiv (pe_op op_mod (pe_op op_add (pe_op op_add (pe_op op_mul (pv 4) pe_int) (pe_op op_mul (pv 5) pe_int)) (pv 3)) pe_int) pe_int) (pv 1))))))))), ?_⟩
    have hS : SqL K H t [.int a, .int b, .int c] := .inl (.inl hT)
    refine ⟨.ref t, rfl, t, [.int a, .int b, .int c], 0, .int a, rfl, rfl, hS, rfl, a, 0, rfl, rfl, _, rfl, ite2 (fun e => ?_) (fun e => ?_)⟩
    · -- its own digits
      refine ⟨.ref t, rfl, t, _, 0, .int a, rfl, rfl, hS, rfl, .int m, rfl, a, m, rfl, rfl, hm0, ?_⟩
      refine ⟨.ref t, rfl, t, _, 0, .int a, rfl, rfl, hS, rfl, .int m, rfl, a, m, rfl, rfl, ⟨hm0, hm1⟩, ?_⟩
      refine ⟨.ref t, rfl, t, _, 0, 0, rfl, rfl, hT, rfl, ?_⟩
      refine ⟨.int (a % m), rfl, ?_⟩
      exact q _ _ (Int.emod_nonneg _ (by omega)) (Int.emod_lt_of_pos _ hm0) Kp.set ⟨a / m, b, c, upd_same, hb0, hb1, hc0, by omega⟩
    · -- mixed
      refine ⟨.ref t, rfl, t, _, 2, .int c, rfl, rfl, hS, rfl, c, 1, rfl, rfl, ?_⟩
      refine ⟨.ref t, rfl, t, _, 2, 2, rfl, rfl, hT, rfl, ?_⟩
      have hT2 : (upd H t (.lst [.int a, .int b, .int (c + 1)])) t = some (.lst [.int a, .int b, .int (c + 1)]) := upd_same
      have hS2 : SqL K (upd H t (.lst [.int a, .int b, .int (c + 1)])) t [.int a, .int b, .int (c + 1)] := .inl (.inl hT2)
      refine ⟨.ref t, rfl, t, _, 1, .int b, rfl, rfl, hS2, rfl, .ref t, rfl, t, _, 2, .int (c + 1), rfl, rfl, hS2, rfl, 39373, c + 1, rfl, rfl, .inl ⟨by decide, by decide⟩, b, 39373 * (c + 1), rfl, rfl, _, 5, rfl, rfl, ⟨by decide, by decide, ?_⟩, _, 2147483647, rfl, rfl, by decide, fun o ho0 ho1 _ => ?_⟩
      · show (b + 39373 * (c + 1)).natAbs < 2 ^ 64
        omega
      · refine ⟨.int o, rfl, .ref t, rfl, t, _, 2, .int (c + 1), rfl, rfl, hS2, rfl, o, c + 1, rfl, rfl, .int o, rfl, o, 40009, rfl, rfl, (show (0 : Int) < _ by decide), _, 7, rfl, rfl, .ref t, rfl, t, _, 2, .int (c + 1), rfl, rfl, hS2, rfl, _, c + 1, rfl, rfl, _, _, rfl, rfl, .inl ⟨by omega, by omega⟩, _, 2147483629, rfl, rfl, by decide, fun w2 hw0 hw1 _ => ?_⟩
        refine ⟨.ref t, rfl, t, _, 1, .int b, rfl, rfl, hS2, rfl, b, 2147483647, rfl, rfl, wide_div (b := 32) (by decide) (by decide) (by decide) (by decide), .int w2, rfl, w2, 40009, rfl, rfl, .inl ⟨by omega, by omega⟩, _, _, rfl, rfl, .ref t, rfl, t, _, 2, .int (c + 1), rfl, rfl, hS2, rfl, _, c + 1, rfl, rfl, _, 2305843009213693951, rfl, rfl, by decide, fun w3 hv0 hv1 _ => ?_⟩
        refine ⟨.int w2, rfl, w2, 48271, rfl, rfl, .inl ⟨by omega, by omega⟩, .int w3, rfl, w3, 39373, rfl, rfl, .inl ⟨by omega, by omega⟩, _, _, rfl, rfl, .int o, rfl, _, o, rfl, rfl, _, 2305843009213693921, rfl, rfl, (show (0 : Int) < _ by decide), _, 64, rfl, rfl, ⟨by decide, by decide⟩, .int m, rfl, _, m, rfl, rfl, hm0, ?_⟩
        exact q _ _ (Int.emod_nonneg _ (by omega)) (Int.emod_lt_of_pos _ hm0) Kp.set ⟨a, b, c + 1, upd_same, hb0, hb1, by omega, by omega⟩
end
end Tw

/-! Doing's methods, but for those that walk dicts -/
namespace Tw
open PySem PySem.Spec PyProof.Rows L2
abbrev sReckoned : Stmt := topS 6
abbrev sDoInit : Stmt := inClass (topS 7) 0
abbrev sDoAct : Stmt := inClass (topS 7) 1
abbrev sComeOn : Stmt := inClass (topS 7) 2
abbrev sGoOff : Stmt := inClass (topS 7) 3
abbrev sReckon : Stmt := inClass (topS 7) 4
abbrev sTold : Stmt := inClass (topS 7) 5
theorem scReckoned : FnScope ["word", "a", "b"] ["word", "a", "b"] (defScope sReckoned) := ⟨rfl, rfl, rfl, by decide +kernel, rfl, by decide +kernel, by decide +kernel⟩
theorem scDoAct : FnScope ["self", "act", "word", "rest"] ["self", "act"] (defScope sDoAct) := ⟨rfl, rfl, rfl, by decide +kernel, rfl, by decide +kernel, by decide +kernel⟩
theorem scComeOn : FnScope ["self", "word", "thing"] ["self", "word", "thing"] (defScope sComeOn) := ⟨rfl, rfl, rfl, by decide +kernel, rfl, by decide +kernel, by decide +kernel⟩
theorem scGoOff : FnScope ["self", "word", "thing", "number"] ["self", "word", "thing"] (defScope sGoOff) := ⟨rfl, rfl, rfl, by decide +kernel, rfl, by decide +kernel, by decide +kernel⟩
theorem scReckon : FnScope ["self", "word", "pile", "b", "a", "c"] ["self", "word"] (defScope sReckon) := ⟨rfl, rfl, rfl, by decide +kernel, rfl, by decide +kernel, by decide +kernel⟩
/-- the constants of the top -/
structure Cst (mg : Str → Option Value) : Prop where
  TAKE : ∃ t, mg "TAKE" = some (.str "take" t)
  GIVE : ∃ t, mg "GIVE" = some (.str "give" t)
  KEEP : ∃ t, mg "KEEP" = some (.str "keep" t)
  KEPT : ∃ t, mg "KEPT" = some (.str "kept" t)
  WIDE : ∃ t, mg "WIDE" = some (.int 1000000 t)
/-- the class Doing as the top has made it -/
structure TD (K : PySem.W.Frag) (mg : Str → Option Value) (C : Addr) : Prop where
  cl : Cls K C
  n1 : NoAttr K C "own_pile"
  n2 : NoAttr K C "own_kept"
  n3 : NoAttr K C "own_taken"
  n4 : NoAttr K C "own_given"
  mgC : mg "Doing" = some (.ref C)
/-- a method of the class, with its promise -/
structure MCal (P : Program) (w : World) (K : PySem.W.Frag) (mg : Str → Option Value) (base : Heap) (C : Addr) (m : Str) (k : Nat) (ps : List Str) (sp : Sp) : Prop where
  ex : ∃ (f : Addr) (fd : FuncData), FnOk P w K mg base CX0 k f fd ps sp ∧ Meth K C m f ∧ Binds K fd ps []
section
variable {X : Cx}
theorem rev_last {b : Int} {r : List Int} : ((b :: r).reverse.map V.int)[((b :: r).reverse.map V.int).length - 1]? = some (.int b) := by
  rw [List.reverse_cons, List.map_append, List.length_append, List.map_singleton, List.length_singleton, Nat.add_sub_cancel, List.getElem?_append_right (Nat.le_refl _), Nat.sub_self]
  rfl
theorem rev_drop {b : Int} {r : List Int} : ((b :: r).reverse.map V.int).dropLast = r.reverse.map V.int := by
  rw [List.reverse_cons, List.map_append, List.map_singleton, List.dropLast_concat]
theorem rev_app {b : Int} {r : List Int} : r.reverse.map V.int ++ [.int b] = (b :: r).reverse.map V.int := by
  rw [List.reverse_cons, List.map_append, List.map_singleton]
def rPopR : V → List V → Hp → VK → Prop := fun x vs H Q => ∃ (l : Addr) (b : Int) (r : List Int), x = .ref l ∧ vs = [] ∧ H l = some (.lst ((b :: r).reverse.map V.int)) ∧ Q (.int b) (upd H l (.lst (r.reverse.map V.int)))
theorem mt_popR : MtR X "list.pop" rPopR := fun pins s σ H x vs v us Q I rx rv h => by
  obtain ⟨l, b, r, e1, e2, h1, q⟩ := h
  exact mt_pop pins s σ H x vs v us Q I rx rv ⟨l, _, .int b, e1, e2, h1, rev_last, by rw [rev_drop]; exact q⟩
def rAppR : V → List V → Hp → VK → Prop := fun x vs H Q => ∃ (l : Addr) (b : Int) (r : List Int), x = .ref l ∧ vs = [.int b] ∧ H l = some (.lst (r.reverse.map V.int)) ∧ r.length ≤ 10000 ∧ Q .non (upd H l (.lst ((b :: r).reverse.map V.int)))
theorem mt_appR : MtR X "list.append" rAppR := fun pins s σ H x vs v us Q I rx rv h => by
  obtain ⟨l, b, r, e1, e2, h1, hz, q⟩ := h
  refine mt_append pins s σ H x vs v us Q I rx rv ⟨l, _, .int b, e1, e2, h1, ?_, by rw [rev_app]; exact q⟩
  rw [List.length_map, List.length_reverse]
  exact Nat.lt_of_le_of_lt hz (by decide)
def rExtR : V → List V → Hp → VK → Prop := fun x vs H Q => ∃ (l q : Addr) (b a : Int) (r : List Int), x = .ref l ∧ vs = [.ref q] ∧ H l = some (.lst (r.reverse.map V.int)) ∧ H q = some (.lst [.int a, .int b]) ∧ r.length ≤ 10000 ∧ Q .non (upd H l (.lst ((b :: a :: r).reverse.map V.int)))
theorem mt_extR : MtR X "list.extend" rExtR := fun pins s σ H x vs v us Q I rx rv h => by
  obtain ⟨l, qa, b, a, r, e1, e2, h1, h2, hz, q⟩ := h
  refine mt_extend pins s σ H x vs v us Q I rx rv ⟨l, qa, _, _, e1, e2, h1, h2, ?_, ?_⟩
  · rw [List.length_map, List.length_reverse]
    show r.length + 2 ≤ sizeLine
    have : sizeLine = 16777216 := rfl
    omega
  · have e : r.reverse.map V.int ++ [.int a, .int b] = (b :: a :: r).reverse.map V.int := by
      rw [← rev_app, ← rev_app, List.append_assoc]
      rfl
    rw [e]
    exact q
end
/-! ### promises -/
def DAt (C : Addr) (H0 H : Hp) (p : Addr) (s : DS) : Prop := ∃ dx pl kp tk gv tks gvs ta ga, DX C H0 H p dx pl kp tk gv tks gvs ta ga s
def actV : Act → List V
  | .take t => [.str "take", .str t] | .give t => [.str "give", .str t] | .num n => [.str "number", .int n] | .keep k => [.str "keep", .int (k : Int)] | .kept k => [.str "kept", .int (k : Int)] | .wrd w => [.str w]
def words8 : List Str := ["plus", "less", "times", "below", "twice", "swap", "drop", "pick"]
def actOk : Act → Prop
  | .wrd w => w ∈ words8
  | .num n => it n
  | _ => True
theorem actOk.good {a : Act} (h : actOk a) : ActGood a := by
  cases a with
  | num n => exact h
  | _ => trivial
def ActV (K : PySem.W.Frag) (H : Hp) (v : V) (a : Act) : Prop := ∃ q, v = .ref q ∧ SqT K H q (actV a)
def spReckoned : Sp := fun vs H Q _ => ∃ (w : Str) (a b n : Int), vs = [.str w, .int a, .int b] ∧ it a ∧ it b ∧ reck w a b = some n ∧ ∀ H', Same H H' → Q (.int n) H'
def spReckon (C : Addr) : Sp := fun vs H Q _ => ∃ (H0 : Hp) (p dx pl kp tk gv : Addr) (tks gvs : List (Key × V)) (ta ga : List Addr) (s : DS) (w : Str) (q : List Int), vs = [.ref p, .str w] ∧ DX C H0 H p dx pl kp tk gv tks gvs ta ga s ∧ (∀ x ∈ s.pile, it x) ∧ s.pile.length ≤ 5000 ∧
  wstep w s.pile = some q ∧ ∀ H', DX C H0 H' p dx pl kp tk gv tks gvs ta ga { s with pile := q } → Q .non H'
/-- what comes on: word, thing, the number, the trays behind it -/
def Comes (s : DS) (w : Str) (v : V) (n : Int) (tk : List (Str × List Int)) : Prop :=
  (w = "take" ∧ ∃ t r, v = .str t ∧ lk s.taken t = some (n :: r) ∧ tk = stE s.taken t r) ∨ (w = "number" ∧ v = .int n ∧ tk = s.taken) ∨ (w = "kept" ∧ ∃ k : Nat, v = .int (k : Int) ∧ s.kept[k]? = some n ∧ tk = s.taken)
def spComeOn (C : Addr) : Sp := fun vs H Q _ => ∃ (H0 : Hp) (p dx pl kp tk gv : Addr) (tks gvs : List (Key × V)) (ta ga : List Addr) (s : DS) (w : Str) (v : V) (n : Int) (tn : List (Str × List Int)), vs = [.ref p, .str w, v] ∧ DX C H0 H p dx pl kp tk gv tks gvs ta ga s ∧
  Comes s w v n tn ∧ ∀ H', DX C H0 H' p dx pl kp tk gv tks gvs ta ga { s with taken := tn } → Q (.int n) H'
def spGoOff (C : Addr) : Sp := fun vs H Q _ => ∃ (H0 : Hp) (p : Addr) (s : DS) (w : Str) (v : V) (x : Int) (r : List Int), vs = [.ref p, .str w, v] ∧ DAt C H0 H p s ∧ s.Bnd 5000 ∧ s.pile = x :: r ∧
  ((w = "give" ∧ ∃ t, v = .str t ∧ ∀ H', DAt C H0 H' p { s with pile := r, given := pushE s.given t x } → Q .non H') ∨
   (w = "keep" ∧ ∃ k : Nat, v = .int (k : Int) ∧ k < s.kept.length ∧ ∀ H', DAt C H0 H' p { s with pile := r, kept := s.kept.set k x } → Q .non H'))
def spDoAct (K : PySem.W.Frag) (C : Addr) : Sp := fun vs H Q _ => ∃ (H0 : Hp) (p : Addr) (v : V) (s s' : DS) (a : Act), vs = [.ref p, v] ∧ DAt C H0 H p s ∧ ActV K H v a ∧ actOk a ∧ s.Good ∧ s.Bnd 5000 ∧ step s a = some s' ∧ ∀ H', DAt C H0 H' p s' → Q .non H'
section
variable {P : Program} {w : World} {K : PySem.W.Frag} {mg : Str → Option Value} {base : Heap}
theorem ok_reckoned {f : Addr} {fd : FuncData} {k : Nat} (c : Cst mg) (F : Fun K "reckoned" "reckoned" sReckoned f fd) : FnOk P w K mg base CX0 (k + 1) f fd ["word", "a", "b"] spReckoned := by
  refine F.ok scReckoned (fun vs H Q E h => ?_) (fun cdv A outer s H vs Q E hr h => ?_)
  · obtain ⟨w, a, b, n, rfl, _⟩ := h
    rfl
  · obtain ⟨w, a, b, n, rfl, ha, hb, hn, q⟩ := h
    obtain ⟨tw, cW⟩ := c.WIDE
    refine ⟨_, (pss_cons (ps_if (pt_cmpR op_eq (pv 0) pe_str (nomark _))
    (pss_one (ps_ret (pe_ifExp (pt_cmpR op_lt (pv 1) (pv 2) (nomark _)) pe_int pe_int)))
    pss_nil)
  (pss_one (ps_ret (pe_op op_mod (pe_dget (hu_of hr) (pe_disp (pps_cons pe_str (pe_op op_add (pv 1) (pv 2)) (pps_cons pe_str (pe_op op_sub (pv 1) (pv 2)) (pps_cons pe_str (pe_op op_mul (pv 1) (pv 2)) pps_nil))) (by rfl) (by rfl) (fun z => by cases z) (by decide)) (pv 0) (fun _ _ => rfl)) (pe_glob (v := .int 1000000) rfl cW ⟨_, rfl⟩))))), ?_⟩
    unfold reck at hn
    refine ⟨_, rfl, rfl, _, rfl, ite2 (fun e => ?_) (fun e => ?_)⟩
    · have e1 : w = "below" := V.str.inj (of_decide_eq_true e)
      rw [if_pos e1] at hn
      cases hn
      refine ⟨_, rfl, _, rfl, _, _, rfl, rfl, _, rfl, ite2 (fun h1 => ?_) (fun h1 => ?_)⟩
      · rw [if_pos (of_decide_eq_true h1)] at q
        exact q H (Same.refl H)
      · rw [if_neg (fun z => h1 (decide_eq_true z))] at q
        exact q H (Same.refl H)
    · have e1 : ¬ w = "below" := fun z => e (decide_eq_true (congrArg V.str z))
      rw [if_neg e1] at hn
      intro d nd
      have cm : CMul a b := .inl ⟨by have := ha.1; omega, by have := ha.2; omega⟩
      refine ⟨_, rfl, _, rfl, _, _, rfl, rfl, _, rfl, _, rfl, _, _, rfl, rfl, _, rfl, _, rfl, _, _, rfl, rfl, cm, upd_same, [(Sum.inr "plus", .int (a + b)), (Sum.inr "less", .int (a - b)), (Sum.inr "times", .int (a * b))], rfl, (by show 3 ≤ 15; decide), ?_⟩
      have sm : Same H (upd (upd H d (.dK [])) d (.dK (mergeK [] [(Sum.inr "plus", .int (a + b)), (Sum.inr "less", .int (a - b)), (Sum.inr "times", .int (a * b))]))) := same_mut (same_new nd) nd
      by_cases e2 : w = "plus"
      · rw [if_pos e2] at hn
        cases hn
        subst e2
        refine ⟨_, rfl, d, .int (a + b), rfl, DGet.k (k := Sum.inr "plus") upd_same, _, _, rfl, rfl, (show (0 : Int) < _ by decide), q _ sm⟩
      · rw [if_neg e2] at hn
        by_cases e3 : w = "less"
        · rw [if_pos e3] at hn
          cases hn
          subst e3
          refine ⟨_, rfl, d, .int (a - b), rfl, DGet.k (k := Sum.inr "less") upd_same, _, _, rfl, rfl, (show (0 : Int) < _ by decide), q _ sm⟩
        · rw [if_neg e3] at hn
          by_cases e4 : w = "times"
          · rw [if_pos e4] at hn
            cases hn
            subst e4
            refine ⟨_, rfl, d, .int (a * b), rfl, DGet.k (k := Sum.inr "times") upd_same, _, _, rfl, rfl, (show (0 : Int) < _ by decide), q _ sm⟩
          · rw [if_neg e4] at hn
            cases hn
theorem ok_reckon {f C : Addr} {fd : FuncData} {k j : Nat} (T : TD K mg C) (Creckoned : Cal P w K mg base "reckoned" j ["word", "a", "b"] spReckoned) (hj : j ≤ k) (F : Fun K "reckon" "Doing.reckon" sReckon f fd) : FnOk P w K mg base CX0 (k + 1) f fd ["self", "word"] (spReckon C) := by
  refine F.ok scReckon (fun vs H Q E h => ?_) (fun cdv A outer s H vs Q E hr h => ?_)
  · obtain ⟨H0, p, dx, pl, kp, tk, gv, tks, gvs, ta, ga, s, w, q, rfl, _⟩ := h
    rfl
  · obtain ⟨H0, p, dx, pl, kp, tk, gv, tks, gvs, ta, ga, s, w, qs, rfl, X, hit, hlen, hw, q⟩ := h
    refine ⟨_, (pss_cons (ps_set (i := 2) scReckon.nd rfl (Or.inl rfl) (pe_fld (pv 0) rfl))
  (pss_cons (ps_set (i := 3) scReckon.nd rfl (Or.inl rfl) (pe_bm0 PySem.F.plainAttrs_list PySem.F.slot_list_pop PySem.F.type_list_pop mt_popR (pv 2)))
  (pss_cons (ps_if (pt_cmpR op_eq (pv 1) pe_str (nomark _))
    (pss_one ps_retN)
    pss_nil)
  (pss_cons (ps_if (pt_cmpR op_eq (pv 1) pe_str (nomark _))
    (pss_cons (ps_expr (pe_bm PySem.F.plainAttrs_list PySem.F.slot_list_extend PySem.F.type_list_extend mt_extR (pv 2) (pa_cons (pe_lst (pa_cons (pv 3) (pa_cons (pv 3) pa_nil))) pa_nil)))
    (pss_one ps_retN))
    pss_nil)
  (pss_cons (ps_set (i := 4) scReckon.nd rfl (Or.inl rfl) (pe_bm0 PySem.F.plainAttrs_list PySem.F.slot_list_pop PySem.F.type_list_pop mt_popR (pv 2)))
  (pss_one (ps_if (pt_cmpR op_eq (pv 1) pe_str (nomark _))
    (pss_one (ps_expr (pe_bm PySem.F.plainAttrs_list PySem.F.slot_list_extend PySem.F.type_list_extend mt_extR (pv 2) (pa_cons (pe_lst (pa_cons (pv 3) (pa_cons (pv 4) pa_nil))) pa_nil))))
    (pss_one (ps_if (pt_cmpR op_eq (pv 1) pe_str (nomark _))
      (pss_cons (ps_set (i := 5) scReckon.nd rfl (Or.inl rfl) (pe_bm0 PySem.F.plainAttrs_list PySem.F.slot_list_pop PySem.F.type_list_pop mt_popR (pv 2)))
      (pss_one (ps_expr (pe_bm PySem.F.plainAttrs_list PySem.F.slot_list_append PySem.F.type_list_append mt_appR (pv 2) (pa_cons (pe_ifExp (pt_cmpR op_ne (pv 5) pe_int (nomark _)) (pv 4) (pv 3)) pa_nil)))))
      (pss_one (ps_expr (pe_bm PySem.F.plainAttrs_list PySem.F.slot_list_append PySem.F.type_list_append mt_appR (pv 2) (pa_cons (pe_c Creckoned hr hj (ha := (pa_cons (pv 1) (pa_cons (pv 4) (pa_cons (pv 3) pa_nil))))) pa_nil))))))))))))), ?_⟩
    refine ⟨_, rfl, p, C, dx, _, _, rfl, X.ob, T.cl, T.n1, flds_pile, ?_⟩
    obtain ⟨pile, kept, taken, given⟩ := s
    dsimp only at hit hlen hw
    unfold wstep at hw
    cases pile with
    | nil =>
      split at hw
      · cases hw
      · split at hw
        · cases hw
        · split at hw
          · cases hw
          · split at hw <;> cases hw
    | cons b r =>
    have hp := X.hp
    refine ⟨_, rfl, .inl ⟨rfl, _, SqL.of hp⟩, pl, b, r, rfl, rfl, hp, ?_⟩
    have X1 := X.pile r
    rw [List.length_cons] at hlen
    refine ⟨_, rfl, rfl, _, rfl, ite2 (fun e => ?_) (fun e => ?_)⟩
    · have e1 : w = "drop" := V.str.inj (of_decide_eq_true e)
      rw [if_pos e1] at hw
      cases hw
      exact q _ X1
    · have e1 : ¬ w = "drop" := fun z => e (decide_eq_true (congrArg V.str z))
      rw [if_neg e1] at hw
      refine ⟨_, rfl, rfl, _, rfl, ite2 (fun e => ?_) (fun e => ?_)⟩
      · have e2 : w = "twice" := V.str.inj (of_decide_eq_true e)
        rw [if_pos e2] at hw
        cases hw
        refine ⟨_, rfl, .inl ⟨rfl, _, SqL.of X1.hp⟩, _, rfl, _, rfl, (by show 2 ≤ sizeLine; decide), fun qa nq => ?_⟩
        have X2 := X1.other (same_new (o := .lst [.int b, .int b]) nq)
        refine ⟨pl, qa, b, b, r, rfl, rfl, X2.hp, upd_same, by omega, ?_⟩
        exact q _ (X2.pile (b :: b :: r))
      · have e2 : ¬ w = "twice" := fun z => e (decide_eq_true (congrArg V.str z))
        rw [if_neg e2] at hw
        cases r with
        | nil =>
          split at hw
          · cases hw
          · split at hw <;> cases hw
        | cons a r =>
        rw [List.length_cons] at hlen
        refine ⟨_, rfl, .inl ⟨rfl, _, SqL.of X1.hp⟩, pl, a, r, rfl, rfl, X1.hp, ?_⟩
        have X2 := X1.pile r
        refine ⟨_, rfl, rfl, _, rfl, ite2 (fun e => ?_) (fun e => ?_)⟩
        · have e3 : w = "swap" := V.str.inj (of_decide_eq_true e)
          rw [if_pos e3] at hw
          cases hw
          refine ⟨_, rfl, .inl ⟨rfl, _, SqL.of X2.hp⟩, _, rfl, _, rfl, (by show 2 ≤ sizeLine; decide), fun qa nq => ?_⟩
          have X3 := X2.other (same_new (o := .lst [.int b, .int a]) nq)
          refine ⟨pl, qa, a, b, r, rfl, rfl, X3.hp, upd_same, by omega, ?_⟩
          exact q _ (X3.pile (a :: b :: r))
        · have e3 : ¬ w = "swap" := fun z => e (decide_eq_true (congrArg V.str z))
          rw [if_neg e3] at hw
          refine ⟨_, rfl, rfl, _, rfl, ite2 (fun e => ?_) (fun e => ?_)⟩
          · have e4 : w = "pick" := V.str.inj (of_decide_eq_true e)
            rw [if_pos e4] at hw
            cases r with
            | nil => cases hw
            | cons cc r =>
            rw [List.length_cons] at hlen
            cases hw
            refine ⟨_, rfl, .inl ⟨rfl, _, SqL.of X2.hp⟩, pl, cc, r, rfl, rfl, X2.hp, ?_⟩
            have X3 := X2.pile r
            refine ⟨_, rfl, .inl ⟨rfl, _, SqL.of X3.hp⟩, _, rfl, rfl, _, rfl, ite2 (fun h0 => ?_) (fun h0 => ?_)⟩
            · have hc : cc ≠ 0 := fun z => by
                rw [z] at h0
                exact absurd h0 (by decide)
              refine ⟨_, rfl, pl, a, r, rfl, rfl, X3.hp, by omega, ?_⟩
              rw [if_pos hc] at q
              exact q _ (X3.pile (a :: r))
            · have hc : ¬ cc ≠ 0 := fun z => h0 (by rw [decide_eq_false (fun y => z (V.int.inj y))]; rfl)
              refine ⟨_, rfl, pl, b, r, rfl, rfl, X3.hp, by omega, ?_⟩
              rw [if_neg hc] at q
              exact q _ (X3.pile (b :: r))
          · have e4 : ¬ w = "pick" := fun z => e (decide_eq_true (congrArg V.str z))
            rw [if_neg e4] at hw
            have hw : Option.map (· :: r) (reck w a b) = some qs := hw
            cases er : reck w a b with
            | none =>
              rw [er] at hw
              cases hw
            | some n =>
            rw [er] at hw
            cases hw
            refine ⟨_, rfl, .inl ⟨rfl, _, SqL.of X2.hp⟩, _, rfl, _, rfl, _, rfl, w, a, b, n, rfl, hit _ (List.mem_cons_of_mem _ List.mem_cons_self), hit _ List.mem_cons_self, er, fun H3 s3 => ?_⟩
            have X3 := X2.other s3
            refine ⟨pl, n, r, rfl, rfl, X3.hp, by omega, ?_⟩
            exact q _ (X3.pile (n :: r))
theorem ok_come_on {f C : Addr} {fd : FuncData} {k : Nat} (T : TD K mg C) (c : Cst mg) (F : Fun K "come_on" "Doing.come_on" sComeOn f fd) : FnOk P w K mg base CX0 (k + 1) f fd ["self", "word", "thing"] (spComeOn C) := by
  refine F.ok scComeOn (fun vs H Q E h => ?_) (fun cdv A outer s H vs Q E hr h => ?_)
  · obtain ⟨H0, p, dx, pl, kp, tk, gv, tks, gvs, ta, ga, s, w, v, n, tn, rfl, _⟩ := h
    rfl
  · obtain ⟨H0, p, dx, pl, kp, tk, gv, tks, gvs, ta, ga, s, w, v, n, tn, rfl, X, hc, q⟩ := h
    obtain ⟨t1, cT⟩ := c.TAKE
    refine ⟨_, (pss_cons (ps_if (pt_cmpR op_eq (pv 1) (pe_glob (v := .str "take") rfl cT ⟨_, rfl⟩) (nomark _))
    (pss_one (ps_ret (pe_bm PySem.F.plainAttrs_list PySem.F.slot_list_pop PySem.F.type_list_pop mt_popAt (pe_dget (hu_of hr) (pe_fld (pv 0) rfl) (pv 2) (fun _ _ => rfl)) (pa_cons pe_int pa_nil))))
    pss_nil)
  (pss_one (ps_ret (pe_ifExp (pt_cmpR op_eq (pv 1) pe_str (nomark _)) (pv 2) (pe_ix ix_list (pe_fld (pv 0) rfl) (pv 2) (fun _ _ => rfl)))))), ?_⟩
    rcases hc with ⟨rfl, t, r, rfl, hl, rfl⟩ | ⟨rfl, rfl, rfl⟩ | ⟨rfl, j, rfl, hk, rfl⟩
    · obtain ⟨b, h1, h2, h3⟩ := ents_get X.et hl
      refine ⟨_, rfl, rfl, _, rfl, iteT ?_⟩
      refine ⟨_, rfl, p, C, dx, _, _, rfl, X.ob, T.cl, T.n3, flds_taken, _, rfl, tk, .ref b, rfl, ?_, .inl ⟨rfl, _, SqL.of h3⟩, b, _, 0, 0, .int n, rfl, rfl, h3, by decide, by decide, (ixN_seq (Evl.ixN_nat (n := (List.map V.int (n :: r)).length) (j := 0) (Nat.succ_pos _))).1, rfl, ?_⟩
      · have := DGet.k (k := Sum.inr t) X.ht
        rw [h1] at this
        exact this
      · exact q _ (X.took r h1 h2)
    · refine ⟨_, rfl, rfl, _, rfl, iteF ?_⟩
      refine ⟨_, rfl, rfl, _, rfl, iteT ?_⟩
      exact ⟨_, rfl, q _ X⟩
    · refine ⟨_, rfl, rfl, _, rfl, iteF ?_⟩
      refine ⟨_, rfl, rfl, _, rfl, iteF ?_⟩
      refine ⟨_, rfl, p, C, dx, _, _, rfl, X.ob, T.cl, T.n2, flds_kept, _, rfl, kp, _, (j : Int), .int n, rfl, rfl, SqL.of X.hk, atI_nat ?_, q _ X⟩
      rw [List.getElem?_map, hk]
      rfl
theorem ok_go_off {f C : Addr} {fd : FuncData} {k : Nat} (T : TD K mg C) (c : Cst mg) (F : Fun K "go_off" "Doing.go_off" sGoOff f fd) : FnOk P w K mg base CX0 (k + 1) f fd ["self", "word", "thing"] (spGoOff C) := by
  refine F.ok scGoOff (fun vs H Q E h => ?_) (fun cdv A outer s H vs Q E hr h => ?_)
  · obtain ⟨H0, p, s, w, v, x, r, rfl, _⟩ := h
    rfl
  · obtain ⟨H0, p, s, w, v, x, r, rfl, ⟨dx, pl, kp, tk, gv, tks, gvs, ta, ga, X⟩, hb, hp, hw⟩ := h
    obtain ⟨t1, cG⟩ := c.GIVE
    refine ⟨_, (pss_cons (ps_set (i := 3) scGoOff.nd rfl (Or.inl rfl) (pe_bm0 PySem.F.plainAttrs_list PySem.F.slot_list_pop PySem.F.type_list_pop mt_popR (pe_fld (pv 0) rfl)))
  (pss_one (ps_if (pt_cmpR op_eq (pv 1) (pe_glob (v := .str "give") rfl cG ⟨_, rfl⟩) (nomark _))
    (pss_one (ps_expr (pe_bm PySem.F.plainAttrs_list PySem.F.slot_list_append PySem.F.type_list_append mt_append (pe_dsetd (pe_fld (pv 0) rfl) (pv 2) (pe_lst pa_nil) ⟨rfl, rfl, rfl, rfl⟩) (pa_cons (pv 3) pa_nil))))
    (pss_one (ps_asg (pv 3) (pg_sub (pe_fld (pv 0) rfl) (pv 2) set_list)))))), ?_⟩
    have h1 := X.hp
    rw [hp] at h1
    refine ⟨_, rfl, p, C, dx, _, _, rfl, X.ob, T.cl, T.n1, flds_pile, .inl ⟨rfl, _, SqL.of h1⟩, pl, x, r, rfl, rfl, h1, ?_⟩
    have X1 := X.pile r
    rcases hw with ⟨rfl, t, rfl, q⟩ | ⟨rfl, j, rfl, hj, q⟩
    · refine ⟨_, rfl, rfl, _, rfl, iteT ?_⟩
      refine ⟨_, rfl, p, C, dx, _, _, rfl, X1.ob, T.cl, T.n4, flds_given, gv, rfl, .inl ⟨_, .inl X1.hg⟩, _, rfl, Nat.zero_le _, fun z nz => ?_⟩
      have X2 := X1.other (same_new (o := .lst []) nz)
      refine ⟨gvs, Sum.inr t, X2.hg, rfl, ?_, fun v hv => ?_, fun hv => ?_⟩
      · rw [(ents_len X.eg).1]
        exact Nat.lt_of_le_of_lt hb.g (by decide)
      · cases hl : lk s.given t with
        | none =>
          rw [(ents_none X.eg).mpr hl] at hv
          cases hv
        | some ns =>
        obtain ⟨b, g1, g2, g3⟩ := ents_get X2.eg (show lk s.given t = some ns from hl)
        rw [g1] at hv
        cases hv
        have hz : (ns.map V.int).length < sizeLine := by
          rw [List.length_map]
          exact Nat.lt_of_le_of_lt (hb.e _ (lk_mem hl)) (by decide)
        refine ⟨.inl ⟨rfl, _, SqL.of g3⟩, _, rfl, b, _, _, rfl, rfl, g3, hz, ?_⟩
        refine q _ ⟨dx, pl, kp, tk, gv, tks, gvs, ta, ga, ?_⟩
        have X3 := X2.gave (ns ++ [x]) g1 g2
        unfold pushE
        rw [hl]
        rw [List.map_append, List.map_singleton] at X3
        exact X3
      · have hl : lk s.given t = none := (ents_none X.eg).mp hv
        have nzg : z ≠ gv := fun e => by
          rw [e, X1.hg] at nz
          cases nz
        have g3 : (upd (upd (upd H pl (.lst (r.reverse.map V.int))) z (.lst [])) gv (.dK (putK gvs (Sum.inr t) (.ref z)))) z = some (.lst []) := by
          rw [upd_ne nzg, upd_same]
        refine ⟨.inl ⟨rfl, _, SqL.of g3⟩, _, rfl, z, _, _, rfl, rfl, g3, by decide, ?_⟩
        refine q _ ⟨dx, pl, kp, tk, gv, tks, gvs ++ [(Sum.inr t, .ref z)], ta, ga ++ [z], ?_⟩
        have X3 := X1.gave0 (t := t) [x] hl nz
        unfold pushE
        rw [hl]
        have e : upd (upd (upd (upd H pl (.lst (r.reverse.map V.int))) z (.lst [])) gv (.dK (putK gvs (Sum.inr t) (.ref z)))) z (.lst ([] ++ [.int x])) = upd (upd (upd H pl (.lst (r.reverse.map V.int))) z (.lst (([x] : List Int).map V.int))) gv (.dK (putK gvs (Sum.inr t) (.ref z))) := by
          funext b
          by_cases b1 : b = z
          · subst b1
            rw [upd_same, upd_ne nzg, upd_same]
            rfl
          · rw [upd_ne b1]
            by_cases b2 : b = gv
            · subst b2
              rw [upd_same, upd_same]
            · rw [upd_ne b2, upd_ne b1, upd_ne b2, upd_ne b1]
        rw [e]
        exact X3
    · refine ⟨_, rfl, rfl, _, rfl, iteF ?_⟩
      refine ⟨_, rfl, _, rfl, p, C, dx, _, _, rfl, X1.ob, T.cl, T.n2, flds_kept, _, rfl, kp, _, (j : Int), j, rfl, rfl, X1.hk, ?_, ?_⟩
      · rw [List.length_map]
        exact Evl.ixN_nat hj
      · refine q _ ⟨dx, pl, kp, tk, gv, tks, gvs, ta, ga, ?_⟩
        have X2 := X1.keep (s.kept.set j x)
        rw [List.map_set] at X2
        exact X2
end
end Tw

/-! Doing: do_act, __init__, told; done_by -/
namespace Tw
open PySem PySem.Spec PyProof.Rows L2
section
variable {X : Cx} {o e : Expr} {es : List Expr} {ta : TE} {t : TA} {m : Str} {C : Addr} {j k : Nat} {ps : List Str} {sp : Sp} {apos pos : Pos}
theorem pe_m {pl : Sem Bool} (he : PE X o ta) (c : Cls X.K C) (M : MCal X.prog X.w X.K X.mg X.base C m k ps sp) (hr : Room j X.A) (hk : k ≤ j := by decide) (ha : PA X (e :: es) t)
    (hst : starEach (e :: es) X.env = (false, eval e X.env) :: starEach es X.env := by rfl) (hpl : (backTo pos (starEach es X.env)).any (·.1) = false := by rfl)
    (ht : eval (.Call (.Attribute o m apos) (e :: es) [] pos) X.env = (do
      let ov ← eval o X.env
      standAt apos.atName
      let (f, first) ← holding [ov] (getMethod ov m pl)
      callWith pos f first (backTo pos (starEach (e :: es) X.env)) (backToKw pos (keywordEach [] X.env))) := by rfl) :
    PE X (.Call (.Attribute o m apos) (e :: es) [] pos) (tMeth C m sp [] E0 ta t) := by
  obtain ⟨f, fd, F, hm, hb⟩ := M.ex
  exact pe_meth (pl := pl) he c hm F (hr.mono hk) hb .nil pass0 ha hst hpl ht
theorem pe_m0 {pl : Sem Bool} (he : PE X o ta) (c : Cls X.K C) (M : MCal X.prog X.w X.K X.mg X.base C m k ps sp) (hr : Room j X.A) (hk : k ≤ j := by decide)
    (ht : eval (.Call (.Attribute o m apos) [] [] pos) X.env = (do
      let ov ← eval o X.env
      standAt apos.atName
      let (f, first) ← holding [ov] (getMethod ov m pl)
      callWith pos f first (backTo pos (starEach [] X.env)) (backToKw pos (keywordEach [] X.env))) := by rfl) :
    PE X (.Call (.Attribute o m apos) [] [] pos) (tMeth C m sp [] E0 ta tNil) := by
  obtain ⟨f, fd, F, hm, hb⟩ := M.ex
  exact pe_meth0 (pl := pl) he c hm F (hr.mono hk) hb .nil pass0 ht
end
/-! ### a dict comprehension over anything that is walked -/
theorem dc_it {J : It} {n : Nat} {G : Hp → Prop} {Y : Nat → Hp → V → Hp → Prop} (w : Walk J n G Y) {g : TG} {tt : TT} {tk tv : TE} {vs : List Nat} {σ : L2.St} {H1 : Hp} {D : Addr} {Qd : Hp → Prop} (Pv : Nat → Hp → Prop) (h0 : Pv 0 (upd H1 D (.dK []))) (hG : ∀ i H, i ≤ n → Pv i H → G H)
    (hs : ∀ i x H H', i < n → Pv i H → Y i H x H' → g x (wipe σ vs) H' fun σ2 H2 => wipe σ2 vs = wipe σ vs ∧ tt σ2 H2 fun b H3 =>
      if b = true then tk σ2 H3 fun y H4 => tv σ2 H4 fun z H5 => ∃ kvs k, y = kV k ∧ H5 D = some (.dK kvs) ∧ kvs.length < sizeLine ∧ Pv (i + 1) (upd H5 D (.dK (putK kvs k z))) else Pv (i + 1) H3) (hd : ∀ H, Pv n H → Qd H) :
    ∃ W : Nat → Nat → Hp → Prop, (∃ m, W 0 m (upd H1 D (.dK []))) ∧ ∀ i m H, W i m H →
      (J.stop i H ∧ Qd H) ∨ (J.go i H ∧ ∃ Nx : Hp → Prop, (∀ H', Nx H' → ∃ m', m' < m ∧ W (i + 1) m' H') ∧ ∀ x H', J.yld i H x H' → g x (wipe σ vs) H' fun σ2 H2 => wipe σ2 vs = wipe σ vs ∧ tt σ2 H2 fun b H3 =>
        if b = true then tk σ2 H3 fun y H4 => tv σ2 H4 fun z H5 => ∃ kvs k, y = kV k ∧ H5 D = some (.dK kvs) ∧ kvs.length < sizeLine ∧ Nx (upd H5 D (.dK (putK kvs k z))) else Nx H3) := by
  refine ⟨fun i m H => m = n - i ∧ i ≤ n ∧ Pv i H, ⟨n, by simp, Nat.zero_le _, h0⟩, ?_⟩
  rintro i m H ⟨rfl, hi, p⟩
  have q := hG i H hi p
  by_cases hlt : i < n
  · refine .inr ⟨w.goes i H hlt q, Pv (i + 1), fun H' p' => ⟨n - (i + 1), by omega, rfl, hlt, p'⟩, fun x H' y => hs i x H H' hlt p (w.yields i H x H' hlt q y)⟩
  · have e : i = n := by omega
    subst e
    exact .inl ⟨w.stops H q, hd H p⟩
def SqS (K : PySem.W.Frag) (H : Hp) (a : Addr) (xs : List V) : Prop := SqL K H a xs ∨ SqT K H a xs
theorem sqs_mono {K : PySem.W.Frag} {H H' : Hp} {a : Addr} {xs : List V} (e : Same H H') (h : SqS K H a xs) : SqS K H' a xs := by
  rcases h with h | h
  · exact .inl (e.seq h)
  · exact .inr (same_sqt e h)
/-- a dict of lists or tuples of numbers -/
inductive EntsA (K : PySem.W.Frag) (H : Hp) : List (Key × V) → List (Str × List Int) → Prop
  | nil : EntsA K H [] []
  | cons {s : Str} {a : Addr} {ns : List Int} {kvs : List (Key × V)} {es : List (Str × List Int)} : SqS K H a (ns.map V.int) → EntsA K H kvs es → EntsA K H ((Sum.inr s, .ref a) :: kvs) ((s, ns) :: es)
theorem entsA_mono {K : PySem.W.Frag} {H H' : Hp} (k : Same H H') : ∀ {kvs : List (Key × V)} {es : List (Str × List Int)}, EntsA K H kvs es → EntsA K H' kvs es
  | _, _, .nil => .nil
  | _, _, .cons h r => .cons (sqs_mono k h) (entsA_mono k r)
theorem entsA_len {K : PySem.W.Frag} {H : Hp} : ∀ {kvs : List (Key × V)} {es : List (Str × List Int)}, EntsA K H kvs es → kvs.length = es.length
  | _, _, .nil => rfl
  | _, _, .cons _ r => congrArg Nat.succ (entsA_len r)
theorem entsA_get {K : PySem.W.Frag} {H : Hp} : ∀ {kvs : List (Key × V)} {es : List (Str × List Int)} {i : Nat} {kv : Key × V}, EntsA K H kvs es → kvs[i]? = some kv → ∃ s a ns, kv = (Sum.inr s, .ref a) ∧ es[i]? = some (s, ns) ∧ SqS K H a (ns.map V.int)
  | _, _, _, _, .nil, e => by simp at e
  | _, _, 0, _, .cons (s := s) (a := a) (ns := ns) h _, e => by
    simp at e
    exact ⟨s, a, ns, e.symm, rfl, h⟩
  | _, _, i + 1, kv, .cons _ r, e => by
    obtain ⟨s, a, ns, h1, h2, h3⟩ := entsA_get (i := i) (kv := kv) r (by simpa using e)
    exact ⟨s, a, ns, h1, by simpa using h2, h3⟩
theorem ents_A {K : PySem.W.Frag} {H : Hp} : ∀ {kvs : List (Key × V)} {es : List (Str × List Int)} {as : List Addr}, Ents H kvs es as → EntsA K H kvs es
  | _, _, _, .nil => .nil
  | _, _, _, .cons h r => .cons (.inl (SqL.of h)) (ents_A r)
theorem lk_fresh {es : List (Str × List Int)} {i : Nat} {s : Str} {ns : List Int} (h : es[i]? = some (s, ns)) (nd : (es.map (·.1)).Nodup) : lk (es.take i) s = none := by
  cases e : lk (es.take i) s with
  | none => rfl
  | some ms =>
    have h1 := lk_mem e
    obtain ⟨j, hj⟩ := List.mem_iff_getElem?.mp h1
    have hji : j < i := by
      have := (List.getElem?_eq_some_iff.mp hj).1
      rw [List.length_take] at this
      omega
    rw [List.getElem?_take_of_lt hji] at hj
    have hi : i < es.length := (List.getElem?_eq_some_iff.mp h).1
    have h2 : (es.map (·.1))[j]? = some s := by rw [List.getElem?_map, hj]; rfl
    have h3 : (es.map (·.1))[i]? = some s := by rw [List.getElem?_map, h]; rfl
    have hl : i < (es.map (·.1)).length := by rw [List.length_map]; exact hi
    have := (List.getElem?_inj (by omega) nd).mp (h2.trans h3.symm)
    omega
/-- {k: list(v) for k, v in d.items()} -/
theorem copyD {K : PySem.W.Frag} {σ : L2.St} {i j : Nat} {vs : List Nat} {H2 : Hp} {td : Addr} {tds : List (Key × V)} {es : List (Str × List Int)} {Q : VK} {te : TE} (hd : H2 td = some (.dK tds)) (he : EntsA K H2 tds es) (nk : (es.map (·.1)).Nodup) (hlen : es.length ≤ 5000)
    (hx : ∀ x y, (((wipe σ vs).set i (some x)).set j (some y))[i]? = some (some x)) (hy : ∀ x y, (((wipe σ vs).set i (some x)).set j (some y))[j]? = some (some y)) (hw : ∀ x y, wipe (((wipe σ vs).set i (some x)).set j (some y)) vs = wipe σ vs)
    (hte : ∀ od (Q' : VK), Q' (.ref td) (upd H2 td (.frz od (.dK tds))) → te σ (upd H2 td (.frz od (.dK tds))) Q')
    (q : ∀ D kvs as H', H2 D = none → Same H2 H' → H' D = some (.dK kvs) → Ents H' kvs es as → as.Nodup → (∀ a ∈ as, H2 a = none) → Q (.ref D) H') :
    tLockE (tDc (iItems te) (gTup K 2 (gCons (gName i) (gCons (gName j) gNil))) tYes (tVar i) (tCB (Evl.rListS K) (tCons (tVar j) tNil)) vs) σ H2 Q := by
  refine ⟨td, .dK tds, hd, trivial, fun od => hte od _ ⟨td, od, tds, rfl, upd_same, fun D nD => ?_⟩⟩
  have nDt : D ≠ td := fun e => by
    rw [e, upd_same] at nD
    cases nD
  have nD2 : H2 D = none := by
    rw [upd_ne nDt] at nD
    exact nD
  -- the locked heap keeps what H2 has, but for the dict
  have lk2 : ∀ b o, b ≠ td → H2 b = some o → (upd H2 td (.frz od (.dK tds))) b = some o := fun b o h1 h2 => by
    rw [upd_ne h1]
    exact h2
  have sqk : ∀ {H3 : Hp} {a : Addr} {xs : List V}, (∀ b o, b ≠ td → H2 b = some o → H3 b = some o) → SqS K H2 a xs → SqS K H3 a xs := fun {H3 a xs} k h => by
    rcases h with h | h
    · refine .inl ?_
      rcases h with (h | ⟨o, h⟩) | h
      · exact .inl (.inl (k _ _ (fun e => by rw [e, hd] at h; cases h) h))
      · exact .inl (.inr ⟨o, k _ _ (fun e => by rw [e, hd] at h; cases h) h⟩)
      · exact .inr h
    · refine .inr ?_
      rcases h with (h | ⟨o, h⟩) | h
      · exact .inl (.inl (k _ _ (fun e => by rw [e, hd] at h; cases h) h))
      · exact .inl (.inr ⟨o, k _ _ (fun e => by rw [e, hd] at h; cases h) h⟩)
      · exact .inr h
  refine dc_it walk_items (fun n H3 => (∀ b o, b ≠ td → H2 b = some o → H3 b = some o) ∧ H3 td = some (.frz od (.dK tds)) ∧ ∃ kvs as, H3 D = some (.dK kvs) ∧ Ents H3 kvs (es.take n) as ∧ as.Nodup ∧ (∀ a ∈ as, H2 a = none ∧ a ≠ D ∧ a ≠ td))
    ⟨fun b o h1 h2 => ?_, ?_, [], [], upd_same, .nil, List.nodup_nil, fun a ha => nomatch ha⟩ (fun n H3 _ p => p.2.1) ?_ ?_
  · rw [upd_ne (ne_of_none h2 nD2)]
    exact lk2 b o h1 h2
  · rw [upd_ne nDt.symm, upd_same]
  · rintro n x H3 H4 hn ⟨k3, l3, kvs, as, d3, e3, n3, f3⟩ ⟨T, x1, x2, rfl, nT, rfl, g1, g2⟩
    obtain ⟨kv, hkv⟩ : ∃ kv, tds[n]? = some kv := ⟨tds[n], List.getElem?_eq_getElem hn⟩
    obtain ⟨s, a, ns, rfl, hes, hsq⟩ := entsA_get he hkv
    dsimp only at g1 g2
    rw [hkv] at g1 g2
    cases g1
    cases g2
    have nTD : D ≠ T := ne_of_none d3 nT
    have nTt : td ≠ T := ne_of_none l3 nT
    have nT2 : H2 T = none := by
      cases e : H2 T with
      | none => rfl
      | some o =>
        rw [k3 T o (fun z => nTt z.symm) e] at nT
        cases nT
    refine ⟨T, _, rfl, .inl (.inl upd_same), rfl, _, _, rfl, _, _, rfl, rfl, ?_, ?_⟩
    · exact hw _ _
    · refine ⟨_, hx _ _, _, hy _ _, a, ns.map V.int, rfl, ?_, fun l nl => ?_⟩
      · exact sqk (fun b o h1 h2 => by rw [upd_ne (ne_of_none h2 nT2)]; exact k3 b o h1 h2) hsq
      · have nlT : l ≠ T := fun e => by
          rw [e, upd_same] at nl
          cases nl
        have nl3 : H3 l = none := by
          rw [upd_ne nlT] at nl
          exact nl
        have nlD : D ≠ l := ne_of_none d3 nl3
        have nlt : td ≠ l := ne_of_none l3 nl3
        have nl2 : H2 l = none := by
          cases e : H2 l with
          | none => rfl
          | some o =>
            rw [k3 l o (fun z => nlt z.symm) e] at nl3
            cases nl3
        have hl0 : lk (es.take n) s = none := lk_fresh hes nk
        have hv0 : valV kvs (Sum.inr s : Key) = none := (ents_none e3).mpr hl0
        have d5 : (upd (upd H3 T (.tup [.str s, .ref a])) l (.lst (ns.map V.int))) D = some (.dK kvs) := by
          rw [upd_ne nlD, upd_ne nTD]
          exact d3
        refine ⟨kvs, Sum.inr s, rfl, d5, ?_, fun b o h1 h2 => ?_, ?_, kvs ++ [(Sum.inr s, .ref l)], as ++ [l], ?_, ?_, ?_, ?_⟩
        · rw [(ents_len e3).1, List.length_take]
          have : sizeLine = 16777216 := rfl
          omega
        · rw [upd_ne (ne_of_none h2 nD2), upd_ne (ne_of_none h2 nl2), upd_ne (ne_of_none h2 nT2)]
          exact k3 b o h1 h2
        · rw [upd_ne nDt.symm, upd_ne nlt, upd_ne nTt]
          exact l3
        · rw [upd_same, putK_new _ hv0]
        · rw [List.take_add_one, hes]
          refine ents_snoc ?_ (ents_mono e3 fun b hb o ho => ?_)
          · rw [upd_ne nlD.symm, upd_same]
          · rw [upd_ne (f3 b hb).2.1, upd_ne (ne_of_none ho nl3), upd_ne (ne_of_none ho nT)]
            exact ho
        · rw [List.nodup_append]
          refine ⟨n3, by simp, fun b hb c hc => ?_⟩
          rw [List.mem_singleton.mp hc]
          obtain ⟨ms, hm⟩ := ents_lst e3 hb
          exact ne_of_none hm nl3
        · intro b hb
          rcases List.mem_append.mp hb with hb | hb
          · exact f3 b hb
          · rw [List.mem_singleton.mp hb]
            exact ⟨nl2, nlD.symm, nlt.symm⟩
  · rintro H3 ⟨k3, l3, kvs, as, d3, e3, n3, f3⟩
    refine ⟨l3, q D kvs as _ nD2 (fun b o h => ?_) ?_ ?_ n3 fun a ha => (f3 a ha).1⟩
    · by_cases hb : b = td
      · subst hb
        rw [upd_same]
        rw [hd] at h
        exact h
      · rw [upd_ne hb]
        exact k3 b o hb h
    · rw [upd_ne nDt]
      exact d3
    · have et : es.take tds.length = es := List.take_of_length_le (by rw [entsA_len he]; exact Nat.le_refl _)
      rw [et] at e3
      exact ents_mono e3 fun b hb o ho => by
        rw [upd_ne (f3 b hb).2.2]
        exact ho
theorem scDoInit : FnScope ["self", "kept", "taken", "tray", "numbers"] ["self", "kept", "taken"] (defScope sDoInit) := ⟨rfl, rfl, rfl, by decide +kernel, rfl, by decide +kernel, by decide +kernel⟩
theorem scTold : FnScope ["self", "tray", "numbers"] ["self"] (defScope sTold) := ⟨rfl, rfl, rfl, by decide +kernel, rfl, by decide +kernel, by decide +kernel⟩
def spInit (K : PySem.W.Frag) (C : Addr) : Sp := fun vs H Q _ => ∃ (H0 : Hp) (p dx kt td : Addr) (ks : List Int) (tds : List (Key × V)) (taken : List (Str × List Int)), vs = [.ref p, .ref kt, .ref td] ∧ H p = some (.ins C dx []) ∧ H0 p = none ∧ Same H0 H ∧ SqS K H0 kt (ks.map V.int) ∧ H0 td = some (.dK tds) ∧ EntsA K H0 tds taken ∧
  (taken.map (·.1)).Nodup ∧ taken.length ≤ 1000 ∧ ∀ H', DAt C H0 H' p ⟨[], ks, taken, []⟩ → Q .non H'
/-- the pair that is told -/
structure Pair2 (H H' : Hp) (r : Addr) (kept : List Int) (given : List (Str × List Int)) : Prop where
  ex : ∃ kt gd gvs ga, H r = none ∧ H kt = none ∧ H gd = none ∧ (∀ a ∈ ga, H a = none) ∧ H' r = some (.tup [.ref kt, .ref gd]) ∧ H' kt = some (.tup (kept.map V.int)) ∧ H' gd = some (.dK gvs) ∧ Ents H' gvs given ga ∧ ga.Nodup
def spTold (C : Addr) : Sp := fun vs H Q _ => ∃ (H0 : Hp) (p : Addr) (s : DS), vs = [.ref p] ∧ DAt C H0 H p s ∧ s.Bnd 5000 ∧ ∀ r H', Same H0 H' → Pair2 H0 H' r s.kept s.given → Q (.ref r) H'
section
variable {P : Program} {w : World} {K : PySem.W.Frag} {mg : Str → Option Value} {base : Heap}
theorem ok_do_act {f C : Addr} {fd : FuncData} {k k1 k2 k3 : Nat} (T : TD K mg C) (c : Cst mg) (M1 : MCal P w K mg base C "come_on" k1 ["self", "word", "thing"] (spComeOn C)) (M2 : MCal P w K mg base C "go_off" k2 ["self", "word", "thing"] (spGoOff C)) (M3 : MCal P w K mg base C "reckon" k3 ["self", "word"] (spReckon C))
    (h1 : k1 ≤ k) (h2 : k2 ≤ k) (h3 : k3 ≤ k) (F : Fun K "do_act" "Doing.do_act" sDoAct f fd) : FnOk P w K mg base CX0 (k + 1) f fd ["self", "act"] (spDoAct K C) := by
  refine F.ok scDoAct (fun vs H Q E h => ?_) (fun cdv A outer s H vs Q E hr h => ?_)
  · obtain ⟨H0, p, v, s, s', a, rfl, _⟩ := h
    rfl
  · obtain ⟨H0, p, v, s, s', a, rfl, ⟨dx, pl, kp, tk, gv, tks, gvs, ta, ga, X⟩, ⟨qa, rfl, ha⟩, hok, hgood, hb, hst, q⟩ := h
    obtain ⟨t1, cT⟩ := c.TAKE
    obtain ⟨t2, cG⟩ := c.GIVE
    obtain ⟨t3, cP⟩ := c.KEEP
    obtain ⟨t4, cK⟩ := c.KEPT
    refine ⟨_, (pss_cons (ps_asg (pv 1) (pg_star (i := 2) (j := 3) rfl scDoAct.nd rfl rfl (Or.inl rfl) (Or.inl rfl)))
  (pss_one (ps_if (pt_cmpR op_in_seq (pv 2) (pe_tup (pa_cons (pe_glob (v := .str "take") rfl cT ⟨_, rfl⟩) (pa_cons pe_str (pa_cons (pe_glob (v := .str "kept") rfl cK ⟨_, rfl⟩) pa_nil)))) rfl)
    (pss_one (ps_expr (pe_bm PySem.F.plainAttrs_list PySem.F.slot_list_append PySem.F.type_list_append mt_appR (pe_fld (pv 0) rfl) (pa_cons (pe_m (pv 0) T.cl M1 hr h1 (ha := pa_cons (pv 2) (pa_cons (pe_ix ix_list (pv 3) pe_int (fun _ _ => rfl)) pa_nil))) pa_nil))))
    (pss_one (ps_if (pt_cmpR op_in_seq (pv 2) (pe_tup (pa_cons (pe_glob (v := .str "give") rfl cG ⟨_, rfl⟩) (pa_cons (pe_glob (v := .str "keep") rfl cP ⟨_, rfl⟩) pa_nil))) rfl)
      (pss_one (ps_expr (pe_m (pv 0) T.cl M2 hr h2 (ha := pa_cons (pv 2) (pa_cons (pe_ix ix_list (pv 3) pe_int (fun _ _ => rfl)) pa_nil)))))
      (pss_one (ps_expr (pe_m (pv 0) T.cl M3 hr h3 (ha := pa_cons (pv 2) pa_nil))))))))), ?_⟩
    have z3 : 3 ≤ sizeLine := by decide
    have z2 : 2 ≤ sizeLine := by decide
    have hbp := hb.p
    cases a with
    | take t =>
      unfold step at hst
      dsimp only at hst
      split at hst
      · rename_i x r hl
        cases hst
        refine ⟨_, rfl, qa, _, _, rfl, ha, fun p3 n3 => ?_⟩
        have X1 := X.other (same_new (o := .lst [.str t]) n3)
        refine ⟨_, rfl, z3, fun tp np => ⟨tp, _, rfl, .inr (SqT.of upd_same), rfl, rfl, _, rfl, iteT ?_⟩⟩
        have X2 := X1.other (same_new (o := .tup [.str "take", .str "number", .str "kept"]) np)
        have n3p : p3 ≠ tp := fun e => by
          rw [← e, upd_same] at np
          cases np
        have e3 : (upd (upd H p3 (.lst [.str t])) tp (.tup [.str "take", .str "number", .str "kept"])) p3 = some (.lst [.str t]) := by
          rw [upd_ne n3p, upd_same]
        refine ⟨_, rfl, p, C, dx, _, _, rfl, X2.ob, T.cl, T.n1, flds_pile, .inl ⟨rfl, _, SqL.of X2.hp⟩, ?_⟩
        refine ⟨_, rfl, p, dx, _, rfl, X2.ob, flds_no1, _, rfl, _, rfl, p3, _, 0, .str t, rfl, rfl, SqL.of e3, rfl, ?_⟩
        refine ⟨H0, p, dx, pl, kp, tk, gv, tks, gvs, ta, ga, s, "take", .str t, x, stE s.taken t r, rfl, X2, .inl ⟨rfl, t, r, rfl, hl, rfl⟩, fun H5 X5 => ?_⟩
        refine ⟨pl, x, s.pile, rfl, rfl, X5.hp, by omega, ?_⟩
        exact q _ ⟨dx, pl, kp, tk, gv, tks, gvs, ta, ga, X5.pile (x :: s.pile)⟩
      · cases hst
    | num n =>
      cases hst
      refine ⟨_, rfl, qa, _, _, rfl, ha, fun p3 n3 => ?_⟩
      have X1 := X.other (same_new (o := .lst [.int n]) n3)
      refine ⟨_, rfl, z3, fun tp np => ⟨tp, _, rfl, .inr (SqT.of upd_same), rfl, rfl, _, rfl, iteT ?_⟩⟩
      have X2 := X1.other (same_new (o := .tup [.str "take", .str "number", .str "kept"]) np)
      have n3p : p3 ≠ tp := fun e => by
        rw [← e, upd_same] at np
        cases np
      have e3 : (upd (upd H p3 (.lst [.int n])) tp (.tup [.str "take", .str "number", .str "kept"])) p3 = some (.lst [.int n]) := by
        rw [upd_ne n3p, upd_same]
      refine ⟨_, rfl, p, C, dx, _, _, rfl, X2.ob, T.cl, T.n1, flds_pile, .inl ⟨rfl, _, SqL.of X2.hp⟩, ?_⟩
      refine ⟨_, rfl, p, dx, _, rfl, X2.ob, flds_no1, _, rfl, _, rfl, p3, _, 0, .int n, rfl, rfl, SqL.of e3, rfl, ?_⟩
      refine ⟨H0, p, dx, pl, kp, tk, gv, tks, gvs, ta, ga, s, "number", .int n, n, s.taken, rfl, X2, .inr (.inl ⟨rfl, rfl, rfl⟩), fun H5 X5 => ?_⟩
      refine ⟨pl, n, s.pile, rfl, rfl, X5.hp, by omega, ?_⟩
      exact q _ ⟨dx, pl, kp, tk, gv, tks, gvs, ta, ga, X5.pile (n :: s.pile)⟩
    | kept j =>
      unfold step at hst
      dsimp only at hst
      split at hst
      · rename_i x hl
        cases hst
        refine ⟨_, rfl, qa, _, _, rfl, ha, fun p3 n3 => ?_⟩
        have X1 := X.other (same_new (o := .lst [.int (j : Int)]) n3)
        refine ⟨_, rfl, z3, fun tp np => ⟨tp, _, rfl, .inr (SqT.of upd_same), rfl, rfl, _, rfl, iteT ?_⟩⟩
        have X2 := X1.other (same_new (o := .tup [.str "take", .str "number", .str "kept"]) np)
        have n3p : p3 ≠ tp := fun e => by
          rw [← e, upd_same] at np
          cases np
        have e3 : (upd (upd H p3 (.lst [.int (j : Int)])) tp (.tup [.str "take", .str "number", .str "kept"])) p3 = some (.lst [.int (j : Int)]) := by
          rw [upd_ne n3p, upd_same]
        refine ⟨_, rfl, p, C, dx, _, _, rfl, X2.ob, T.cl, T.n1, flds_pile, .inl ⟨rfl, _, SqL.of X2.hp⟩, ?_⟩
        refine ⟨_, rfl, p, dx, _, rfl, X2.ob, flds_no1, _, rfl, _, rfl, p3, _, 0, .int (j : Int), rfl, rfl, SqL.of e3, rfl, ?_⟩
        refine ⟨H0, p, dx, pl, kp, tk, gv, tks, gvs, ta, ga, s, "kept", .int (j : Int), x, s.taken, rfl, X2, .inr (.inr ⟨rfl, j, rfl, hl, rfl⟩), fun H5 X5 => ?_⟩
        refine ⟨pl, x, s.pile, rfl, rfl, X5.hp, by omega, ?_⟩
        exact q _ ⟨dx, pl, kp, tk, gv, tks, gvs, ta, ga, X5.pile (x :: s.pile)⟩
      · cases hst
    | give t =>
      unfold step at hst
      dsimp only at hst
      split at hst
      · rename_i x r hl
        cases hst
        refine ⟨_, rfl, qa, _, _, rfl, ha, fun p3 n3 => ?_⟩
        have X1 := X.other (same_new (o := .lst [.str t]) n3)
        refine ⟨_, rfl, z3, fun tp np => ⟨tp, _, rfl, .inr (SqT.of upd_same), rfl, rfl, _, rfl, iteF ?_⟩⟩
        have X2 := X1.other (same_new (o := .tup [.str "take", .str "number", .str "kept"]) np)
        have n3p : p3 ≠ tp := fun e => by
          rw [← e, upd_same] at np
          cases np
        have e3 : (upd (upd H p3 (.lst [.str t])) tp (.tup [.str "take", .str "number", .str "kept"])) p3 = some (.lst [.str t]) := by
          rw [upd_ne n3p, upd_same]
        refine ⟨_, rfl, z2, fun tr nr => ⟨tr, _, rfl, .inr (SqT.of upd_same), rfl, rfl, _, rfl, iteT ?_⟩⟩
        have X3 := X2.other (same_new (o := .tup [.str "give", .str "keep"]) nr)
        have e4 := same_new (o := .tup [.str "give", .str "keep"]) nr _ _ e3
        refine ⟨_, rfl, p, dx, _, rfl, X3.ob, flds_no2, _, rfl, _, rfl, p3, _, 0, .str t, rfl, rfl, SqL.of e4, rfl, ?_⟩
        exact ⟨H0, p, s, "give", .str t, x, r, rfl, ⟨dx, pl, kp, tk, gv, tks, gvs, ta, ga, X3⟩, hb, hl, .inl ⟨rfl, t, rfl, q⟩⟩
      · cases hst
    | keep j =>
      unfold step at hst
      dsimp only at hst
      split at hst
      · rename_i x r hl
        split at hst
        · rename_i hj
          cases hst
          refine ⟨_, rfl, qa, _, _, rfl, ha, fun p3 n3 => ?_⟩
          have X1 := X.other (same_new (o := .lst [.int (j : Int)]) n3)
          refine ⟨_, rfl, z3, fun tp np => ⟨tp, _, rfl, .inr (SqT.of upd_same), rfl, rfl, _, rfl, iteF ?_⟩⟩
          have X2 := X1.other (same_new (o := .tup [.str "take", .str "number", .str "kept"]) np)
          have n3p : p3 ≠ tp := fun e => by
            rw [← e, upd_same] at np
            cases np
          have e3 : (upd (upd H p3 (.lst [.int (j : Int)])) tp (.tup [.str "take", .str "number", .str "kept"])) p3 = some (.lst [.int (j : Int)]) := by
            rw [upd_ne n3p, upd_same]
          refine ⟨_, rfl, z2, fun tr nr => ⟨tr, _, rfl, .inr (SqT.of upd_same), rfl, rfl, _, rfl, iteT ?_⟩⟩
          have X3 := X2.other (same_new (o := .tup [.str "give", .str "keep"]) nr)
          have e4 := same_new (o := .tup [.str "give", .str "keep"]) nr _ _ e3
          refine ⟨_, rfl, p, dx, _, rfl, X3.ob, flds_no2, _, rfl, _, rfl, p3, _, 0, .int (j : Int), rfl, rfl, SqL.of e4, rfl, ?_⟩
          exact ⟨H0, p, s, "keep", .int (j : Int), x, r, rfl, ⟨dx, pl, kp, tk, gv, tks, gvs, ta, ga, X3⟩, hb, hl, .inr ⟨rfl, j, rfl, hj, q⟩⟩
        · cases hst
      · cases hst
    | wrd wd =>
      unfold step at hst
      dsimp only at hst
      split at hst
      · rename_i pp hl
        cases hst
        refine ⟨_, rfl, qa, _, _, rfl, ha, fun p3 n3 => ?_⟩
        have X1 := X.other (same_new (o := .lst []) n3)
        have i1 : inV (.str wd) [.str "take", .str "number", .str "kept"] = false := by
          have hm : wd ∈ words8 := hok
          simp only [words8, List.mem_cons, List.not_mem_nil, or_false] at hm
          rcases hm with rfl | rfl | rfl | rfl | rfl | rfl | rfl | rfl <;> rfl
        have i2 : inV (.str wd) [.str "give", .str "keep"] = false := by
          have hm : wd ∈ words8 := hok
          simp only [words8, List.mem_cons, List.not_mem_nil, or_false] at hm
          rcases hm with rfl | rfl | rfl | rfl | rfl | rfl | rfl | rfl <;> rfl
        refine ⟨_, rfl, z3, fun tp np => ⟨tp, _, rfl, .inr (SqT.of upd_same), rfl, rfl, false, congrArg V.bl i1, iteF ?_⟩⟩
        have X2 := X1.other (same_new (o := .tup [.str "take", .str "number", .str "kept"]) np)
        refine ⟨_, rfl, z2, fun tr nr => ⟨tr, _, rfl, .inr (SqT.of upd_same), rfl, rfl, false, congrArg V.bl i2, iteF ?_⟩⟩
        have X3 := X2.other (same_new (o := .tup [.str "give", .str "keep"]) nr)
        refine ⟨_, rfl, p, dx, _, rfl, X3.ob, flds_no3, _, rfl, ?_⟩
        exact ⟨H0, p, dx, pl, kp, tk, gv, tks, gvs, ta, ga, s, wd, pp, rfl, X3, hgood.p, hbp, hl, fun H' X' => q _ ⟨dx, pl, kp, tk, gv, tks, gvs, ta, ga, X'⟩⟩
      · cases hst
end
end Tw

/-! Doing.__init__, told, done_by -/
namespace Tw
open PySem PySem.Spec PyProof.Rows L2
abbrev sDoneBy : Stmt := topS 8
theorem scDoneBy : FnScope ["code", "kept", "taken", "doing", "act"] ["code", "kept", "taken"] (defScope sDoneBy) := ⟨rfl, rfl, rfl, by decide +kernel, rfl, by decide +kernel, by decide +kernel⟩
def spDoneBy (K : PySem.W.Frag) : Sp := fun vs H Q _ => ∃ (c kt td : Addr) (xs : List V) (acts : List Act) (ks : List Int) (tds : List (Key × V)) (taken : List (Str × List Int)) (s' : DS), vs = [.ref c, .ref kt, .ref td] ∧ SqT K H c xs ∧ Paired (ActV K H) xs acts ∧ (∀ a ∈ acts, actOk a) ∧ acts.length ≤ 1000 ∧
  SqS K H kt (ks.map V.int) ∧ H td = some (.dK tds) ∧ EntsA K H tds taken ∧ (taken.map (·.1)).Nodup ∧ taken.length ≤ 1000 ∧ DS.Good ⟨[], ks, taken, []⟩ ∧ runA ⟨[], ks, taken, []⟩ acts = some s' ∧ ∀ r H', Same H H' → Pair2 H H' r s'.kept s'.given → Q (.ref r) H'
theorem actv_mono {K : PySem.W.Frag} {H H' : Hp} (k : Same H H') {v : V} {a : Act} (h : ActV K H v a) : ActV K H' v a := by
  obtain ⟨q, e, h⟩ := h
  exact ⟨q, e, same_sqt k h⟩
theorem paired_get {α β : Type} {F : α → β → Prop} : ∀ {xs : List α} {ys : List β} {i : Nat} {x : α}, Paired F xs ys → xs[i]? = some x → ∃ y, ys[i]? = some y ∧ F x y
  | _, _, _, _, .nil, e => by simp at e
  | _, _, 0, _, .cons h _, e => by
    simp at e
    subst e
    exact ⟨_, rfl, h⟩
  | _, _, i + 1, x, .cons _ r, e => by
    obtain ⟨y, h1, h2⟩ := paired_get (i := i) (x := x) r (by simpa using e)
    exact ⟨y, by simpa using h1, h2⟩
theorem runA_app : ∀ (as bs : List Act) (s t : DS), runA s (as ++ bs) = some t → ∃ s', runA s as = some s' ∧ runA s' bs = some t
  | [], _, s, _, h => ⟨s, rfl, h⟩
  | a :: r, bs, s, t, h => by
    have h' : (match step s a with | some s' => runA s' (r ++ bs) | none => none) = some t := h
    cases e : step s a with
    | none =>
      rw [e] at h'
      cases h'
    | some s1 =>
      rw [e] at h'
      obtain ⟨s', h1, h2⟩ := runA_app r bs s1 t h'
      refine ⟨s', ?_, h2⟩
      show (match step s a with | some s' => runA s' r | none => none) = some s'
      rw [e]
      exact h1
/-- what holds behind so many acts -/
theorem run_inv : ∀ (as : List Act) (s t : DS), runA s as = some t → s.Good → (∀ a ∈ as, actOk a) → ∀ n, s.Bnd n → t.Good ∧ t.Bnd (n + as.length)
  | [], s, t, h, g, _, n, b => by
    cases h
    exact ⟨g, b⟩
  | a :: r, s, t, h, g, ho, n, b => by
    have h' : (match step s a with | some s' => runA s' r | none => none) = some t := h
    cases e : step s a with
    | none =>
      rw [e] at h'
      cases h'
    | some s1 =>
      rw [e] at h'
      have := run_inv r s1 t h' (step_good e g (ho a List.mem_cons_self).good) (fun x hx => ho x (List.mem_cons_of_mem _ hx)) (n + 1) (step_bnd e b)
      rw [List.length_cons, show n + (r.length + 1) = n + 1 + r.length by omega]
      exact this
section
variable {P : Program} {w : World} {K : PySem.W.Frag} {mg : Str → Option Value} {base : Heap}
theorem ok_init {f C : Addr} {fd : FuncData} {k : Nat} (g : Bl mg) (T : TD K mg C) (F : Fun K "__init__" "Doing.__init__" sDoInit f fd) : FnOk P w K mg base CX0 (k + 1) f fd ["self", "kept", "taken"] (spInit K C) := by
  refine F.ok scDoInit (fun vs H Q E h => ?_) (fun cdv A outer s H vs Q E hr h => ?_)
  · obtain ⟨H0, p, dx, kt, td, ks, tds, taken, rfl, _⟩ := h
    rfl
  · obtain ⟨H0, p, dx, kt, td, ks, tds, taken, rfl, hp, h0p, sm, hk, htd, he, nk, hlen, q⟩ := h
    refine ⟨_, (pss_cons (ps_fld (pv 0) (pe_lst pa_nil) rfl)
  (pss_cons (ps_fld (pv 0) (pe_callTy call_list_of (by rfl) g.list PyProof.Rows.boot_list (pa_cons (pv 1) pa_nil)) rfl)
  (pss_cons (ps_fld (pv 0) (pe_lock (pe_dc (own := [("tray", 3), ("numbers", 4)]) (g := gTup K 2 (gCons (gName 3) (gCons (gName 4) gNil))) (tt := tYes) (tv := tCB (Evl.rListS K) (tCons (tVar 4) tNil)) rfl scDoInit.nd (pi_items (pv 2)) (blkOk_by (own := [("tray", 3), ("numbers", 4)]) (N := ["self", "kept", "taken", "tray", "numbers"]) (sc := defScope sDoInit) (by decide +kernel)) (fun _ _ _ _ _ => (pg_tup rfl (pgs_cons (pg_name (i := 3) scDoInit.nd rfl (Or.inl rfl)) (pgs_cons (pg_name (i := 4) scDoInit.nd rfl (Or.inl rfl)) pgs_nil)))) (fun _ _ _ _ _ => pts_nil) (fun _ _ _ _ _ => pv 3) (fun _ _ _ _ _ => (pe_callTy call_list_of (by rfl) g.list PyProof.Rows.boot_list (pa_cons (pv 4) pa_nil))))) rfl)
  (pss_one (ps_fld (pv 0) pe_dnewK rfl))))), ?_⟩
    -- self.own_pile = []
    refine ⟨Nat.zero_le _, fun pl npl => ?_⟩
    have ppl : p ≠ pl := ne_of_none hp npl
    have s1 : Same H (upd H pl (.lst [])) := same_new npl
    refine ⟨_, rfl, p, C, dx, [], rfl, s1 _ _ hp, T.cl, T.n1, (by show 0 < 1000; decide), ?_⟩
    -- self.own_kept = list(kept)
    have npl0 : H0 pl = none := sm.free npl
    have sA : Same H0 (upd (upd H pl (.lst [])) p (.ins C dx (putF "own_pile" (.ref pl) []))) := same_mut (sm.trans s1) h0p
    refine ⟨_, rfl, kt, ks.map V.int, rfl, sqs_mono sA hk, fun kp nkp => ?_⟩
    have pkp : p ≠ kp := fun e => by
      rw [← e, upd_same] at nkp
      cases nkp
    have nkp1 : (upd H pl (.lst [])) kp = none := by
      rw [upd_ne pkp.symm] at nkp
      exact nkp
    have plkp : pl ≠ kp := fun e => by
      rw [← e, upd_same] at nkp1
      cases nkp1
    have nkp0 : H0 kp = none := sA.free nkp
    have sB : Same H0 (upd (upd (upd H pl (.lst [])) p (.ins C dx (putF "own_pile" (.ref pl) []))) kp (.lst (ks.map V.int))) := sA.trans (same_new nkp)
    refine ⟨_, rfl, p, C, dx, _, rfl, by rw [upd_ne pkp, upd_same], T.cl, T.n2, (by show 1 < 1000; decide), ?_⟩
    -- self.own_taken = {..}
    have sC : Same H0 (upd (upd (upd (upd H pl (.lst [])) p (.ins C dx (putF "own_pile" (.ref pl) []))) kp (.lst (ks.map V.int))) p (.ins C dx (putF "own_kept" (.ref kp) (putF "own_pile" (.ref pl) [])))) := same_mut sB h0p
    dsimp only [tSeq, sFld]
    refine copyD (K := K) (sC _ _ htd) (entsA_mono sC he) nk (by omega) (fun _ _ => rfl) (fun _ _ => rfl) (fun _ _ => rfl) (fun od Q' q' => ⟨_, rfl, q'⟩) (fun D kvs as H3 nD s3 hD hE nd hf => ?_)
    generalize hH2 : (upd (upd (upd (upd H pl (.lst [])) p (.ins C dx (putF "own_pile" (.ref pl) []))) kp (.lst (ks.map V.int))) p (.ins C dx (putF "own_kept" (.ref kp) (putF "own_pile" (.ref pl) [])))) = H2 at nD s3 hf sC
    have h2p : H2 p = some (.ins C dx (putF "own_kept" (.ref kp) (putF "own_pile" (.ref pl) []))) := by
      rw [← hH2, upd_same]
    have h2l : H2 pl = some (.lst []) := by
      rw [← hH2, upd_ne ppl.symm, upd_ne plkp, upd_ne ppl.symm, upd_same]
    have h2k : H2 kp = some (.lst (ks.map V.int)) := by
      rw [← hH2, upd_ne pkp.symm, upd_same]
    refine ⟨_, rfl, p, C, dx, _, rfl, s3 _ _ h2p, T.cl, T.n3, (by show 2 < 1000; decide), ?_⟩
    -- self.own_given = {}
    intro gv ngv
    have pgv : p ≠ gv := fun e => by
      rw [← e, upd_same] at ngv
      cases ngv
    have ngv3 : H3 gv = none := by
      rw [upd_ne pgv.symm] at ngv
      exact ngv
    refine ⟨_, rfl, p, C, dx, _, rfl, by rw [upd_ne pgv, upd_same], T.cl, T.n4, (by show 3 < 1000; decide), ?_⟩
    refine q _ ⟨dx, pl, kp, D, gv, kvs, [], as, [], ?_⟩
    have keep : ∀ b o, b ≠ p → H3 b = some o → (upd (upd (upd H3 p (.ins C dx (putF "own_taken" (.ref D) (putF "own_kept" (.ref kp) (putF "own_pile" (.ref pl) []))))) gv (.dK [])) p (.ins C dx (flds pl kp D gv))) b = some o := fun b o h1 h2 => by
      rw [upd_ne h1, upd_ne (ne_of_none h2 ngv3), upd_ne h1]
      exact h2
    have nDp : D ≠ p := fun e => by
      rw [e, h2p] at nD
      cases nD
    have s0 : Same H0 H3 := sC.trans s3
    have las : ∀ a ∈ as, ∃ ns, H3 a = some (.lst ns) := fun a ha => ents_lst hE ha
    show DX C H0 (upd (upd (upd H3 p (.ins C dx (putF "own_taken" (.ref D) (putF "own_kept" (.ref kp) (putF "own_pile" (.ref pl) []))))) gv (.dK [])) p (.ins C dx (flds pl kp D gv))) p dx pl kp D gv kvs [] as [] ⟨[], ks, taken, []⟩
    refine ⟨upd_same, keep _ _ ppl.symm (s3 _ _ h2l), keep _ _ pkp.symm (s3 _ _ h2k), keep _ _ nDp hD, ?_, ents_mono hE fun a ha o ho => keep a o (fun e => ?_) ho, .nil, ?_, ?_, nk, List.nodup_nil, ⟨h0p, npl0, nkp0, sC.free nD, s0.free ngv3, fun a ha => ?_⟩, ?_⟩
    · rw [upd_ne pgv.symm, upd_same]
    · have := hf a ha
      rw [e, h2p] at this
      cases this
    · rw [List.append_nil, List.nodup_cons, List.nodup_cons]
      refine ⟨fun hm => ?_, fun hm => ?_, nd⟩
      · rcases List.mem_cons.mp hm with e | hm
        · exact plkp e
        · have := hf _ hm
          rw [h2l] at this
          cases this
      · have := hf _ hm
        rw [h2k] at this
        cases this
    · exact ne_of_none hD ngv3
    · rw [List.append_nil] at ha
      exact sC.free (hf a ha)
    · intro b o h
      exact keep b o (ne_of_none h h0p) (s0 b o h)
theorem ok_told {f C : Addr} {fd : FuncData} {k : Nat} (g : Bl mg) (T : TD K mg C) (F : Fun K "told" "Doing.told" sTold f fd) : FnOk P w K mg base CX0 (k + 1) f fd ["self"] (spTold C) := by
  refine F.ok scTold (fun vs H Q E h => ?_) (fun cdv A outer s H vs Q E hr h => ?_)
  · obtain ⟨H0, p, s, rfl, _⟩ := h
    rfl
  · obtain ⟨H0, p, s, rfl, ⟨dx, pl, kp, tk, gv, tks, gvs, ta, ga, X⟩, hb, q⟩ := h
    refine ⟨_, (pss_one (ps_ret (pe_tup (pa_cons (pe_callTy call_tuple_of (by rfl) g.tuple PyProof.Rows.boot_tuple (pa_cons (pe_fld (pv 0) rfl) pa_nil)) (pa_cons (pe_lock (pe_dc (own := [("tray", 1), ("numbers", 2)]) (g := gTup K 2 (gCons (gName 1) (gCons (gName 2) gNil))) (tt := tYes) (tv := tCB (Evl.rListS K) (tCons (tVar 2) tNil)) rfl scTold.nd (pi_items (pe_fld (pv 0) rfl)) (blkOk_by (own := [("tray", 1), ("numbers", 2)]) (N := ["self", "tray", "numbers"]) (sc := defScope sTold) (by decide +kernel)) (fun _ _ _ _ _ => (pg_tup rfl (pgs_cons (pg_name (i := 1) scTold.nd rfl (Or.inl rfl)) (pgs_cons (pg_name (i := 2) scTold.nd rfl (Or.inl rfl)) pgs_nil)))) (fun _ _ _ _ _ => pts_nil) (fun _ _ _ _ _ => pv 1) (fun _ _ _ _ _ => (pe_callTy call_list_of (by rfl) g.list PyProof.Rows.boot_list (pa_cons (pv 2) pa_nil))))) pa_nil))))), ?_⟩
    refine ⟨_, rfl, p, C, dx, _, _, rfl, X.ob, T.cl, T.n2, flds_kept, kp, _, rfl, .inl ⟨SqL.of X.hk, fun kt nkt => ?_⟩⟩
    have X1 := X.other (same_new (o := .tup (s.kept.map V.int)) nkt)
    refine copyD (K := K) X1.hg (ents_A X1.eg) X.kg hb.g (fun _ _ => rfl) (fun _ _ => rfl) (fun _ _ => rfl) (fun od Q' q' => ⟨_, rfl, p, C, dx, flds pl kp tk gv, .ref gv, rfl, ?_, T.cl, T.n4, flds_given, q'⟩) (fun D kvs as H3 nD s3 hD hE nd hf => ?_)
    · rw [upd_ne (ins_ne_dk X1.hg X1.ob)]
      exact X1.ob
    · refine ⟨by show 2 ≤ sizeLine; decide, fun r nr => ?_⟩
      have s4 := s3.trans (same_new (o := .tup [.ref kt, .ref D]) nr)
      refine q r _ (X1.sm.trans s4) ⟨kt, D, kvs, as, (X1.sm.trans s3).free nr, X.sm.free nkt, X1.sm.free nD, fun a ha => X1.sm.free (hf a ha), upd_same, ?_, ?_, ?_, nd⟩
      · exact s4 _ _ upd_same
      · exact same_new nr _ _ hD
      · exact ents_mono hE fun a _ o ho => same_new nr _ _ ho
theorem ok_done_by {f fI C : Addr} {fd fdI : FuncData} {k k1 k2 k3 : Nat} (g : Bl mg) (T : TD K mg C) (M : Mk K C fI) (GI : FnOk P w K mg base CX0 k1 fI fdI ["self", "kept", "taken"] (spInit K C)) (bI : Binds K fdI ["self", "kept", "taken"] [])
    (M2 : MCal P w K mg base C "do_act" k2 ["self", "act"] (spDoAct K C)) (M3 : MCal P w K mg base C "told" k3 ["self"] (spTold C)) (h1 : k1 + 1 ≤ k) (h2 : k2 ≤ k) (h3 : k3 ≤ k)
    (F : Fun K "done_by" "done_by" sDoneBy f fd) : FnOk P w K mg base CX0 (k + 1) f fd ["code", "kept", "taken"] (spDoneBy K) := by
  refine F.ok scDoneBy (fun vs H Q E h => ?_) (fun cdv A outer s H vs Q E hr h => ?_)
  · obtain ⟨c, kt, td, xs, acts, ks, tds, taken, s', rfl, _⟩ := h
    rfl
  · obtain ⟨c, kt, td, xs, acts, ks, tds, taken, s', rfl, hc, hp, hok, hal, hk, htd, he, nk, htl, hgood, hrun, q⟩ := h
    refine ⟨_, (pss_cons (ps_set (i := 3) scDoneBy.nd rfl (Or.inl rfl) (pe_make M GI (hr.mono h1) rfl T.mgC bI .nil pass0 (pa_cons (pv 1) (pa_cons (pv 2) pa_nil))))
  (pss_cons (ps_for PassesOwn.never rfl (pi_tup (pv 0)) (pg_name (i := 4) scDoneBy.nd rfl (Or.inl rfl))
    (pss_one (ps_expr (pe_m (pv 3) T.cl M2 hr h2 (ha := pa_cons (pv 4) pa_nil)))))
  (pss_one (ps_ret (pe_m0 (pv 3) T.cl M3 hr h3))))), ?_⟩
    refine ⟨_, rfl, _, rfl, fun x dx nx ndx ne => ?_⟩
    have nex : x ≠ dx := fun e => ne e.symm
    refine ⟨H, x, dx, kt, td, ks, tds, taken, rfl, upd_same, nx, ?_, hk, htd, he, nk, htl, fun H1 D1 => ⟨rfl, ?_⟩⟩
    · intro b o e
      rw [upd_ne (ne_of_none e nx), upd_ne (ne_of_none e ndx)]
      exact e
    have smD : ∀ {H2 : Hp} {t : DS}, DAt C H H2 x t → Same H H2 := fun ⟨_, _, _, _, _, _, _, _, _, X⟩ => X.sm
    have hlx : xs.length = acts.length := Paired.length hp
    refine ⟨_, rfl, c, rfl, ⟨xs, same_sqt (smD D1) hc⟩, for_tup (K := K) (xs := xs) (fun i σ H2 => ∃ (t : DS) (y : Option V), σ = [some (.ref c), some (.ref kt), some (.ref td), some (.ref x), y] ∧ DAt C H H2 x t ∧ runA ⟨[], ks, taken, []⟩ (acts.take i) = some t)
      ⟨_, none, rfl, D1, rfl⟩ (fun i σ H2 _ ⟨_, _, _, D, _⟩ => same_sqt (smD D) hc) ?_ ?_⟩
    · rintro i v σ H2 hi ⟨t, y, rfl, D, ht⟩
      obtain ⟨a, ha, hv⟩ := paired_get hp hi
      have hai : i < acts.length := (List.getElem?_eq_some_iff.mp ha).1
      obtain ⟨g1, b1⟩ := run_inv _ _ _ ht hgood (fun z hz => hok z (List.mem_of_mem_take hz)) 0 ⟨Nat.le_refl _, Nat.le_refl _, fun e he => nomatch he⟩
      have e1 : acts = acts.take i ++ a :: acts.drop (i + 1) := by
        have := List.take_append_drop i acts
        rw [List.drop_eq_getElem_cons hai] at this
        rw [List.getElem?_eq_getElem hai] at ha
        rw [Option.some.inj ha] at this
        exact this.symm
      rw [e1] at hrun
      obtain ⟨s1, r1, r2⟩ := runA_app _ _ _ _ hrun
      rw [ht] at r1
      cases r1
      have r2' : (match step t a with | some s' => runA s' (acts.drop (i + 1)) | none => none) = some s' := r2
      cases es : step t a with
      | none =>
        rw [es] at r2'
        cases r2'
      | some t1 =>
      have D0 := D
      obtain ⟨dx', pl, kp, tk, gv, tks, gvs, ta, ga, X⟩ := D
      refine ⟨_, rfl, x, dx', _, rfl, X.ob, flds_no4, _, rfl, ?_⟩
      refine ⟨H, x, v, t, t1, a, rfl, D0, actv_mono X.sm hv, hok a (List.mem_of_getElem? ha), g1, ?_, es, fun H3 D3 => ⟨t1, some v, rfl, D3, ?_⟩⟩
      · have hl := List.length_take_le i acts
        exact ⟨by have := b1.p; omega, by have := b1.g; omega, fun e he => by have := b1.e e he; omega⟩
      · rw [List.take_add_one, ha]
        exact (runA_snoc _ _ _ _ ht).trans es
    · rintro σ H2 ⟨t, y, rfl, D, ht⟩
      rw [hlx, List.take_length, hrun] at ht
      cases ht
      obtain ⟨g1, b1⟩ := run_inv _ _ _ hrun hgood hok 0 ⟨Nat.le_refl _, Nat.le_refl _, fun e he => nomatch he⟩
      have D0 := D
      obtain ⟨dx', pl, kp, tk, gv, tks, gvs, ta, ga, X⟩ := D
      refine ⟨_, rfl, x, dx', _, rfl, X.ob, flds_no5, ?_⟩
      exact ⟨H, x, s', rfl, D0, ⟨by have := b1.p; omega, by have := b1.g; omega, fun e he => by have := b1.e e he; omega⟩, fun r H3 s3 p3 => q r H3 s3 p3⟩
end
end Tw

/-! a tuple times a number, from 0 on -/
namespace Tw
open PySem PySem.Spec PyProof.Rows L2
theorem tuple_mul1 (l : Addr) (items : Array Value) (n : Nat) (dd : Option Addr) (sl : Array (Option Value)) (x : Int) (u : Tok) (c0 : (decide (x < -(2 ^ 63)) || decide (x ≥ 2 ^ 63)) = false) (c1 : (items.isEmpty || x == 1) = true) :
    Meets (Builtin.«tuple.__mul__» ⟨[.ref l, .int x u], []⟩) (fun _ R s => s.heap.get? l = some { cls := .type "tuple", dict := dd, data := .seq items n, slots := sl } ∧ R (.ok (.ret (Value.ref l))) s) :=
  .of_wp fun prog w A R s h => by
    obtain ⟨hp, g, d, tk, os⟩ := s
    obtain ⟨hl, h⟩ := h
    have f1 := AutoSeq1.idx_int
    wp_walk using wpAny_loadPart' hl
    repeat (first
      | (refine wpAny_ite_false (decide_eq_false (by rw [c0]; exact Bool.false_ne_true)) ?_; wp_walk using wpAny_loadPart' hl)
      | (refine wpAny_ite_true (decide_eq_true c1) ?_; wp_walk using wpAny_loadPart' hl))
    exact ⟨_, rfl, h⟩
/-- t * 1: t itself -/
def rRep1 (K : PySem.W.Frag) : R2 := fun x y H Q => ∃ l xs, x = .ref l ∧ y = .int 1 ∧ SqT K H l xs ∧ Q (.ref l) H
theorem op_rep1 {X : Cx} : OpR X (binaryOp .Mult) (rRep1 X.K) := by
  intro pins s σ H x y v u Q I rx ry h
  obtain ⟨l, xs, rfl, rfl, hT, q⟩ := h
  cases rx
  obtain ⟨t, rfl⟩ := ry
  obtain ⟨its, r, ⟨⟨cls, dd, data, sl⟩, ho, hc, n, hd⟩, hs⟩ := I.tuple hT
  simp only at hc hd
  subst hc hd
  refine wpAny_binaryOp_repeat_ref (T := "tuple") (U := "int") (by decide) ⟨_, ho, rfl⟩ (fun s' => typeIs_int s' 1 t) noFill_tuple_mul F.fills_int_mul F.slot_int_rmul repeat_tuple F.slot_int_index.lookup
    (call_meets F.slot_int_rmul (typeIs_int s 1 t) F.entry_int_rmul (F.args_int_rmul_2 _ _) (int_rmul_tuple 1 t l its.toArray n dd sl)
      ⟨ho, rfl, ⟨_, ho, rfl⟩, call_meets F.slot_tuple_mul ⟨_, ho, rfl⟩ F.entry_tuple_mul (F.args_tuple_mul_2 _ _) (tuple_mul1 l its.toArray n dd sl 1 t (by decide) (by rw [Bool.or_comm]; rfl)) ⟨ho, ?_⟩⟩)
  exact ⟨.ref l, H, I, rfl, q⟩
section
variable {X : Cx}
/-- t + u, t * k, t[a:b], tuple(x): some tuple of that, all else as it was -/
def rCatU (K : PySem.W.Frag) : R2 := fun x y H Q => ∃ a b xs ys, x = .ref a ∧ y = .ref b ∧ SqT K H a xs ∧ SqT K H b ys ∧ xs.length + ys.length ≤ 100000 ∧ ∀ p H', Same H H' → SqT K H' p (xs ++ ys) → Q (.ref p) H'
theorem op_catU : OpR X (binaryOp .Add) (rCatU X.K) := fun pins s σ H x y v u Q I rx ry h => by
  obtain ⟨a, b, xs, ys, e1, e2, ha, hb, hz, q⟩ := h
  refine op_catA pins s σ H x y v u Q I rx ry ⟨a, b, xs, ys, e1, e2, ha, hb, Nat.le_trans hz (by decide), fun e => ?_, fun _ e => ?_, fun _ _ p np => ?_⟩
  · subst e
    exact q b H (Same.refl H) hb
  · subst e
    exact q a H (Same.refl H) (by rw [List.append_nil]; exact ha)
  · exact q p _ (same_new np) (SqT.of upd_same)
def rRepU (K : PySem.W.Frag) : R2 := fun x y H Q => ∃ (l : Addr) (k : Nat) (xs : List V), x = .ref l ∧ y = .int (k : Int) ∧ SqT K H l xs ∧ xs ≠ [] ∧ 1 ≤ k ∧ k ≤ 1000 ∧ xs.length ≤ 1000 ∧ ∀ p H', Same H H' → SqT K H' p (List.replicate k xs).flatten → Q (.ref p) H'
theorem op_repU : OpR X (binaryOp .Mult) (rRepU X.K) := fun pins s σ H x y v u Q I rx ry h => by
  obtain ⟨l, k, xs, e1, e2, hl, hne, hk1, hk2, hz, q⟩ := h
  by_cases h1 : k = 1
  · subst h1
    refine op_rep1 pins s σ H x y v u Q I rx ry ⟨l, xs, e1, e2, hl, q l H (Same.refl H) ?_⟩
    show SqT X.K H l (xs ++ [])
    rw [List.append_nil]
    exact hl
  · refine op_repT pins s σ H x y v u Q I rx ry ⟨l, (k : Int), xs, e1, e2, hl, hne, by omega, by omega, hz, fun p np => q p _ (same_new np) (SqT.of ?_)⟩
    rw [upd_same]
    rfl
def rSlU (K : PySem.W.Frag) : V → Option Int → Option Int → Hp → VK → Prop := fun x lo hi H Q => ∃ a xs, x = .ref a ∧ SqT K H a xs ∧ ∀ p H', Same H H' → SqT K H' p (cutV xs lo hi) → Q (.ref p) H'
theorem cut_whole {xs : List V} {lo hi : Option Int} (h : HT.sIx xs.length 0 lo = 0 ∧ HT.sIx xs.length xs.length hi = xs.length) : cutV xs lo hi = xs := by
  unfold cutV
  rw [h.1, h.2, List.drop_zero, Nat.sub_zero, List.take_length]
theorem sl_tupU : SlR X (rSlU X.K) := fun pins s σ H x v vl vu lo hi sl Q I rx hs pl pu h => by
  obtain ⟨a, xs, e1, ha, q⟩ := h
  refine sl_tupA pins s σ H x v vl vu lo hi sl Q I rx hs pl pu ⟨a, xs, e1, ha, fun hw => ?_, fun _ p np => q p _ (same_new np) (SqT.of upd_same)⟩
  exact q a H (Same.refl H) (by rw [cut_whole hw]; exact ha)
def rTupU (K : PySem.W.Frag) : List V → Hp → VK → Prop := fun xs H Q => ∃ p ys, xs = [.ref p] ∧ (SqL K H p ys ∨ SqT K H p ys) ∧ ∀ l H', Same H H' → SqT K H' l ys → Q (.ref l) H'
theorem call_tupU : CallR X (.type "tuple") (rTupU X.K) := fun pins s σ H xs us Q I r h => by
  obtain ⟨p, ys, e1, h1, q⟩ := h
  refine call_tuple_of pins s σ H xs us Q I r ⟨p, ys, e1, ?_⟩
  rcases h1 with h1 | h1
  · exact .inl ⟨h1, fun l nl => q l _ (same_new nl) (SqT.of upd_same)⟩
  · exact .inr ⟨h1, q p H (Same.refl H) h1⟩
end
/-- what an expression comes to is told by R, then gone on with -/
def tCutE (te : TE) : TE := fun σ H Q => ∃ R : VK, te σ H R ∧ ∀ v H', R v H' → Q v H'
theorem pe_cut {X : Cx} {e : Expr} {te : TE} (he : PE X e te) : PE X e (tCutE te) := by
  refine ⟨fun pins s σ H Q I h => ?_⟩
  obtain ⟨R, h1, h2⟩ := h
  exact thn (he.run pins s σ H R I h1) fun v s1 ⟨x, H1, I1, r1, q1⟩ => ⟨x, H1, I1, r1, h2 x H1 q1⟩
/-- displays, without naming the heap -/
def tTupU (ta : TA) : TE := fun σ H Q => ta σ H fun vs H1 => vs.length ≤ 100000 ∧ ∀ p H', H1 p = none → Same H1 H' → H' p = some (.tup vs) → Q (.ref p) H'
def tLstU (ta : TA) : TE := fun σ H Q => ta σ H fun vs H1 => vs.length ≤ 100000 ∧ ∀ p H', H1 p = none → Same H1 H' → H' p = some (.lst vs) → Q (.ref p) H'
section
variable {X : Cx} {es : List Expr} {ta : TA} {pos : Pos} {k : Nat}
theorem pe_tupU (ha : PA X es ta) : PE X (.Tuple es k pos) (tTupU ta) := by
  refine ⟨fun pins s σ H Q I hq => wpAny_Tuple_spliced ?_⟩
  refine thn (ha.run pos pins s σ H _ I hq) fun us s1 ⟨vs, H1, I1, r, z, q⟩ => ?_
  have z' : vs.length ≤ sizeLine := Nat.le_trans z (by decide)
  have fr := I1.hok.fresh (Nat.le_refl s1.heap.objs.size)
  have new : Inv X pins σ (upd H1 s1.heap.objs.size (.tup vs)) _ := I1.laid (h' := s1.heap.push { cls := .type "tuple", data := .seq us.toArray }) (t' := s1.toks)
    (fun b u e => Heap.get?_push_of_some _ e) (Nat.le_refl _) ⟨z', us, r, ⟨_, Heap.get?_push_size _ rfl, rfl, _, rfl⟩⟩
  exact ⟨by rw [← r.length]; exact z', .ref s1.heap.objs.size, _, new, rfl, q _ _ fr (same_new fr) upd_same⟩
theorem pe_lstU (ha : PA X es ta) : PE X (.List es pos) (tLstU ta) := by
  refine ⟨fun pins s σ H Q I hq => wpAny_List_spliced ?_⟩
  refine thn (ha.run pos pins s σ H _ I hq) fun us s1 ⟨vs, H1, I1, r, z, q⟩ => ?_
  have z' : vs.length ≤ sizeLine := Nat.le_trans z (by decide)
  have fr := I1.hok.fresh (Nat.le_refl s1.heap.objs.size)
  have new : Inv X pins σ (upd H1 s1.heap.objs.size (.lst vs)) _ := I1.laid (h' := s1.heap.push { cls := .type "list", data := .seq us.toArray }) (t' := s1.toks)
    (fun b u e => Heap.get?_push_of_some _ e) (Nat.le_refl _) ⟨z', us, _, r, Heap.get?_push_size _ rfl⟩
  exact ⟨by rw [← r.length]; exact z', .ref s1.heap.objs.size, _, new, rfl, q _ _ fr (same_new fr) upd_same⟩
end
/-! lists: +, list(x), slices -/
section
variable {X : Cx}
def rCatL (K : PySem.W.Frag) : R2 := fun x y H Q => ∃ l b xs zs, x = .ref l ∧ y = .ref b ∧ H l = some (.lst xs) ∧ H b = some (.lst zs) ∧ xs.length + zs.length ≤ 100000 ∧ ∀ p H', H p = none → Same H H' → H' p = some (.lst (xs ++ zs)) → Q (.ref p) H'
theorem op_catL : OpR X (binaryOp .Add) (rCatL X.K) := fun pins s σ H x y v u Q I rx ry h => by
  obtain ⟨l, b, xs, zs, e1, e2, hl, hb, hz, q⟩ := h
  exact op_cat pins s σ H x y v u Q I rx ry ⟨l, b, xs, zs, e1, e2, hl, hb, Nat.le_trans hz (by decide), fun p np => q p _ np (same_new np) upd_same⟩
def rLstU (K : PySem.W.Frag) : List V → Hp → VK → Prop := fun xs H Q => ∃ p ys, xs = [.ref p] ∧ (SqL K H p ys ∨ SqT K H p ys) ∧ ∀ l H', H l = none → Same H H' → H' l = some (.lst ys) → Q (.ref l) H'
theorem call_lstU : CallR X (.type "list") (rLstU X.K) := fun pins s σ H xs us Q I r h => by
  obtain ⟨p, ys, e1, h1, q⟩ := h
  exact call_list_of pins s σ H xs us Q I r ⟨p, ys, e1, h1, fun l nl => q l _ nl (same_new nl) upd_same⟩
def rSlLU (K : PySem.W.Frag) : V → Option Int → Option Int → Hp → VK → Prop := fun x lo hi H Q => ∃ a xs, x = .ref a ∧ SqL K H a xs ∧ ∀ p H', H p = none → Same H H' → H' p = some (.lst (cutV xs lo hi)) → Q (.ref p) H'
theorem sl_lstU : SlR X (rSlLU X.K) := fun pins s σ H x v vl vu lo hi sl Q I rx hs pl pu h => by
  obtain ⟨a, xs, e1, ha, q⟩ := h
  exact sl_list pins s σ H x v vl vu lo hi sl Q I rx hs pl pu ⟨a, xs, e1, ha, fun p np => q p _ np (same_new np) upd_same⟩
end
def rRepA (K : PySem.W.Frag) : R2 := fun x y H Q => rRepT K x y H Q ∨ rRep1 K x y H Q
theorem op_repA {X : Cx} : OpR X (binaryOp .Mult) (rRepA X.K) := OpR.or op_repT op_rep1
end Tw

namespace Tw
open PySem PySem.Spec PyProof.Rows L2
abbrev sSame : Stmt := topS 13
theorem scSame : FnScope ["_law_found", "_law_due", "_law_one", "_law_other"] ["_law_found", "_law_due"] (defScope sSame) := ⟨rfl, rfl, rfl, by decide +kernel, rfl, by decide +kernel, by decide +kernel⟩
section
variable {P : Program} {w : World} {K : PySem.W.Frag} {mg : Str → Option Value} {base : Heap}
theorem ok_same {f : Addr} {fd : FuncData} (g : Bl mg) (F : Fun K "_law_same" "_law_same" sSame f fd) (hm : mg "_law_same" = some (.ref f)) (hb : Binds K fd ["_law_found", "_law_due"] []) (n : Nat) : FnOk P w K mg base CX0 (n + 2) f fd ["_law_found", "_law_due"] (spSame K n) := by
  refine F.ok scSame (fun vs H Q E h => ?_) (fun cdv A outer s H vs Q E hr h => ?_)
  · obtain ⟨x, y, d, rfl, _⟩ := h
    rfl
  · -- the call of itself: one storey less
    obtain ⟨j, sp, hsp, C_law_same⟩ : ∃ (j : Nat) (sp : Sp), (∀ m, n = m + 1 → sp = spSame K m) ∧ j ≤ n + 1 ∧ Cal P w K mg base "_law_same" j ["_law_found", "_law_due"] sp := by
      cases n with
      | zero => exact ⟨1, fun _ _ _ _ => False, fun m e => (by omega), by omega, ⟨f, fd, ⟨fun _ _ _ _ h => h.elim, fun _ _ _ _ _ _ _ _ _ _ _ _ _ h => h.elim⟩, hm, F.kp, hb⟩⟩
      | succ m => exact ⟨m + 2, spSame K m, fun m' e => by cases e; rfl, by omega, ⟨f, fd, ok_same g F hm hb m, hm, F.kp, hb⟩⟩
    obtain ⟨hj, C_law_same⟩ := C_law_same
    obtain ⟨x, y, d, rfl, hx, hy, hd, q⟩ := h
    refine ⟨_, (pss_cons (ps_if (pt_val (pe_callB call_isiT (by rfl) g.isinstance boot_isinstance (pa_cons (pv 1) (pa_cons (pe_tup (pa_cons (pe_bltn (v := .ty "list") rfl g.list PyProof.Rows.boot_list rfl) (pa_cons (pe_bltn (v := .ty "tuple") rfl g.tuple PyProof.Rows.boot_tuple rfl) pa_nil))) pa_nil))))
    (pss_cons (ps_if (PW.pt (pw_or (pt_cmpR op_ne (pe_callB call_isi (by rfl) g.isinstance boot_isinstance (pa_cons (pv 0) (pa_cons (pe_bltn (v := .ty "list") rfl g.list PyProof.Rows.boot_list rfl) pa_nil))) (pe_callB call_isi (by rfl) g.isinstance boot_isinstance (pa_cons (pv 1) (pa_cons (pe_bltn (v := .ty "list") rfl g.list PyProof.Rows.boot_list rfl) pa_nil))) (nomark _)) (pw_or1 (pt_cmpR op_ne (pe_callB call_isi (by rfl) g.isinstance boot_isinstance (pa_cons (pv 0) (pa_cons (pe_bltn (v := .ty "tuple") rfl g.tuple PyProof.Rows.boot_tuple rfl) pa_nil))) (pe_callB call_isi (by rfl) g.isinstance boot_isinstance (pa_cons (pv 1) (pa_cons (pe_bltn (v := .ty "tuple") rfl g.tuple PyProof.Rows.boot_tuple rfl) pa_nil))) (nomark _)))))
      (pss_one (ps_ret pe_bl))
      pss_nil)
    (pss_one (ps_ret (pe_and (pe_cmpR op_eq (pe_callB call_len_seq (by rfl) g.len PySem.boot_len (pa_cons (pv 0) pa_nil)) (pe_callB call_len_seq (by rfl) g.len PySem.boot_len (pa_cons (pv 1) pa_nil)) (nomark _)) (pe_one (pe_callB (cr_all rfl) (by rfl) g.all boot_all (pa_cons (pe_lc (own := [("_law_one", 2), ("_law_other", 3)]) (g := gTup K 2 (gCons (gName 2) (gCons (gName 3) gNil))) (tt := tYes) rfl scSame.nd (RZ.pi_zipA (by rfl) g.zip (pa_cons (pv 0) (pa_cons (pv 1) pa_nil))) (blkOk_by (own := [("_law_one", 2), ("_law_other", 3)]) (N := ["_law_found", "_law_due", "_law_one", "_law_other"]) (sc := defScope sSame) (by decide +kernel)) (fun _ _ _ _ _ => (pg_tup rfl (pgs_cons (pg_name (i := 2) scSame.nd rfl (Or.inl rfl)) (pgs_cons (pg_name (i := 3) scSame.nd rfl (Or.inl rfl)) pgs_nil)))) (fun _ _ _ _ _ => pts_nil) (fun _ _ _ _ _ => (pe_c C_law_same hr hj (ha := (pa_cons (pv 2) (pa_cons (pv 3) pa_nil)))))) pa_nil)))))))
    pss_nil)
  (pss_cons (ps_if (PW.pt (pw_or (pt_cmpR op_isN (pv 1) pe_non (nomark _)) (pw_or1 (pt_val (pe_callB call_isiT (by rfl) g.isinstance boot_isinstance (pa_cons (pv 1) (pa_cons (pe_tup (pa_cons (pe_bltn (v := .ty "str") rfl g.str PyProof.Rows.boot_str rfl) (pa_cons (pe_bltn (v := .ty "bool") rfl g.bool PyProof.Rows.boot_bool rfl) pa_nil))) pa_nil)))))))
    (pss_one (ps_ret (pe_and (pe_cmpR op_eq (pe_callB call_isi (by rfl) g.isinstance boot_isinstance (pa_cons (pv 0) (pa_cons (pe_bltn (v := .ty "bool") rfl g.bool PyProof.Rows.boot_bool rfl) pa_nil))) (pe_callB call_isi (by rfl) g.isinstance boot_isinstance (pa_cons (pv 1) (pa_cons (pe_bltn (v := .ty "bool") rfl g.bool PyProof.Rows.boot_bool rfl) pa_nil))) (nomark _)) (pe_one (pe_cmpR op_eq (pv 0) (pv 1) (nomark _))))))
    pss_nil)
  (pss_one (ps_ret (pe_and (pe_callB call_isi (by rfl) g.isinstance boot_isinstance (pa_cons (pv 0) (pa_cons (pe_bltn (v := .ty "int") rfl g.int PyProof.Rows.boot_int rfl) pa_nil))) (pe_and (pe_not (pe_callB call_isi (by rfl) g.isinstance boot_isinstance (pa_cons (pv 0) (pa_cons (pe_bltn (v := .ty "bool") rfl g.bool PyProof.Rows.boot_bool rfl) pa_nil)))) (pe_one (pe_cmpR op_eq (pv 0) (pv 1) (nomark _))))))))), ?_⟩
    have h2 : 2 ≤ sizeLine := by decide
    cases hy with
    | non =>
      cases hx
      refine ⟨_, rfl, h2, fun tp np => ⟨_, tp, _, _, [.type "list", .type "tuple"], false, rfl, upd_same, .cons (.ty _) (.cons (.ty _) .nil), .base .non, any2 (x := false) (y := false) (by decide +kernel) (by decide +kernel), _, rfl, iteF ?_⟩⟩
      refine ⟨_, rfl, rfl, _, rfl, iteT (iteT ?_)⟩
      refine ⟨_, rfl, _, _, _, _, false, rfl, .ty _, .base .non, kit_ty (by decide +kernel), _, rfl, _, _, _, _, false, rfl, .ty _, .base .non, kit_ty (by decide +kernel), rfl, _, rfl, iteT ?_⟩
      exact ⟨_, rfl, _, rfl, rfl, q _ (same_new np)⟩
    | bl b =>
      cases hx
      refine ⟨_, rfl, h2, fun tp np => ⟨_, tp, _, _, [.type "list", .type "tuple"], false, rfl, upd_same, .cons (.ty _) (.cons (.ty _) .nil), .base (.bl b), any2 (x := false) (y := false) (by decide +kernel) (by decide +kernel), _, rfl, iteF ?_⟩⟩
      refine ⟨_, rfl, rfl, _, rfl, iteF ?_⟩
      refine ⟨_, rfl, h2, fun tq nq => ⟨_, tq, _, _, [.type "str", .type "bool"], true, rfl, upd_same, .cons (.ty _) (.cons (.ty _) .nil), .base (.bl b), any2 (x := false) (y := true) (by decide +kernel) (by decide +kernel), _, rfl, iteT ?_⟩⟩
      refine ⟨_, rfl, _, _, _, _, true, rfl, .ty _, .base (.bl b), kit_ty (by decide +kernel), _, rfl, _, _, _, _, true, rfl, .ty _, .base (.bl b), kit_ty (by decide +kernel), rfl, _, rfl, iteT ?_⟩
      refine ⟨_, rfl, _, rfl, rfl, ?_⟩
      rw [decide_eq_true rfl]
      exact q _ ((same_new np).trans (same_new nq))
    | int i =>
      cases hx
      refine ⟨_, rfl, h2, fun tp np => ⟨_, tp, _, _, [.type "list", .type "tuple"], false, rfl, upd_same, .cons (.ty _) (.cons (.ty _) .nil), .base (.int i), any2 (x := false) (y := false) (by decide +kernel) (by decide +kernel), _, rfl, iteF ?_⟩⟩
      refine ⟨_, rfl, rfl, _, rfl, iteF ?_⟩
      refine ⟨_, rfl, h2, fun tq nq => ⟨_, tq, _, _, [.type "str", .type "bool"], false, rfl, upd_same, .cons (.ty _) (.cons (.ty _) .nil), .base (.int i), any2 (x := false) (y := false) (by decide +kernel) (by decide +kernel), _, rfl, iteF ?_⟩⟩
      refine ⟨_, rfl, _, _, _, _, true, rfl, .ty _, .base (.int i), kit_ty (by decide +kernel), _, rfl, iteT ?_⟩
      refine ⟨_, rfl, _, _, _, _, false, rfl, .ty _, .base (.int i), kit_ty (by decide +kernel), _, rfl, _, rfl, iteT ?_⟩
      refine ⟨_, rfl, _, rfl, rfl, ?_⟩
      rw [decide_eq_true rfl]
      exact q _ ((same_new np).trans (same_new nq))
    | str z =>
      cases hx
      refine ⟨_, rfl, h2, fun tp np => ⟨_, tp, _, _, [.type "list", .type "tuple"], false, rfl, upd_same, .cons (.ty _) (.cons (.ty _) .nil), .base (.str z), any2 (x := false) (y := false) (by decide +kernel) (by decide +kernel), _, rfl, iteF ?_⟩⟩
      refine ⟨_, rfl, rfl, _, rfl, iteF ?_⟩
      refine ⟨_, rfl, h2, fun tq nq => ⟨_, tq, _, _, [.type "str", .type "bool"], true, rfl, upd_same, .cons (.ty _) (.cons (.ty _) .nil), .base (.str z), any2 (x := true) (y := false) (by decide +kernel) (by decide +kernel), _, rfl, iteT ?_⟩⟩
      refine ⟨_, rfl, _, _, _, _, false, rfl, .ty _, .base (.str z), kit_ty (by decide +kernel), _, rfl, _, _, _, _, false, rfl, .ty _, .base (.str z), kit_ty (by decide +kernel), rfl, _, rfl, iteT ?_⟩
      refine ⟨_, rfl, _, rfl, rfl, ?_⟩
      rw [decide_eq_true rfl]
      exact q _ ((same_new np).trans (same_new nq))
    | @lst b ys ds hb' ay =>
      cases hx with
      | @lst a xs _ ha' ax =>
      cases n with
      | zero => exact hd.elim
      | succ m =>
      cases hsp m rfl
      obtain ⟨hz, hds⟩ := hd
      have hl : xs.length = ys.length := (dpa_len ax).trans (dpa_len ay).symm
      refine ⟨_, rfl, h2, fun tp np => ⟨_, tp, _, _, [.type "list", .type "tuple"], true, rfl, upd_same, .cons (.ty _) (.cons (.ty _) .nil), sqL_ty ((same_new np).seq hb'), any2 (x := true) (y := false) (by decide +kernel) (by decide +kernel), _, rfl, iteT ?_⟩⟩
      have s1 : Same H (upd H tp (.tup [.ty "list", .ty "tuple"])) := same_new np
      refine ⟨_, rfl, _, _, _, _, true, rfl, .ty _, sqL_ty (s1.seq ha'), kit_ty (by decide +kernel), _, rfl, _, _, _, _, true, rfl, .ty _, sqL_ty (s1.seq hb'), kit_ty (by decide +kernel), rfl, _, rfl, iteNS rfl ?_⟩
      refine ⟨_, rfl, _, _, _, _, false, rfl, .ty _, sqL_ty (s1.seq ha'), kit_ty (by decide +kernel), _, rfl, _, _, _, _, false, rfl, .ty _, sqL_ty (s1.seq hb'), kit_ty (by decide +kernel), rfl, _, rfl, iteNS rfl ?_⟩
      refine ⟨_, rfl, a, xs, rfl, .inl (s1.seq ha'), _, rfl, b, ys, rfl, .inl (s1.seq hb'), rfl, _, rfl, ite2 (fun _ => ?_) (fun e => absurd (decide_eq_true (by rw [hl])) e)⟩
      refine ⟨_, rfl, _, rfl, a, b, xs, ys, rfl, .inl ⟨s1.seq ha', s1.seq hb', fun D nD => ?_⟩⟩
      refine lc_zipL hl (fun i H3 => Same H H3 ∧ H3 D = some (.lst (List.replicate i (.bl true))) ∧ H D = none) ⟨s1.trans (same_new nD), upd_same, s1.free nD⟩ (fun i H3 p => ⟨p.1.seq ha', p.1.seq hb'⟩) (fun i x y T H3 hx' hy' p nT => ?_) (fun H3 p => ?_)
      · obtain ⟨p1, p2, p3⟩ := p
        obtain ⟨d1, e1, f1⟩ := dpa_get ax hx'
        obtain ⟨d2, e2, f2⟩ := dpa_get ay hy'
        rw [e1] at e2
        cases e2
        have hi : i < xs.length := (List.getElem?_eq_some_iff.mp hx').1
        have s3 : Same H (upd H3 T (.tup [x, y])) := p1.trans (same_new nT)
        refine ⟨T, [x, y], rfl, .inl (.inl upd_same), rfl, x, [y], rfl, y, [], rfl, rfl, rfl, ?_⟩
        refine ⟨_, rfl, _, rfl, x, y, d1, rfl, dp_mono s3 f1, dp_mono s3 f2, hds _ (List.mem_of_getElem? e1), fun H5 s5 => ?_⟩
        refine ⟨List.replicate i (.bl true), s5 _ _ ((same_new nT) _ _ p2), ?_, same_mut (s3.trans s5) p3, ?_, p3⟩
        · rw [List.length_replicate]
          have : sizeLine = 16777216 := rfl
          have := dpa_len ax
          omega
        · rw [upd_same, List.replicate_succ']
      · obtain ⟨p1, p2, p3⟩ := p
        refine ⟨D, List.replicate xs.length true, rfl, ?_, ?_⟩
        · refine .inl (.inl ?_)
          rw [p2, List.map_replicate]
        · have e : (List.replicate xs.length true).all id = true := by
            rw [List.all_eq_true]
            intro b hb
            exact (List.mem_replicate.mp hb).2
          rw [e]
          exact q _ p1
    | @tup b ys ds hb' ay =>
      cases hx with
      | @tup a xs _ ha' ax =>
      cases n with
      | zero => exact hd.elim
      | succ m =>
      cases hsp m rfl
      obtain ⟨hz, hds⟩ := hd
      have hl : xs.length = ys.length := (dpa_len ax).trans (dpa_len ay).symm
      refine ⟨_, rfl, h2, fun tp np => ⟨_, tp, _, _, [.type "list", .type "tuple"], true, rfl, upd_same, .cons (.ty _) (.cons (.ty _) .nil), sqT_ty (same_sqt (same_new np) hb'), any2 (x := false) (y := true) (by decide +kernel) (by decide +kernel), _, rfl, iteT ?_⟩⟩
      have s1 : Same H (upd H tp (.tup [.ty "list", .ty "tuple"])) := same_new np
      refine ⟨_, rfl, _, _, _, _, false, rfl, .ty _, sqT_ty (same_sqt s1 ha'), kit_ty (by decide +kernel), _, rfl, _, _, _, _, false, rfl, .ty _, sqT_ty (same_sqt s1 hb'), kit_ty (by decide +kernel), rfl, _, rfl, iteNS rfl ?_⟩
      refine ⟨_, rfl, _, _, _, _, true, rfl, .ty _, sqT_ty (same_sqt s1 ha'), kit_ty (by decide +kernel), _, rfl, _, _, _, _, true, rfl, .ty _, sqT_ty (same_sqt s1 hb'), kit_ty (by decide +kernel), rfl, _, rfl, iteNS rfl ?_⟩
      refine ⟨_, rfl, a, xs, rfl, .inr (same_sqt s1 ha'), _, rfl, b, ys, rfl, .inr (same_sqt s1 hb'), rfl, _, rfl, ite2 (fun _ => ?_) (fun e => absurd (decide_eq_true (by rw [hl])) e)⟩
      refine ⟨_, rfl, _, rfl, a, b, xs, ys, rfl, .inr ⟨same_sqt s1 ha', same_sqt s1 hb', fun D nD => ?_⟩⟩
      refine lc_zipT hl (fun i H3 => Same H H3 ∧ H3 D = some (.lst (List.replicate i (.bl true))) ∧ H D = none) ⟨s1.trans (same_new nD), upd_same, s1.free nD⟩ (fun i H3 p => ⟨same_sqt p.1 ha', same_sqt p.1 hb'⟩) (fun i x y T H3 hx' hy' p nT => ?_) (fun H3 p => ?_)
      · obtain ⟨p1, p2, p3⟩ := p
        obtain ⟨d1, e1, f1⟩ := dpa_get ax hx'
        obtain ⟨d2, e2, f2⟩ := dpa_get ay hy'
        rw [e1] at e2
        cases e2
        have hi : i < xs.length := (List.getElem?_eq_some_iff.mp hx').1
        have s3 : Same H (upd H3 T (.tup [x, y])) := p1.trans (same_new nT)
        refine ⟨T, [x, y], rfl, .inl (.inl upd_same), rfl, x, [y], rfl, y, [], rfl, rfl, rfl, ?_⟩
        refine ⟨_, rfl, _, rfl, x, y, d1, rfl, dp_mono s3 f1, dp_mono s3 f2, hds _ (List.mem_of_getElem? e1), fun H5 s5 => ?_⟩
        refine ⟨List.replicate i (.bl true), s5 _ _ ((same_new nT) _ _ p2), ?_, same_mut (s3.trans s5) p3, ?_, p3⟩
        · rw [List.length_replicate]
          have : sizeLine = 16777216 := rfl
          have := dpa_len ax
          omega
        · rw [upd_same, List.replicate_succ']
      · obtain ⟨p1, p2, p3⟩ := p
        refine ⟨D, List.replicate xs.length true, rfl, ?_, ?_⟩
        · refine .inl (.inl ?_)
          rw [p2, List.map_replicate]
        · have e : (List.replicate xs.length true).all id = true := by
            rw [List.all_eq_true]
            intro b hb
            exact (List.mem_replicate.mp hb).2
          rw [e]
          exact q _ p1
termination_by n
end
end Tw

/-! _law_told -/
namespace Tw
open PySem PySem.Spec PyProof.Rows L2
abbrev sLTold : Stmt := topS 14
theorem scLTold : FnScope ["_law_acts", "_law_numbers", "_law_places", "_law_code", "_law_left", "_law_act", "_law_kept", "_law_given", "_law_number"] ["_law_acts", "_law_numbers", "_law_places"] (defScope sLTold) := ⟨rfl, rfl, rfl, by decide +kernel, rfl, by decide +kernel, by decide +kernel⟩
def headS : Act → Str
  | .take _ => "take" | .give _ => "give" | .num _ => "number" | .keep _ => "keep" | .kept _ => "kept" | .wrd w => w
def delta : Act → Int
  | .kept _ => 1
  | .wrd w => if w = "twice" then 1 else if w = "swap" then 0 else if w = "pick" then -2 else -1
  | _ => -1
def kvs4 : List (Key × V) := [(Sum.inr "twice", .int 1), (Sum.inr "kept", .int 1), (Sum.inr "swap", .int 0), (Sum.inr "pick", .int (-2))]
theorem delta_get {a : Act} (h : actOk a) : (valV (mergeK [] kvs4) (Sum.inr (headS a) : Key)).getD (.int (-1)) = .int (delta a) := by
  cases a with
  | wrd w =>
    have hm : w ∈ words8 := h
    simp only [words8, List.mem_cons, List.not_mem_nil, or_false] at hm
    rcases hm with rfl | rfl | rfl | rfl | rfl | rfl | rfl | rfl <;> rfl
  | _ => rfl
theorem actV_head (a : Act) : ∃ r, actV a = .str (headS a) :: r := by
  cases a <;> exact ⟨_, rfl⟩
def sumD (as : List Act) : Int := (as.map delta).sum
theorem sumD_take {as : List Act} {i : Nat} {a : Act} (h : as[i]? = some a) : sumD (as.take (i + 1)) = sumD (as.take i) + delta a := by
  unfold sumD
  rw [List.take_add_one, h, List.map_append, List.sum_append]
  show _ + (delta a + 0) = _
  omega
theorem paired_mono {α β : Type} {F G : α → β → Prop} (k : ∀ a b, F a b → G a b) : ∀ {xs : List α} {ys : List β}, Paired F xs ys → Paired G xs ys
  | _, _, .nil => .nil
  | _, _, .cons h r => .cons (k _ _ h) (paired_mono k r)
theorem paired_app {α β : Type} {F : α → β → Prop} : ∀ {xs : List α} {ys : List β} {xs' : List α} {ys' : List β}, Paired F xs ys → Paired F xs' ys' → Paired F (xs ++ xs') (ys ++ ys')
  | _, _, _, _, .nil, q => q
  | _, _, _, _, .cons h r, q => .cons h (paired_app r q)
theorem paired_rep {α β : Type} {F : α → β → Prop} {x : α} {y : β} (h : F x y) : ∀ n, Paired F (List.replicate n x) (List.replicate n y)
  | 0 => .nil
  | n + 1 => .cons h (paired_rep h n)
theorem flat_rep {α : Type} (x : α) : ∀ n, (List.replicate n [x]).flatten = List.replicate n x
  | 0 => rfl
  | n + 1 => by
    rw [List.replicate_succ, List.flatten_cons, flat_rep x n]
    rfl
theorem dpa_ints {K : PySem.W.Frag} {H : Hp} : ∀ ns : List Int, DpAll K H (ns.map V.int) (ns.map PyData.int)
  | [] => .nil
  | n :: r => .cons (.int n) (dpa_ints r)
def spLTold (K : PySem.W.Frag) : Sp := fun vs H Q _ => ∃ (ac nu plc : Addr) (xs : List V) (acts : List Act) (ns ks : List Int) (m : Nat) (s' : DS), vs = [.ref ac, .ref nu, .ref plc] ∧ SqT K H ac xs ∧ Paired (ActV K H) xs acts ∧ (∀ a ∈ acts, actOk a) ∧ acts.length ≤ 100 ∧
  SqL K H nu (ns.map V.int) ∧ ns.length ≤ 100 ∧ (∀ x ∈ ns, it x) ∧ SqT K H plc (ks.map V.int) ∧ (∀ x ∈ ks, it x) ∧ 1 ≤ m ∧ m ≤ 100 ∧ (ns.length : Int) + sumD acts = (m : Int) ∧ runA ⟨[], ks, [], []⟩ (ns.map Act.num ++ acts ++ List.replicate m (.give "t")) = some s' ∧
  ∀ r H', Same H H' → Dp K H' (.ref r) (.tuple [.tuple (s'.kept.map PyData.int), .list (((lk s'.given "t").getD []).map PyData.int)]) → Q (.ref r) H'
section
variable {P : Program} {w : World} {K : PySem.W.Frag} {mg : Str → Option Value} {base : Heap}
theorem ok_ltold {f : Addr} {fd : FuncData} {k k1 : Nat} (g : Bl mg) (Cdone_by : Cal P w K mg base "done_by" k1 ["code", "kept", "taken"] (spDoneBy K)) (h1 : k1 ≤ k)
    (F : Fun K "_law_told" "_law_told" sLTold f fd) : FnOk P w K mg base CX0 (k + 1) f fd ["_law_acts", "_law_numbers", "_law_places"] (spLTold K) := by
  refine F.ok scLTold (fun vs H Q E h => ?_) (fun cdv A outer s H vs Q E hr h => ?_)
  · obtain ⟨ac, nu, plc, xs, acts, ns, ks, m, s', rfl, _⟩ := h
    rfl
  · obtain ⟨ac, nu, plc, xs, acts, ns, ks, m, s', rfl, hac, hp, hok, hal, hnu, hnl, hni, hpl, hki, hm1, hm2, hsum, hrun, q⟩ := h
    refine ⟨_, (pss_cons (ps_par (i := 3) (j := 4) rfl scLTold.nd rfl rfl (by decide) rfl rfl (pa_cons (pe_op op_catU (pe_callTy call_tupU (by rfl) g.tuple PyProof.Rows.boot_tuple (pa_cons (pe_lc (own := [("_law_number", 8)]) (g := gName 8) (tt := tYes) rfl scLTold.nd (pi_list (pv 1)) (blkOk_by (own := [("_law_number", 8)]) (N := ["_law_acts", "_law_numbers", "_law_places", "_law_code", "_law_left", "_law_act", "_law_kept", "_law_given", "_law_number"]) (sc := defScope sLTold) (by decide +kernel)) (fun _ _ _ _ _ => (pg_name (i := 8) scLTold.nd rfl (Or.inl rfl))) (fun _ _ _ _ _ => pts_nil) (fun _ _ _ _ _ => (pe_tup (pa_cons pe_str (pa_cons (pv 8) pa_nil))))) pa_nil)) (pv 0)) (pa_cons (pe_callB call_len_seq (by rfl) g.len PySem.boot_len (pa_cons (pv 1) pa_nil)) pa_nil)) rfl)
  (pss_cons (ps_for PassesOwn.never rfl (pi_tup (pv 0)) (pg_name (i := 5) scLTold.nd rfl (Or.inl rfl))
    (pss_one (ps_set (i := 4) scLTold.nd rfl (Or.inl rfl) (pe_op op_add (pv 4) (pe_dget2 (hu_of hr) (pe_disp (pps_cons pe_str pe_int (pps_cons pe_str pe_int (pps_cons pe_str pe_int (pps_cons pe_str (pe_un un_neg pe_int) pps_nil)))) (by rfl) (by rfl) (fun z => by cases z) (by decide)) (pe_ix ix_tup (pv 5) pe_int (fun _ _ => rfl)) (pe_un un_neg pe_int) ⟨rfl, rfl, rfl, rfl⟩)))))
  (pss_cons (ps_asg (pe_c Cdone_by hr h1 (ha := (pa_cons (pe_op op_catU (pv 3) (pe_op op_repU (pe_tup (pa_cons (pe_tup (pa_cons pe_str (pa_cons pe_str pa_nil))) pa_nil)) (pv 4))) (pa_cons (pv 2) (pa_cons pe_dnewK pa_nil))))) (pg_tup rfl (pgs_cons (pg_name (i := 6) scLTold.nd rfl (Or.inl rfl)) (pgs_cons (pg_name (i := 7) scLTold.nd rfl (Or.inl rfl)) pgs_nil))))
  (pss_one (ps_ret (pe_tup (pa_cons (pv 6) (pa_cons (pe_dget2 (hu_of hr) (pv 7) pe_str (pe_lst pa_nil) ⟨rfl, rfl, rfl, rfl⟩) pa_nil)))))))), ?_⟩
    have hlx : xs.length = acts.length := Paired.length hp
    have z : sizeLine = 16777216 := rfl
    -- [("number", n) for n in numbers]
    refine ⟨_, rfl, nu, rfl, ⟨_, hnu⟩, fun D nD => ?_⟩
    refine lc_list (K := K) (a := nu) (xs := ns.map V.int) (fun i H3 => Same H H3 ∧ ∃ ps, H3 D = some (.lst ps) ∧ Paired (ActV K H3) ps ((ns.take i).map Act.num)) ⟨same_new nD, [], upd_same, .nil⟩ (fun i H3 _ p => p.1.seq hnu) ?_ ?_
    · rintro i x H3 hi ⟨s3, ps, d3, pp⟩
      have hil : i < ns.length := by
        have := (List.getElem?_eq_some_iff.mp hi).1
        rw [List.length_map] at this
        exact this
      have ex : x = .int ns[i] := by
        rw [List.getElem?_map, List.getElem?_eq_getElem hil] at hi
        exact (Option.some.inj hi).symm
      subst ex
      have hpl' : ps.length = (ns.take i).length := (Paired.length pp).trans (List.length_map _)
      refine ⟨rfl, ?_⟩
      refine ⟨_, rfl, (by show 2 ≤ sizeLine; decide), fun T nT => ?_⟩
      have nTD : D ≠ T := ne_of_none d3 nT
      have s4 : Same H3 (upd H3 T (.tup [.str "number", .int ns[i]])) := same_new nT
      refine ⟨ps, s4 _ _ d3, ?_, same_mut (s3.trans s4) nD, ps ++ [.ref T], upd_same, ?_⟩
      · rw [hpl', List.length_take]
        omega
      · have mono : ∀ v a, ActV K H3 v a → ActV K (upd (upd H3 T (.tup [.str "number", .int ns[i]])) D (.lst (ps ++ [.ref T]))) v a := fun v a ⟨qq, e, h⟩ => by
          refine ⟨qq, e, ?_⟩
          have h' := same_sqt s4 h
          rcases h' with (h' | ⟨o, h'⟩) | h'
          · refine .inl (.inl ?_)
            rw [upd_ne (fun e => by rw [e, s4 _ _ d3] at h'; cases h')]
            exact h'
          · refine .inl (.inr ⟨o, ?_⟩)
            rw [upd_ne (fun e => by rw [e, s4 _ _ d3] at h'; cases h')]
            exact h'
          · exact .inr h'
        rw [List.take_add_one, List.getElem?_eq_getElem hil, List.map_append]
        refine paired_app (paired_mono mono pp) (.cons ⟨T, rfl, SqT.of ?_⟩ .nil)
        rw [upd_ne nTD.symm, upd_same]
        rfl
    · rintro H3 ⟨s3, ps, d3, pp⟩
      rw [List.length_map, List.take_length] at pp
      have hpsl : ps.length = ns.length := (Paired.length pp).trans (List.length_map _)
      -- tuple(..) + acts, len(numbers)
      refine ⟨D, ps, rfl, .inl (SqL.of d3), fun t1 H4 s4 ht1 => ?_⟩
      have s04 : Same H H4 := s3.trans s4
      refine ⟨_, rfl, t1, ac, ps, xs, rfl, rfl, ht1, same_sqt s04 hac, by omega, fun c1 H5 s5 hc1 => ?_⟩
      have s05 : Same H H5 := s04.trans s5
      refine ⟨_, rfl, nu, _, rfl, .inl (s05.seq hnu), _, _, rfl, ?_⟩
      have pc : Paired (ActV K H5) (ps ++ xs) (ns.map Act.num ++ acts) := paired_app (paired_mono (fun v a h => actv_mono (s4.trans s5) h) pp) (paired_mono (fun v a h => actv_mono s05 h) hp)
      -- for act in acts
      refine ⟨_, rfl, ac, rfl, ⟨_, same_sqt s05 hac⟩, for_tup (K := K) (xs := xs) (fun i σ H6 => ∃ y5, σ = [some (.ref ac), some (.ref nu), some (.ref plc), some (.ref c1), some (.int ((ns.length : Int) + sumD (acts.take i))), y5, none, none, none] ∧ Same H5 H6) ⟨none, ?_, Same.refl _⟩ (fun i σ H6 _ ⟨_, _, s6⟩ => same_sqt (s05.trans s6) hac) ?_ ?_⟩
      · rw [List.take_zero]
        show _ = [some (V.ref ac), some (V.ref nu), some (V.ref plc), some (V.ref c1), some (V.int ((ns.length : Int) + 0)), none, none, none, none]
        rw [Int.add_zero]
        rw [List.length_map]
        rfl
      · rintro i v σ H6 hi ⟨y5, rfl, s6⟩
        obtain ⟨a, ha, ⟨qa, rfl, hv⟩⟩ := paired_get hp hi
        obtain ⟨ar, har⟩ := actV_head a
        rw [har] at hv
        refine ⟨_, rfl, fun d nd => ?_⟩
        have s7 : Same H6 (upd (upd H6 d (.dK [])) d (.dK (mergeK [] kvs4))) := same_mut (same_new nd) nd
        refine ⟨2, rfl, upd_same, kvs4, rfl, by decide, d, rfl, .inl ⟨_, .inl upd_same⟩, ?_⟩
        refine ⟨_, rfl, qa, _, 0, .str (headS a), rfl, rfl, same_sqt ((s05.trans s6).trans s7) hv, atI_nat (j := 0) rfl, 1, rfl, _, DGet.k (k := Sum.inr (headS a)) upd_same, ?_⟩
        rw [show (valV (mergeK [] kvs4) (Sum.inr (headS a) : Key)).getD (V.int (-1)) = .int (delta a) from delta_get (hok a (List.mem_of_getElem? ha))]
        refine ⟨_, _, rfl, rfl, some (.ref qa), ?_, s6.trans s7⟩
        rw [sumD_take ha, ← Int.add_assoc]
        rfl
      · rintro σ H6 ⟨y5, rfl, s6⟩
        rw [hlx, List.take_length, hsum]
        -- done_by(code + (("give", "t"),) * left, places, {})
        refine ⟨_, rfl, (by show 2 ≤ sizeLine; decide), fun g1 ng1 => ⟨(by show 1 ≤ sizeLine; decide), fun g2 ng2 => ?_⟩⟩
        have s7 : Same H6 (upd H6 g1 (.tup [.str "give", .str "t"])) := same_new ng1
        have s8 := s7.trans (same_new (o := .tup [.ref g1]) ng2)
        refine ⟨_, rfl, g2, m, [.ref g1], rfl, rfl, SqT.of upd_same, by simp, hm1, by omega, (by show 1 ≤ 1000; decide), fun g3 H9 s9 hg3 => ?_⟩
        have s59 : Same H5 H9 := s6.trans (s8.trans s9)
        rw [flat_rep] at hg3
        refine ⟨c1, g3, ps ++ xs, List.replicate m (.ref g1), rfl, rfl, same_sqt s59 hc1, hg3, ?_, fun c2 H10 s10 hc2 => ?_⟩
        · rw [List.length_append, List.length_replicate]
          omega
        have s5a : Same H5 H10 := s59.trans s10
        have pc2 : Paired (ActV K H10) (ps ++ xs ++ List.replicate m (.ref g1)) (ns.map Act.num ++ acts ++ List.replicate m (.give "t")) := by
          refine paired_app (paired_mono (fun v a h => actv_mono s5a h) pc) (paired_rep ⟨g1, rfl, ?_⟩ m)
          refine same_sqt (s9.trans s10) (same_sqt (same_new ng2) (SqT.of upd_same))
        refine ⟨_, rfl, fun d nd => ?_⟩
        have s11 : Same H10 (upd H10 d (.dK [])) := same_new nd
        have s0b : Same H (upd H10 d (.dK [])) := s05.trans (s5a.trans s11)
        refine ⟨c2, plc, d, _, _, ks, [], [], s', rfl, same_sqt s11 hc2, paired_mono (fun v a h => actv_mono s11 h) pc2, fun a ha => ?_, ?_, .inr (same_sqt s0b hpl), upd_same, .nil, List.nodup_nil, by decide, ⟨(fun x hx => nomatch hx), hki, (fun e he => nomatch he)⟩, hrun, fun r H12 s12 p12 => ?_⟩
        · rcases List.mem_append.mp ha with ha | ha
          · rcases List.mem_append.mp ha with ha | ha
            · obtain ⟨n, hn, rfl⟩ := List.mem_map.mp ha
              exact hni n hn
            · exact hok a ha
          · rw [(List.mem_replicate.mp ha).2]
            trivial
        · rw [List.length_append, List.length_append, List.length_map, List.length_replicate]
          omega
        · obtain ⟨kt, gd, gvs, ga, n1, n2, n3, n4, hr', hkt, hgd, hE, hnd⟩ := p12.ex
          refine ⟨r, _, rfl, SqT.of hr', rfl, _, _, rfl, _, _, rfl, rfl, ?_⟩
          have s0c : Same H H12 := s0b.trans s12
          refine ⟨_, rfl, _, rfl, gd, rfl, .inl ⟨_, .inl hgd⟩, Nat.zero_le _, fun e ne => ?_⟩
          have s13 : Same H12 (upd H12 e (.lst [])) := same_new ne
          refine ⟨_, DGet.k (k := Sum.inr "t") (s13 _ _ hgd), (by show 2 ≤ sizeLine; decide), fun r2 nr2 => ?_⟩
          have s14 := s13.trans (same_new (o := .tup [.ref kt, (valV gvs (Sum.inr "t" : Key)).getD (.ref e)]) nr2)
          refine q r2 _ (s0c.trans s14) (.tup (SqT.of upd_same) (.cons (.tup (SqT.of (s14 _ _ hkt)) (dpa_ints _)) (.cons ?_ .nil)))
          cases hl : lk s'.given "t" with
          | none =>
            rw [(ents_none hE).mpr hl]
            exact .lst (SqL.of (same_new nr2 _ _ upd_same)) .nil
          | some ms =>
            obtain ⟨b, v1, v2, v3⟩ := ents_get hE hl
            rw [v1] at s14 ⊢
            exact .lst (SqL.of (s14 _ _ v3)) (dpa_ints _)
end
end Tw

namespace Tw
open PySem PySem.Spec PyProof.Rows L2
abbrev sTape : Stmt := topS 10
abbrev sFolded : Stmt := topS 12
theorem scTape : FnScope ["_law_script", "_law_k", "_law_cell"] ["_law_script", "_law_k"] (defScope sTape) := ⟨rfl, rfl, rfl, by decide +kernel, rfl, by decide +kernel, by decide +kernel⟩
theorem scFolded : FnScope ["_law_script", "_law_many", "_law_cells", "_law_k", "_law_cell"] ["_law_script", "_law_many"] (defScope sFolded) := ⟨rfl, rfl, rfl, by decide +kernel, rfl, by decide +kernel, by decide +kernel⟩
def spTape (K : PySem.W.Frag) : Sp := fun vs H Q _ => ∃ (a : Addr) (k : Nat) (ns : List Int), vs = [.ref a, .int (k : Int)] ∧ SqL K H a (ns.map V.int) ∧ k ≤ 100 ∧
  ∀ p H', H p = none → Same H H' → Tape H' p 1000000000000 → Q (.ref p) H'
def spFolded (K : PySem.W.Frag) : Sp := fun vs H Q _ => ∃ (a : Addr) (m : Nat) (ns : List Int), vs = [.ref a, .int (m : Int)] ∧ SqL K H a (ns.map V.int) ∧ ns.length ≤ 63 ∧ 1 ≤ ns.length ∧ 1 ≤ m ∧ m ≤ 60 ∧
  ∀ p H' (cs : List Int), H p = none → Same H H' → H' p = some (.lst (cs.map V.int)) → 1 ≤ cs.length → cs.length ≤ m → Q (.ref p) H'
section
variable {P : Program} {w : World} {K : PySem.W.Frag} {mg : Str → Option Value} {base : Heap}
theorem ok_tape {f : Addr} {fd : FuncData} {k : Nat} (g : Bl mg) (F : Fun K "_law_tape" "_law_tape" sTape f fd) : FnOk P w K mg base CX0 (k + 1) f fd ["_law_script", "_law_k"] (spTape K) := by
  refine F.ok scTape (fun vs H Q E h => ?_) (fun cdv A outer s H vs Q E hr h => ?_)
  · obtain ⟨a, k, ns, rfl, _⟩ := h
    rfl
  · obtain ⟨a, k, ns, rfl, hS, hk, q⟩ := h
    refine ⟨_, (Evl.pss_cut (ps_set (i := 2) scTape.nd rfl (Or.inl rfl) (pe_ifExp (pt_cmpR op_lt (pv 1) (pe_callB call_len_seq (by rfl) g.len PySem.boot_len (pa_cons (pv 0) pa_nil)) (nomark _)) (pe_ix ix_list (pv 0) (pv 1) (fun _ _ => rfl)) pe_int))
  (pss_one (ps_ret (pe_lst (pa_cons (pe_op op_mul (pe_callB call_abs (by rfl) g.abs boot_abs (pa_cons (pv 2) pa_nil)) (pe_callTy call_int1 (by rfl) g.int PyProof.Rows.boot_int (pa_cons (pe_cmpR op_ge (pe_callB call_abs (by rfl) g.abs boot_abs (pa_cons (pv 2) pa_nil)) (pe_op op_pow pe_int pe_int) (nomark _)) pa_nil))) (pa_cons (pe_op op_add (pe_op op_add (pe_op op_modA (pv 2) pe_int) (pe_op op_mul pe_int (pv 1))) pe_int) (pa_cons pe_int pa_nil))))))), ?_⟩
    refine Evl.q_cut (M := fun σ' H' => ∃ c : Int, σ' = [some (.ref a), some (.int (k : Int)), some (.int c)] ∧ H' = H) ?_ ?_
    · refine ⟨_, rfl, _, rfl, a, _, rfl, .inl hS, _, _, rfl, rfl, _, rfl, ite2 (fun e => ?_) (fun e => ⟨0, rfl, rfl⟩)⟩
      have hlt : k < ns.length := by
        have h1 := of_decide_eq_true e
        rw [List.length_map] at h1
        omega
      refine ⟨_, rfl, _, rfl, a, _, (k : Int), .int ns[k], rfl, rfl, hS, atI_nat (j := k) ?_, ns[k], rfl, rfl⟩
      rw [List.getElem?_map, List.getElem?_eq_getElem hlt]
      rfl
    · rintro σ' H' ⟨c, rfl, rfl⟩
      refine ⟨_, rfl, c, rfl, _, rfl, c, rfl, _, _, rfl, rfl, ⟨by decide, by decide, by decide⟩, _, _, rfl, rfl, .inr ⟨_, rfl, ?_⟩⟩
      refine ⟨_, _, rfl, rfl, .inr ?_, _, rfl, _, _, rfl, rfl, by decide, fun o ho0 ho1 _ => ?_⟩
      · by_cases hc : (10 : Int) ^ (18 : Int).toNat ≤ (if c < 0 then -c else c)
        · rw [if_pos (decide_eq_true hc)]
          exact ⟨by decide, by decide⟩
        · rw [if_neg (by rw [decide_eq_false hc]; decide)]
          exact ⟨by decide, by decide⟩
      · refine ⟨_, rfl, _, _, rfl, rfl, .inl ⟨by decide, by decide⟩, _, _, rfl, rfl, _, _, rfl, rfl, ?_, fun p np => ?_⟩
        · show 3 ≤ sizeLine
          decide
        · exact q p _ np (same_new np) ⟨_, _, _, upd_same, by omega, by omega, by omega, by omega⟩
theorem ok_folded {f : Addr} {fd : FuncData} {k : Nat} (g : Bl mg) (F : Fun K "_law_folded" "_law_folded" sFolded f fd) : FnOk P w K mg base CX0 (k + 1) f fd ["_law_script", "_law_many"] (spFolded K) := by
  refine F.ok scFolded (fun vs H Q E h => ?_) (fun cdv A outer s H vs Q E hr h => ?_)
  · obtain ⟨a, m, ns, rfl, _⟩ := h
    rfl
  · obtain ⟨a, m, ns, rfl, hS, hn, hn1, hm1, hm2, q⟩ := h
    refine ⟨_, (pss_cons (ps_set (i := 2) scFolded.nd rfl (Or.inl rfl) (pe_callTy call_list_of (by rfl) g.list PyProof.Rows.boot_list (pa_cons (pe_slice sl_list (pv 0) po_none (po_some (pv 1))) pa_nil)))
  (pss_cons (ps_for PassesOwn.never rfl (pi_enum (by rfl) g.enumerate (pa_cons (pe_slice sl_list (pv 0) (po_some (pv 1)) (po_some pe_int)) pa_nil)) (pg_tup rfl (pgs_cons (pg_name (i := 3) scFolded.nd rfl (Or.inl rfl)) (pgs_cons (pg_name (i := 4) scFolded.nd rfl (Or.inl rfl)) pgs_nil)))
    (pss_one (ps_asg (pe_op op_add (pe_ix ix_list (pv 2) (pe_op op_mod (pv 3) (pv 1)) (fun _ _ => rfl)) (pe_op op_mul (pv 4) (pe_op op_add (pv 3) pe_int))) (pg_sub (pv 2) (pe_op op_mod (pv 3) (pv 1)) set_list))))
  (pss_one (ps_ret (pv 2))))), ?_⟩
    have c1 : cutV (ns.map V.int) none (some (m : Int)) = (ns.take m).map V.int := by
      unfold cutV
      rw [HT.sIx_none, HT.sIx_nat, List.drop_zero, Nat.sub_zero, List.length_map, ← List.map_take]
      congr 1
      rcases Nat.le_total m ns.length with h | h
      · rw [Nat.min_eq_left h]
      · rw [Nat.min_eq_right h, List.take_length, List.take_of_length_le h]
    refine ⟨_, rfl, _, rfl, _, rfl, a, _, rfl, hS, fun x1 n1 => ⟨x1, _, rfl, .inl (.inl (.inl upd_same)), fun l nl => ?_⟩⟩
    have s1 : Same H (upd H x1 (.lst (cutV (ns.map V.int) none (some (m : Int))))) := same_new n1
    have s2 := s1.trans (same_new (o := .lst (cutV (ns.map V.int) none (some (m : Int)))) nl)
    have nl0 : H l = none := s1.free nl
    refine ⟨_, rfl, _, rfl, _, rfl, 63, rfl, a, _, rfl, s2.seq hS, fun x2 n2 => ?_⟩
    have s3 := s2.trans (same_new (o := .lst (cutV (ns.map V.int) (some (m : Int)) (some 63))) n2)
    have c2 : ∃ zs : List Int, cutV (ns.map V.int) (some (m : Int)) (some 63) = zs.map V.int ∧ (zs ≠ [] → m < ns.length) ∧ zs.length ≤ 63 := by
      refine ⟨(ns.drop (HT.sIx (ns.map V.int).length 0 (some (m : Int)))).take (HT.sIx (ns.map V.int).length (ns.map V.int).length (some 63) - HT.sIx (ns.map V.int).length 0 (some (m : Int))), ?_, fun h => ?_, ?_⟩
      · unfold cutV
        rw [← List.map_drop, ← List.map_take]
      · rw [HT.sIx_nat, List.length_map] at h
        rcases Nat.lt_or_ge m ns.length with h1 | h1
        · exact h1
        · rw [Nat.min_eq_right h1, List.drop_length, List.take_nil] at h
          exact absurd rfl h
      · rw [List.length_take, List.length_drop]
        omega
    obtain ⟨zs, ez, hz1, hz2⟩ := c2
    have ex2 : (upd (upd (upd H x1 (.lst (cutV (ns.map V.int) none (some (m : Int))))) l (.lst (cutV (ns.map V.int) none (some (m : Int))))) x2 (.lst (cutV (ns.map V.int) (some (m : Int)) (some 63)))) x2 = some (.lst (zs.map V.int)) := by
      rw [upd_same, ez]
    have elx : l ≠ x2 := fun e => by
      rw [e, upd_same] at n2
      cases n2
    refine ⟨x2, zs.map V.int, rfl, .inl (.inl ex2), for_it walk_enum (fun i σ H3 => ∃ (cs : List Int) (y3 y4 : Option V), σ = [some (.ref a), some (.int (m : Int)), some (.ref l), y3, y4] ∧ Same H H3 ∧ H3 x2 = some (.lst (zs.map V.int)) ∧ H3 l = some (.lst (cs.map V.int)) ∧ cs.length = min m ns.length)
      ⟨ns.take m, none, none, rfl, s3, ex2, ?_, List.length_take⟩ (fun i σ H3 _ ⟨_, _, _, _, _, h, _⟩ => .inl (.inl h)) ?_ ?_⟩
    · rw [upd_ne elx, upd_same, c1]
    · rintro i x σ H3 H4 hi ⟨cs, y3, y4, rfl, t1, t2, t3, t4⟩ ⟨T, u1, u2, rfl, nT, rfl, e1, e2⟩
      cases e1
      rw [List.length_map] at hi
      have hm : m < ns.length := hz1 (fun e => by rw [e] at hi; exact absurd hi (Nat.not_lt_zero _))
      have e3 : u2 = .int zs[i] := by
        dsimp only at e2
        rw [List.getElem?_map, List.getElem?_eq_getElem hi] at e2
        exact (Option.some.inj e2).symm
      subst e3
      have nTl : l ≠ T := ne_of_none t3 nT
      have nTx : x2 ≠ T := ne_of_none t2 nT
      have t3' : (upd H3 T (.tup [.int (i : Nat), .int zs[i]])) l = some (.lst (cs.map V.int)) := by
        rw [upd_ne nTl]
        exact t3
      have hj : ∃ j : Nat, (i : Int) % (m : Int) = (j : Int) ∧ j < cs.length := by
        refine ⟨i % m, by omega, ?_⟩
        rw [t4, Nat.min_eq_left (Nat.le_of_lt hm)]
        exact Nat.mod_lt _ hm1
      obtain ⟨j, ej, hj⟩ := hj
      refine ⟨T, _, rfl, .inl (.inl upd_same), rfl, _, _, rfl, _, _, rfl, rfl, ?_⟩
      refine ⟨_, rfl, _, rfl, _, rfl, _, _, rfl, rfl, (show (0 : Int) < (m : Int) by omega), l, cs.map V.int, (i : Int) % (m : Int), .int cs[j], rfl, rfl, .inl (.inl t3'), ?_, _, rfl, _, rfl, _, _, rfl, rfl, _, _, rfl, rfl, .inr ⟨?_, ?_⟩, _, _, rfl, rfl, ?_⟩
      · rw [ej]
        refine atI_nat ?_
        rw [List.getElem?_map, List.getElem?_eq_getElem hj]
        rfl
      · show -(2 ^ 64) < ((i : Nat) : Int) + 2
        omega
      · show ((i : Nat) : Int) + 2 < 2 ^ 64
        omega
      · refine ⟨_, rfl, _, rfl, _, rfl, _, _, rfl, rfl, (show (0 : Int) < (m : Int) by omega), l, _, (i : Int) % (m : Int), j, rfl, rfl, t3', ?_, ?_⟩
        · rw [ej, List.length_map]
          exact Evl.ixN_nat hj
        · refine ⟨cs.set j (cs[j] + zs[i] * ((i : Nat) + 2)), some (.int (i : Nat)), some (.int zs[i]), rfl, same_mut (t1.trans (same_new nT)) nl0, ?_, ?_, ?_⟩
          · rw [upd_ne elx.symm, upd_ne nTx]
            exact t2
          · rw [upd_same, List.map_set]
          · rw [List.length_set]
            exact t4
    · rintro σ H3 ⟨cs, y3, y4, rfl, t1, t2, t3, t4⟩
      exact ⟨_, rfl, q l H3 cs nl0 t1 t3 (by omega) (by omega)⟩
end
end Tw

/-! _law_pairs_right -/
namespace Tw
open PySem PySem.Spec PyProof.Rows L2
abbrev sPairs : Stmt := topS 15
theorem scPairs : FnScope ["_law_a", "_law_b", "_law_some", "_law_word", "_law_due", "_law_dues"] ["_law_a", "_law_b"] (defScope sPairs) := ⟨rfl, rfl, rfl, by decide +kernel, rfl, by decide +kernel, by decide +kernel⟩
/-- a word on two numbers, all of the pile brought off -/
structure GoodW (w : Str) (a b : Int) (m : Nat) (out : List Int) : Prop where
  w8 : w ∈ words8
  sm : (2 : Int) + delta (.wrd w) = (m : Int)
  m1 : 1 ≤ m
  m2 : m ≤ 100
  run : runA ⟨[], [], [], []⟩ ([a, b].map Act.num ++ [.wrd w] ++ List.replicate m (.give "t")) = some ⟨[], [], [], [("t", out)]⟩
theorem gw_plus {a b : Int} : GoodW "plus" a b 1 [(a + b) % 1000000] := ⟨by simp [words8], rfl, by decide, by decide, rfl⟩
theorem gw_less {a b : Int} : GoodW "less" a b 1 [(a - b) % 1000000] := ⟨by simp [words8], rfl, by decide, by decide, rfl⟩
theorem gw_times {a b : Int} : GoodW "times" a b 1 [a * b % 1000000] := ⟨by simp [words8], rfl, by decide, by decide, rfl⟩
theorem gw_below {a b : Int} : GoodW "below" a b 1 [if a < b then 1 else 0] := ⟨by simp [words8], rfl, by decide, by decide, rfl⟩
theorem gw_swap {a b : Int} : GoodW "swap" a b 2 [a, b] := ⟨by simp [words8], rfl, by decide, by decide, rfl⟩
theorem gw_twice {a b : Int} : GoodW "twice" a b 3 [b, b, a] := ⟨by simp [words8], rfl, by decide, by decide, rfl⟩
theorem gw_drop {a b : Int} : GoodW "drop" a b 1 [a] := ⟨by simp [words8], rfl, by decide, by decide, rfl⟩
def spPairs : Sp := fun vs H Q _ => ∃ a b : Int, vs = [.int a, .int b] ∧ it a ∧ it b ∧ ∀ H', Same H H' → Q (.bl true) H'
theorem okD_told {n : Nat} {ks ns : List Int} (h1 : ks.length ≤ 100000) (h2 : ns.length ≤ 100000) : okD (n + 2) (.tuple [.tuple (ks.map PyData.int), .list (ns.map PyData.int)]) := by
  have hi : ∀ (m : Nat) (xs : List Int), ∀ d ∈ xs.map PyData.int, okD m d := fun m xs d hd => by
    obtain ⟨x, _, rfl⟩ := List.mem_map.mp hd
    cases m <;> trivial
  refine ⟨by show 2 ≤ 100000; decide, fun d hd => ?_⟩
  rcases List.mem_cons.mp hd with rfl | hd
  · exact ⟨by rw [List.length_map]; exact h1, hi _ _⟩
  · rw [List.mem_singleton.mp hd]
    exact ⟨by rw [List.length_map]; exact h2, hi _ _⟩
section
variable {P : Program} {w : World} {K : PySem.W.Frag} {mg : Str → Option Value} {base : Heap}
theorem ok_pairs {f : Addr} {fd : FuncData} {k k1 k2 : Nat} (g : Bl mg) (C_law_told : Cal P w K mg base "_law_told" k1 ["_law_acts", "_law_numbers", "_law_places"] (spLTold K)) (C_law_same : Cal P w K mg base "_law_same" k2 ["_law_found", "_law_due"] (spSame K 2)) (h1 : k1 ≤ k) (h2 : k2 ≤ k)
    (F : Fun K "_law_pairs_right" "_law_pairs_right" sPairs f fd) : FnOk P w K mg base CX0 (k + 1) f fd ["_law_a", "_law_b"] spPairs := by
  refine F.ok scPairs (fun vs H Q E h => ?_) (fun cdv A outer s H vs Q E hr h => ?_)
  · obtain ⟨a, b, rfl, _⟩ := h
    rfl
  · obtain ⟨a, b, rfl, ha, hb, q⟩ := h
    refine ⟨_, (pss_cons (ps_set (i := 2) scPairs.nd rfl (Or.inl rfl) (pe_lstU (pa_cons (pe_tupU (pa_cons pe_str (pa_cons (pe_op op_mod (pe_op op_add (pv 0) (pv 1)) (pe_op op_pow pe_int pe_int)) pa_nil))) (pa_cons (pe_tupU (pa_cons pe_str (pa_cons (pe_op op_mod (pe_op op_sub (pv 0) (pv 1)) (pe_op op_pow pe_int pe_int)) pa_nil))) (pa_cons (pe_tupU (pa_cons pe_str (pa_cons (pe_op op_mod (pe_op op_mul (pv 0) (pv 1)) (pe_op op_pow pe_int pe_int)) pa_nil))) pa_nil)))))
  (pss_cons (ps_for PassesOwn.never rfl (pi_list (pe_op op_catL (pv 2) (pe_lstU (pa_cons (pe_tupU (pa_cons pe_str (pa_cons (pe_callTy call_int1 (by rfl) g.int PyProof.Rows.boot_int (pa_cons (pe_cmpR op_lt (pv 0) (pv 1) (nomark _)) pa_nil)) pa_nil))) pa_nil)))) (pg_tup rfl (pgs_cons (pg_name (i := 3) scPairs.nd rfl (Or.inl rfl)) (pgs_cons (pg_name (i := 4) scPairs.nd rfl (Or.inl rfl)) pgs_nil)))
    (pss_one (ps_if (pt_not (pt_val (pe_c C_law_same hr h2 (ha := (pa_cons (pe_c C_law_told hr h1 (ha := (pa_cons (pe_tupU (pa_cons (pe_tupU (pa_cons (pv 3) pa_nil)) pa_nil)) (pa_cons (pe_lstU (pa_cons (pv 0) (pa_cons (pv 1) pa_nil))) (pa_cons (pe_tupU pa_nil) pa_nil))))) (pa_cons (pe_tupU (pa_cons (pe_tupU pa_nil) (pa_cons (pe_lstU (pa_cons (pv 4) pa_nil)) pa_nil))) pa_nil))))))
      (pss_one (ps_ret pe_bl))
      pss_nil)))
  (pss_cons (ps_set (i := 5) scPairs.nd rfl (Or.inl rfl) (pe_lstU (pa_cons (pe_tupU (pa_cons pe_str (pa_cons (pe_lstU (pa_cons (pv 0) (pa_cons (pv 1) pa_nil))) pa_nil))) (pa_cons (pe_tupU (pa_cons pe_str (pa_cons (pe_lstU (pa_cons (pv 1) (pa_cons (pv 1) (pa_cons (pv 0) pa_nil)))) pa_nil))) (pa_cons (pe_tupU (pa_cons pe_str (pa_cons (pe_lstU (pa_cons (pv 0) pa_nil)) pa_nil))) pa_nil)))))
  (pss_one (ps_ret (pe_callB (cr_all rfl) (by rfl) g.all boot_all (pa_cons (pe_lc (own := [("_law_word", 3), ("_law_due", 4)]) (g := (gTup K 2 (gCons (gName 3) (gCons (gName 4) gNil)))) (tt := tYes) rfl scPairs.nd (pi_list (pv 5)) (blkOk_by (own := [("_law_word", 3), ("_law_due", 4)]) (N := ["_law_a", "_law_b", "_law_some", "_law_word", "_law_due", "_law_dues"]) (sc := defScope sPairs) (by decide +kernel)) (fun _ _ _ _ _ => (pg_tup rfl (pgs_cons (pg_name (i := 3) scPairs.nd rfl (Or.inl rfl)) (pgs_cons (pg_name (i := 4) scPairs.nd rfl (Or.inl rfl)) pgs_nil)))) (fun _ _ _ _ _ => pts_nil) (fun _ _ _ _ _ => (pe_c C_law_same hr h2 (ha := (pa_cons (pe_c C_law_told hr h1 (ha := (pa_cons (pe_tupU (pa_cons (pe_tupU (pa_cons (pv 3) pa_nil)) pa_nil)) (pa_cons (pe_lstU (pa_cons (pv 0) (pa_cons (pv 1) pa_nil))) (pa_cons (pe_tupU pa_nil) pa_nil))))) (pa_cons (pe_tupU (pa_cons (pe_tupU pa_nil) (pa_cons (pv 4) pa_nil))) pa_nil)))))) pa_nil))))))), ?_⟩
    have z1 : 1 ≤ 100000 := by decide
    have z2 : 2 ≤ 100000 := by decide
    have z3 : 3 ≤ 100000 := by decide
    have hpow : CPow 10 6 := ⟨by decide, by decide, by decide⟩
    have e6 : (10 : Int) ^ (6 : Int).toNat = 1000000 := by decide
    have h6 : (0 : Int) < (10 : Int) ^ (6 : Int).toNat := by decide
    have cm : CMul a b := .inl ⟨by have := ha.1; omega, by have := ha.2; omega⟩
    -- some = [..]
    refine ⟨_, rfl, _, rfl, _, _, rfl, rfl, _, _, rfl, rfl, hpow, _, _, rfl, rfl, h6, z2, fun p1 H1 _ s1 c1 => ?_⟩
    refine ⟨_, rfl, _, rfl, _, _, rfl, rfl, _, _, rfl, rfl, hpow, _, _, rfl, rfl, h6, z2, fun p2 H2 _ s2 c2 => ?_⟩
    refine ⟨_, rfl, _, rfl, _, _, rfl, rfl, cm, _, _, rfl, rfl, hpow, _, _, rfl, rfl, h6, z2, fun p3 H3 _ s3 c3 => ⟨z3, fun l1 H4 _ s4 c4 => ?_⟩⟩
    -- some + [("below", ..)]
    refine ⟨_, rfl, _, rfl, _, rfl, _, _, rfl, rfl, .inr ⟨_, rfl, z2, fun p4 H5 _ s5 c5 => ⟨z1, fun l2 H6 _ s6 c6 => ?_⟩⟩⟩
    refine ⟨l1, l2, _, _, rfl, rfl, s6 _ _ (s5 _ _ c4), c6, (by show 4 ≤ 100000; decide), fun l3 H7 _ s7 c7 => ?_⟩
    have c7 : H7 l3 = some (.lst [.ref p1, .ref p2, .ref p3, .ref p4]) := c7
    have all4 : ∀ x ∈ [V.ref p1, .ref p2, .ref p3, .ref p4], ∃ t wd d, x = .ref t ∧ H7 t = some (.tup [.str wd, .int d]) ∧ GoodW wd a b 1 [d] := fun x hx => by
      simp only [List.mem_cons, List.not_mem_nil, or_false] at hx
      rcases hx with rfl | rfl | rfl | rfl
      · exact ⟨p1, "plus", _, rfl, s7 _ _ (s6 _ _ (s5 _ _ (s4 _ _ (s3 _ _ (s2 _ _ c1))))), by rw [e6]; exact gw_plus⟩
      · exact ⟨p2, "less", _, rfl, s7 _ _ (s6 _ _ (s5 _ _ (s4 _ _ (s3 _ _ c2)))), by rw [e6]; exact gw_less⟩
      · exact ⟨p3, "times", _, rfl, s7 _ _ (s6 _ _ (s5 _ _ (s4 _ _ c3))), by rw [e6]; exact gw_times⟩
      · refine ⟨p4, "below", _, rfl, s7 _ _ (s6 _ _ c5), ?_⟩
        by_cases hab : a < b
        · have := gw_below (a := a) (b := b)
          rw [if_pos hab] at this
          rw [if_pos (decide_eq_true hab)]
          exact this
        · have := gw_below (a := a) (b := b)
          rw [if_neg hab] at this
          rw [if_neg (by rw [decide_eq_false hab]; decide)]
          exact this
    have s07 : Same H H7 := s1.trans (s2.trans (s3.trans (s4.trans (s5.trans (s6.trans s7)))))
    clear s1 s2 s3 s4 s5 s6 s7 c1 c2 c3 c5 c6
    refine ⟨l3, rfl, ⟨_, SqL.of c7⟩, for_list (K := K) (xs := [V.ref p1, .ref p2, .ref p3, .ref p4]) (fun i σ H8 => ∃ y3 y4, σ = [some (.int a), some (.int b), some (.ref l1), y3, y4, none] ∧ Same H7 H8) ⟨none, none, rfl, Same.refl _⟩ (fun i σ H8 _ ⟨_, _, _, s8⟩ => SqL.of (s8 _ _ c7)) ?_ ?_⟩
    · rintro i x σ H8 hi ⟨y3, y4, rfl, s8⟩
      obtain ⟨t, wd, d, rfl, ht, gw⟩ := all4 x (List.mem_of_getElem? hi)
      refine ⟨t, _, rfl, SqT.of (s8 _ _ ht), rfl, _, _, rfl, _, _, rfl, rfl, ?_⟩
      refine ⟨_, rfl, z1, fun t1 Ha _ sa ca => ⟨z1, fun t2 Hb _ sb cb => ⟨_, rfl, _, rfl, z2, fun l4 Hc _ sc cc => ⟨Nat.zero_le _, fun t3 Hd _ sd cd => ?_⟩⟩⟩⟩
      refine ⟨t2, l4, t3, [.ref t1], [.wrd wd], [a, b], [], 1, _, rfl, SqT.of (sd _ _ (sc _ _ cb)), .cons ⟨t1, rfl, SqT.of (sd _ _ (sc _ _ (sb _ _ ca)))⟩ .nil, ?_, (by show 1 ≤ 100; decide), SqL.of (sd _ _ cc), (by show 2 ≤ 100; decide), ?_, SqT.of cd, ?_, gw.m1, gw.m2, ?_, gw.run, fun r He se de => ?_⟩
      · intro z hz
        rw [List.mem_singleton.mp hz]
        exact gw.w8
      · intro z hz
        rcases List.mem_cons.mp hz with rfl | hz
        · exact ha
        · rw [List.mem_singleton.mp hz]
          exact hb
      · intro z hz
        exact nomatch hz
      · have := gw.sm
        show ((2 : Nat) : Int) + (delta (.wrd wd) + 0) = _
        omega
      · refine ⟨Nat.zero_le _, fun u1 Hf _ sf cf => ⟨_, rfl, z1, fun u2 Hg _ sg cg => ⟨z2, fun u3 Hh _ sh ch => ?_⟩⟩⟩
        refine ⟨.ref r, .ref u3, _, rfl, dp_mono (sf.trans (sg.trans sh)) de, .tup (SqT.of ch) (.cons (.tup (SqT.of (sh _ _ (sg _ _ cf))) .nil) (.cons (.lst (SqL.of (sh _ _ cg)) (.cons (.int d) .nil)) .nil)), okD_told (ks := []) (ns := [d]) (by decide) (by show 1 ≤ 100000; decide), fun Hi si => ⟨_, rfl, iteF ⟨some (.str wd), some (.int d), rfl, ?_⟩⟩⟩
        exact s8.trans (sa.trans (sb.trans (sc.trans (sd.trans (se.trans (sf.trans (sg.trans (sh.trans si))))))))
    · rintro σ H8 ⟨y3, y4, rfl, s8⟩
      -- dues = [..]
      refine ⟨_, rfl, _, rfl, z2, fun m1 I1 _ r1 d1 => ⟨z2, fun q1 I2 _ r2 d2 => ?_⟩⟩
      refine ⟨_, rfl, _, rfl, _, rfl, z3, fun m2 I3 _ r3 d3 => ⟨z2, fun q2 I4 _ r4 d4 => ?_⟩⟩
      refine ⟨_, rfl, z1, fun m3 I5 _ r5 d5 => ⟨z2, fun q3 I6 _ r6 d6 => ⟨z3, fun l5 I7 _ r7 d7 => ?_⟩⟩⟩
      have d7 : I7 l5 = some (.lst [.ref q1, .ref q2, .ref q3]) := d7
      have all3 : ∀ x ∈ [V.ref q1, .ref q2, .ref q3], ∃ t wd m ls out, x = .ref t ∧ I7 t = some (.tup [.str wd, .ref ls]) ∧ I7 ls = some (.lst (out.map V.int)) ∧ GoodW wd a b m out ∧ out.length ≤ 3 := fun x hx => by
        simp only [List.mem_cons, List.not_mem_nil, or_false] at hx
        rcases hx with rfl | rfl | rfl
        · exact ⟨q1, "swap", 2, m1, [a, b], rfl, r7 _ _ (r6 _ _ (r5 _ _ (r4 _ _ (r3 _ _ d2)))), r7 _ _ (r6 _ _ (r5 _ _ (r4 _ _ (r3 _ _ (r2 _ _ d1))))), gw_swap, by show 2 ≤ 3; decide⟩
        · exact ⟨q2, "twice", 3, m2, [b, b, a], rfl, r7 _ _ (r6 _ _ (r5 _ _ d4)), r7 _ _ (r6 _ _ (r5 _ _ (r4 _ _ d3))), gw_twice, by show 3 ≤ 3; decide⟩
        · exact ⟨q3, "drop", 1, m3, [a], rfl, r7 _ _ d6, r7 _ _ (r6 _ _ d5), gw_drop, by show 1 ≤ 3; decide⟩
      have s07' : Same H I7 := s07.trans (s8.trans (r1.trans (r2.trans (r3.trans (r4.trans (r5.trans (r6.trans r7)))))))
      clear r1 r2 r3 r4 r5 r6 r7 d1 d2 d3 d4 d5 d6
      refine ⟨_, rfl, l5, rfl, ⟨_, SqL.of d7⟩, fun D nD => ?_⟩
      refine lc_list (K := K) (a := l5) (xs := [V.ref q1, .ref q2, .ref q3]) (fun i H9 => Same I7 H9 ∧ H9 D = some (.lst (List.replicate i (.bl true)))) ⟨same_new nD, upd_same⟩ (fun i H9 _ p => SqL.of (p.1 _ _ d7)) ?_ ?_
      · rintro i x H9 hi ⟨s9, e9⟩
        have hi3 : i < 3 := (List.getElem?_eq_some_iff.mp hi).1
        obtain ⟨t, wd, m, ls, out, rfl, ht, hls, gw, hol⟩ := all3 x (List.mem_of_getElem? hi)
        refine ⟨t, _, rfl, SqT.of (s9 _ _ ht), rfl, _, _, rfl, _, _, rfl, rfl, rfl, ?_⟩
        refine ⟨_, rfl, z1, fun t1 Ha _ sa ca => ⟨z1, fun t2 Hb _ sb cb => ⟨_, rfl, _, rfl, z2, fun l4 Hc _ sc cc => ⟨Nat.zero_le _, fun t3 Hd _ sd cd => ?_⟩⟩⟩⟩
        refine ⟨t2, l4, t3, [.ref t1], [.wrd wd], [a, b], [], m, _, rfl, SqT.of (sd _ _ (sc _ _ cb)), .cons ⟨t1, rfl, SqT.of (sd _ _ (sc _ _ (sb _ _ ca)))⟩ .nil, ?_, (by show 1 ≤ 100; decide), SqL.of (sd _ _ cc), (by show 2 ≤ 100; decide), ?_, SqT.of cd, ?_, gw.m1, gw.m2, ?_, gw.run, fun r He se de => ?_⟩
        · intro z hz
          rw [List.mem_singleton.mp hz]
          exact gw.w8
        · intro z hz
          rcases List.mem_cons.mp hz with rfl | hz
          · exact ha
          · rw [List.mem_singleton.mp hz]
            exact hb
        · intro z hz
          exact nomatch hz
        · have := gw.sm
          show ((2 : Nat) : Int) + (delta (.wrd wd) + 0) = _
          omega
        · have st : Same H9 He := sa.trans (sb.trans (sc.trans (sd.trans se)))
          refine ⟨Nat.zero_le _, fun u1 Hf _ sf cf => ⟨_, rfl, z2, fun u3 Hh _ sh ch => ?_⟩⟩
          have st2 : Same H9 Hh := st.trans (sf.trans sh)
          refine ⟨.ref r, .ref u3, _, rfl, dp_mono (sf.trans sh) de, .tup (SqT.of ch) (.cons (.tup (SqT.of (sh _ _ cf)) .nil) (.cons (.lst (SqL.of (st2 _ _ (s9 _ _ hls))) (dpa_ints out)) .nil)), okD_told (ks := []) (ns := out) (by decide) (Nat.le_trans hol (by decide)), fun Hi si => ?_⟩
          refine ⟨_, (st2.trans si) _ _ e9, ?_, same_mut (s9.trans (st2.trans si)) nD, ?_⟩
          · rw [List.length_replicate]
            exact Nat.lt_trans hi3 (by decide)
          · rw [upd_same, List.replicate_succ']
      · rintro H9 ⟨s9, e9⟩
        refine ⟨D, [true, true, true], rfl, SqL.of e9, ?_⟩
        exact q _ (s07'.trans s9)
end
end Tw

/-! _law_places_right -/
namespace Tw
open PySem PySem.Spec PyProof.Rows L2
abbrev sPlaces : Stmt := topS 16
theorem scPlaces : FnScope ["_law_a", "_law_b", "_law_c", "_law_d", "_law_acts", "_law_low", "_law_due", "_law_code", "_law_kept", "_law_given"] ["_law_a", "_law_b", "_law_c", "_law_d"] (defScope sPlaces) := ⟨rfl, rfl, rfl, by decide +kernel, rfl, by decide +kernel, by decide +kernel⟩
def spPlaces : Sp := fun vs H Q _ => ∃ a b c d : Int, vs = [.int a, .int b, .int c, .int d] ∧ it a ∧ it b ∧ it c ∧ it d ∧ ∀ H', Same H H' → Q (.bl true) H'
theorem run_keep {a b c d : Int} : runA ⟨[], [c, d], [], []⟩ ([a, b].map Act.num ++ [.keep 1, .keep 0, .kept 1, .kept 0, .keep 1] ++ List.replicate 1 (.give "t")) = some ⟨[], [a, a], [], [("t", [b])]⟩ := rfl
theorem run_pick {a b l d : Int} : runA ⟨[], [], [], []⟩ ([d, l, a, b].map Act.num ++ [.wrd "pick"] ++ List.replicate 2 (.give "t")) = some ⟨[], [], [], [("t", [if l ≠ 0 then a else b, d])]⟩ := rfl
theorem run_take {a b c : Int} : runA ⟨[], [a, b, c], [("y", [c, 1]), ("x", [a, b, 9])], []⟩ ([.take "x", .take "y", .take "x", .give "z", .wrd "less", .give "z", .kept 0] ++ [.keep 2, .kept 2, .give "w"]) = some ⟨[], [a, b, a], [("y", [1]), ("x", [9])], [("z", [b, (a - c) % 1000000]), ("w", [a])]⟩ := rfl
section
variable {P : Program} {w : World} {K : PySem.W.Frag} {mg : Str → Option Value} {base : Heap}
theorem ok_places {f : Addr} {fd : FuncData} {k k1 k2 k3 : Nat} (g : Bl mg) (cc : Cst mg) (C_law_told : Cal P w K mg base "_law_told" k1 ["_law_acts", "_law_numbers", "_law_places"] (spLTold K)) (C_law_same : Cal P w K mg base "_law_same" k2 ["_law_found", "_law_due"] (spSame K 2)) (Cdone_by : Cal P w K mg base "done_by" k3 ["code", "kept", "taken"] (spDoneBy K)) (h1 : k1 ≤ k) (h2 : k2 ≤ k) (h3 : k3 ≤ k)
    (F : Fun K "_law_places_right" "_law_places_right" sPlaces f fd) : FnOk P w K mg base CX0 (k + 1) f fd ["_law_a", "_law_b", "_law_c", "_law_d"] spPlaces := by
  refine F.ok scPlaces (fun vs H Q E h => ?_) (fun cdv A outer s H vs Q E hr h => ?_)
  · obtain ⟨a, b, c, d, rfl, _⟩ := h
    rfl
  · obtain ⟨a, b, c, d, rfl, ha, hb, hc, hd, q⟩ := h
    obtain ⟨tw, cW⟩ := cc.WIDE
    refine ⟨_, (pss_cons (ps_set (i := 4) scPlaces.nd rfl (Or.inl rfl) (pe_tupU (pa_cons (pe_tupU (pa_cons pe_str (pa_cons pe_int pa_nil))) (pa_cons (pe_tupU (pa_cons pe_str (pa_cons pe_int pa_nil))) (pa_cons (pe_tupU (pa_cons pe_str (pa_cons pe_int pa_nil))) (pa_cons (pe_tupU (pa_cons pe_str (pa_cons pe_int pa_nil))) (pa_cons (pe_tupU (pa_cons pe_str (pa_cons pe_int pa_nil))) pa_nil)))))))
  (pss_cons (ps_if (pt_not (pt_val (pe_c C_law_same hr h2 (ha := (pa_cons (pe_c C_law_told hr h1 (ha := (pa_cons (pv 4) (pa_cons (pe_lstU (pa_cons (pv 0) (pa_cons (pv 1) pa_nil))) (pa_cons (pe_tupU (pa_cons (pv 2) (pa_cons (pv 3) pa_nil))) pa_nil))))) (pa_cons (pe_tupU (pa_cons (pe_tupU (pa_cons (pv 0) (pa_cons (pv 0) pa_nil))) (pa_cons (pe_lstU (pa_cons (pv 1) pa_nil)) pa_nil))) pa_nil))))))
    (pss_one (ps_ret pe_bl))
    pss_nil)
  (pss_cons (ps_for PassesOwn.never rfl (pi_tup (pe_tupU (pa_cons (pe_tupU (pa_cons pe_int (pa_cons (pe_lstU (pa_cons (pv 1) pa_nil)) pa_nil))) (pa_cons (pe_tupU (pa_cons pe_int (pa_cons (pe_lstU (pa_cons (pv 0) pa_nil)) pa_nil))) (pa_cons (pe_tupU (pa_cons (pv 2) (pa_cons (pe_lstU (pa_cons (pe_cut (pe_ifExp (pt_cmpR op_ne (pv 2) pe_int (nomark _)) (pv 0) (pv 1))) pa_nil)) pa_nil))) pa_nil))))) (pg_tup rfl (pgs_cons (pg_name (i := 5) scPlaces.nd rfl (Or.inl rfl)) (pgs_cons (pg_name (i := 6) scPlaces.nd rfl (Or.inl rfl)) pgs_nil)))
    (pss_one (ps_if (pt_not (pt_val (pe_c C_law_same hr h2 (ha := (pa_cons (pe_c C_law_told hr h1 (ha := (pa_cons (pe_tupU (pa_cons (pe_tupU (pa_cons pe_str pa_nil)) pa_nil)) (pa_cons (pe_lstU (pa_cons (pv 3) (pa_cons (pv 5) (pa_cons (pv 0) (pa_cons (pv 1) pa_nil))))) (pa_cons (pe_tupU pa_nil) pa_nil))))) (pa_cons (pe_tupU (pa_cons (pe_tupU pa_nil) (pa_cons (pe_op op_catL (pv 6) (pe_lstU (pa_cons (pv 3) pa_nil))) pa_nil))) pa_nil))))))
      (pss_one (ps_ret pe_bl))
      pss_nil)))
  (pss_cons (ps_set (i := 7) scPlaces.nd rfl (Or.inl rfl) (pe_tupU (pa_cons (pe_tupU (pa_cons pe_str (pa_cons pe_str pa_nil))) (pa_cons (pe_tupU (pa_cons pe_str (pa_cons pe_str pa_nil))) (pa_cons (pe_tupU (pa_cons pe_str (pa_cons pe_str pa_nil))) (pa_cons (pe_tupU (pa_cons pe_str (pa_cons pe_str pa_nil))) (pa_cons (pe_tupU (pa_cons pe_str pa_nil)) (pa_cons (pe_tupU (pa_cons pe_str (pa_cons pe_str pa_nil))) (pa_cons (pe_tupU (pa_cons pe_str (pa_cons pe_int pa_nil))) pa_nil)))))))))
  (pss_cons (ps_asg (pe_c Cdone_by hr h3 (ha := (pa_cons (pe_op op_catU (pv 7) (pe_tupU (pa_cons (pe_tupU (pa_cons pe_str (pa_cons pe_int pa_nil))) (pa_cons (pe_tupU (pa_cons pe_str (pa_cons pe_int pa_nil))) (pa_cons (pe_tupU (pa_cons pe_str (pa_cons pe_str pa_nil))) pa_nil))))) (pa_cons (pe_tupU (pa_cons (pv 0) (pa_cons (pv 1) (pa_cons (pv 2) pa_nil)))) (pa_cons (pe_disp (pps_cons pe_str (pe_lstU (pa_cons (pv 2) (pa_cons pe_int pa_nil))) (pps_cons pe_str (pe_lstU (pa_cons (pv 0) (pa_cons (pv 1) (pa_cons pe_int pa_nil)))) pps_nil)) (by rfl) (by rfl) (fun z => by cases z) (by decide)) pa_nil))))) (pg_tup rfl (pgs_cons (pg_name (i := 8) scPlaces.nd rfl (Or.inl rfl)) (pgs_cons (pg_name (i := 9) scPlaces.nd rfl (Or.inl rfl)) pgs_nil))))
  (pss_one (ps_ret (pe_and (pe_c C_law_same hr h2 (ha := (pa_cons (pv 8) (pa_cons (pe_tupU (pa_cons (pv 0) (pa_cons (pv 1) (pa_cons (pv 0) pa_nil)))) pa_nil)))) (pe_one (pe_cmpR (op_eqV hr.units) (pv 9) (pe_disp (pps_cons pe_str (pe_lstU (pa_cons (pv 1) (pa_cons (pe_op op_mod (pe_op op_sub (pv 0) (pv 2)) (pe_glob (v := .int 1000000) rfl cW ⟨_, rfl⟩)) pa_nil))) (pps_cons pe_str (pe_lstU (pa_cons (pv 0) pa_nil)) pps_nil)) (by rfl) (by rfl) (fun z => by cases z) (by decide)) (nomark _))))))))))), ?_⟩
    have z1 : 1 ≤ 100000 := by decide
    have z2 : 2 ≤ 100000 := by decide
    have z3 : 3 ≤ 100000 := by decide
    -- acts
    refine ⟨z2, fun a1 H1 _ s1 c1 => ⟨z2, fun a2 H2 _ s2 c2 => ⟨z2, fun a3 H3 _ s3 c3 => ⟨z2, fun a4 H4 _ s4 c4 => ⟨z2, fun a5 H5 _ s5 c5 => ⟨(by show 5 ≤ 100000; decide), fun ac H6 _ s6 c6 => ?_⟩⟩⟩⟩⟩⟩
    refine ⟨_, rfl, _, rfl, _, rfl, z2, fun nu H7 _ s7 c7 => ⟨_, rfl, _, rfl, z2, fun pl H8 _ s8 c8 => ?_⟩⟩
    refine ⟨ac, nu, pl, [.ref a1, .ref a2, .ref a3, .ref a4, .ref a5], [.keep 1, .keep 0, .kept 1, .kept 0, .keep 1], [a, b], [c, d], 1, _, rfl, SqT.of (s8 _ _ (s7 _ _ c6)),
      .cons ⟨a1, rfl, SqT.of (s8 _ _ (s7 _ _ (s6 _ _ (s5 _ _ (s4 _ _ (s3 _ _ (s2 _ _ c1)))))))⟩ (.cons ⟨a2, rfl, SqT.of (s8 _ _ (s7 _ _ (s6 _ _ (s5 _ _ (s4 _ _ (s3 _ _ c2))))))⟩ (.cons ⟨a3, rfl, SqT.of (s8 _ _ (s7 _ _ (s6 _ _ (s5 _ _ (s4 _ _ c3)))))⟩ (.cons ⟨a4, rfl, SqT.of (s8 _ _ (s7 _ _ (s6 _ _ (s5 _ _ c4))))⟩ (.cons ⟨a5, rfl, SqT.of (s8 _ _ (s7 _ _ (s6 _ _ c5)))⟩ .nil)))),
      ?_, (by show 5 ≤ 100; decide), SqL.of (s8 _ _ c7), (by show 2 ≤ 100; decide), ?_, SqT.of c8, ?_, by decide, by decide, rfl, run_keep, fun r H9 s9 d9 => ?_⟩
    · intro z hz
      simp only [List.mem_cons, List.not_mem_nil, or_false] at hz
      rcases hz with rfl | rfl | rfl | rfl | rfl <;> trivial
    · intro z hz
      simp only [List.mem_cons, List.not_mem_nil, or_false] at hz
      rcases hz with rfl | rfl
      · exact ha
      · exact hb
    · intro z hz
      simp only [List.mem_cons, List.not_mem_nil, or_false] at hz
      rcases hz with rfl | rfl
      · exact hc
      · exact hd
    have sA : Same H H9 := s1.trans (s2.trans (s3.trans (s4.trans (s5.trans (s6.trans (s7.trans (s8.trans s9)))))))
    clear s1 s2 s3 s4 s5 s6 s7 s8 s9 c1 c2 c3 c4 c5 c6 c7 c8
    refine ⟨_, rfl, _, rfl, z2, fun u1 I1 _ t1 e1 => ⟨_, rfl, z1, fun u2 I2 _ t2 e2 => ⟨z2, fun u3 I3 _ t3 e3 => ?_⟩⟩⟩
    refine ⟨.ref r, .ref u3, _, rfl, dp_mono (t1.trans (t2.trans t3)) d9, .tup (SqT.of e3) (.cons (.tup (SqT.of (t3 _ _ (t2 _ _ e1))) (dpa_ints [a, a])) (.cons (.lst (SqL.of (t3 _ _ e2)) (dpa_ints [b])) .nil)), okD_told (ks := [a, a]) (ns := [b]) (by show 2 ≤ 100000; decide) (by show 1 ≤ 100000; decide), fun I4 t4 => ⟨_, rfl, iteF ?_⟩⟩
    have sB : Same H I4 := sA.trans (t1.trans (t2.trans (t3.trans t4)))
    clear t1 t2 t3 t4 e1 e2 e3 d9 sA
    -- for low, due in ..
    refine ⟨_, rfl, z1, fun m1 J1 _ v1 w1 => ⟨z2, fun l1 J2 _ v2 w2 => ⟨_, rfl, z1, fun m2 J3 _ v3 w3 => ⟨z2, fun l2 J4 _ v4 w4 => ?_⟩⟩⟩⟩
    refine ⟨_, rfl, fun v H' => v = .int (if c ≠ 0 then a else b) ∧ H' = J4, ?_, ?_⟩
    · refine ⟨_, rfl, rfl, _, rfl, ite2 (fun h0 => ?_) (fun h0 => ?_)⟩
      · have h0' : c ≠ 0 := fun z => by
          rw [z] at h0
          exact absurd h0 (by decide)
        rw [if_pos h0']
        exact ⟨_, rfl, rfl, rfl⟩
      · have h0' : ¬ c ≠ 0 := fun z => h0 (by rw [decide_eq_false (fun y => z (V.int.inj y))]; rfl)
        rw [if_neg h0']
        exact ⟨_, rfl, rfl, rfl⟩
    rintro v H' ⟨rfl, rfl⟩
    refine ⟨z1, fun m3 J5 _ v5 w5 => ⟨z2, fun l3 J6 _ v6 w6 => ⟨z3, fun lp J7 _ v7 w7 => ?_⟩⟩⟩
    have w7 : J7 lp = some (.tup [.ref l1, .ref l2, .ref l3]) := w7
    have all3 : ∀ x ∈ [V.ref l1, .ref l2, .ref l3], ∃ t l m, x = .ref t ∧ J7 t = some (.tup [.int l, .ref m]) ∧ J7 m = some (.lst [.int (if l ≠ 0 then a else b)]) ∧ it l := fun x hx => by
      simp only [List.mem_cons, List.not_mem_nil, or_false] at hx
      rcases hx with rfl | rfl | rfl
      · exact ⟨l1, 0, m1, rfl, v7 _ _ (v6 _ _ (v5 _ _ (v4 _ _ (v3 _ _ w2)))), v7 _ _ (v6 _ _ (v5 _ _ (v4 _ _ (v3 _ _ (v2 _ _ w1))))), ⟨by decide, by decide⟩⟩
      · exact ⟨l2, 1, m2, rfl, v7 _ _ (v6 _ _ (v5 _ _ w4)), v7 _ _ (v6 _ _ (v5 _ _ (v4 _ _ w3))), ⟨by decide, by decide⟩⟩
      · exact ⟨l3, c, m3, rfl, v7 _ _ w6, v7 _ _ (v6 _ _ w5), hc⟩
    have sC : Same H J7 := sB.trans (v1.trans (v2.trans (v3.trans (v4.trans (v5.trans (v6.trans v7))))))
    clear v1 v2 v3 v4 v5 v6 v7 w1 w2 w3 w4 w5 w6 sB
    refine ⟨lp, rfl, ⟨_, SqT.of w7⟩, for_tup (K := K) (xs := [V.ref l1, .ref l2, .ref l3]) (fun i σ G => ∃ y5 y6, σ = [some (.int a), some (.int b), some (.int c), some (.int d), some (.ref ac), y5, y6, none, none, none] ∧ Same J7 G) ⟨none, none, rfl, Same.refl _⟩ (fun i σ G _ ⟨_, _, _, s⟩ => SqT.of (s _ _ w7)) ?_ ?_⟩
    · rintro i x σ G hi ⟨y5, y6, rfl, s0⟩
      obtain ⟨t, l, m, rfl, ht, hm, hl⟩ := all3 x (List.mem_of_getElem? hi)
      refine ⟨t, _, rfl, SqT.of (s0 _ _ ht), rfl, _, _, rfl, _, _, rfl, rfl, ?_⟩
      refine ⟨z1, fun t1 G1 _ s1 c1 => ⟨z1, fun t2 G2 _ s2 c2 => ⟨_, rfl, _, rfl, _, rfl, _, rfl, (by show 4 ≤ 100000; decide), fun n4 G3 _ s3 c3 => ⟨Nat.zero_le _, fun t3 G4 _ s4 c4 => ?_⟩⟩⟩⟩
      refine ⟨t2, n4, t3, [.ref t1], [.wrd "pick"], [d, l, a, b], [], 2, _, rfl, SqT.of (s4 _ _ (s3 _ _ c2)), .cons ⟨t1, rfl, SqT.of (s4 _ _ (s3 _ _ (s2 _ _ c1)))⟩ .nil, ?_, (by show 1 ≤ 100; decide), SqL.of (s4 _ _ c3), (by show 4 ≤ 100; decide), ?_, SqT.of c4, ?_, by decide, by decide, rfl, run_pick, fun r G5 s5 d5 => ?_⟩
      · intro z hz
        rw [List.mem_singleton.mp hz]
        show ("pick" : Str) ∈ words8
        simp [words8]
      · intro z hz
        simp only [List.mem_cons, List.not_mem_nil, or_false] at hz
        rcases hz with rfl | rfl | rfl | rfl
        · exact hd
        · exact hl
        · exact ha
        · exact hb
      · intro z hz
        exact nomatch hz
      have st : Same G G5 := s1.trans (s2.trans (s3.trans (s4.trans s5)))
      refine ⟨Nat.zero_le _, fun u1 G6 _ s6 c6 => ⟨_, rfl, _, rfl, z1, fun u2 G7 _ s7 c7 => ?_⟩⟩
      refine ⟨m, u2, _, _, rfl, rfl, (st.trans (s6.trans s7)) _ _ (s0 _ _ hm), c7, z2, fun u3 G8 _ s8 c8 => ⟨z2, fun u4 G9 _ s9 c9 => ?_⟩⟩
      refine ⟨.ref r, .ref u4, _, rfl, dp_mono (s6.trans (s7.trans (s8.trans s9))) d5, .tup (SqT.of c9) (.cons (.tup (SqT.of (s9 _ _ (s8 _ _ (s7 _ _ c6)))) .nil) (.cons (.lst (SqL.of (s9 _ _ c8)) (dpa_ints [if l ≠ 0 then a else b, d])) .nil)), okD_told (ks := []) (ns := [if l ≠ 0 then a else b, d]) (by decide) (by show 2 ≤ 100000; decide), fun Ga sa => ⟨_, rfl, iteF ⟨some (.int l), some (.ref m), rfl, ?_⟩⟩⟩
      exact s0.trans (st.trans (s6.trans (s7.trans (s8.trans (s9.trans sa)))))
    rintro σ G ⟨y5, y6, rfl, s0⟩
    have sD : Same H G := sC.trans s0
    -- the code
    refine ⟨z2, fun b1 G1 _ s1 c1 => ⟨z2, fun b2 G2 _ s2 c2 => ⟨z2, fun b3 G3 _ s3 c3 => ⟨z2, fun b4 G4 _ s4 c4 => ⟨z1, fun b5 G5 _ s5 c5 => ⟨z2, fun b6 G6 _ s6 c6 => ⟨z2, fun b7 G7 _ s7 c7 => ⟨(by show 7 ≤ 100000; decide), fun cd G8 _ s8 c8 => ?_⟩⟩⟩⟩⟩⟩⟩⟩
    refine ⟨_, rfl, z2, fun b8 G9 _ s9 c9 => ⟨z2, fun b9 Ga _ sa ca => ⟨z2, fun b0 Gb _ sb cb => ⟨z3, fun ce Gc _ sc c_c => ?_⟩⟩⟩⟩
    have f8 : Same G8 Gc := s9.trans (sa.trans (sb.trans sc))
    refine ⟨cd, ce, _, _, rfl, rfl, SqT.of (f8 _ _ c8), SqT.of c_c, (by show 10 ≤ 100000; decide), fun cf Gd sd hcf => ?_⟩
    have f9 : Same G8 Gd := f8.trans sd
    have pr : Paired (ActV K Gd) [.ref b1, .ref b2, .ref b3, .ref b4, .ref b5, .ref b6, .ref b7, .ref b8, .ref b9, .ref b0] ([.take "x", .take "y", .take "x", .give "z", .wrd "less", .give "z", .kept 0] ++ [.keep 2, .kept 2, .give "w"]) :=
      .cons ⟨b1, rfl, SqT.of (f9 _ _ (s8 _ _ (s7 _ _ (s6 _ _ (s5 _ _ (s4 _ _ (s3 _ _ (s2 _ _ c1))))))))⟩ (.cons ⟨b2, rfl, SqT.of (f9 _ _ (s8 _ _ (s7 _ _ (s6 _ _ (s5 _ _ (s4 _ _ (s3 _ _ c2)))))))⟩
      (.cons ⟨b3, rfl, SqT.of (f9 _ _ (s8 _ _ (s7 _ _ (s6 _ _ (s5 _ _ (s4 _ _ c3))))))⟩ (.cons ⟨b4, rfl, SqT.of (f9 _ _ (s8 _ _ (s7 _ _ (s6 _ _ (s5 _ _ c4)))))⟩
      (.cons ⟨b5, rfl, SqT.of (f9 _ _ (s8 _ _ (s7 _ _ (s6 _ _ c5))))⟩ (.cons ⟨b6, rfl, SqT.of (f9 _ _ (s8 _ _ (s7 _ _ c6)))⟩ (.cons ⟨b7, rfl, SqT.of (f9 _ _ (s8 _ _ c7))⟩
      (.cons ⟨b8, rfl, SqT.of (sd _ _ (sc _ _ (sb _ _ (sa _ _ c9))))⟩ (.cons ⟨b9, rfl, SqT.of (sd _ _ (sc _ _ (sb _ _ ca)))⟩ (.cons ⟨b0, rfl, SqT.of (sd _ _ (sc _ _ cb))⟩ .nil)))))))))
    have sE : Same H Gd := sD.trans (s1.trans (s2.trans (s3.trans (s4.trans (s5.trans (s6.trans (s7.trans (s8.trans f9))))))))
    clear s1 s2 s3 s4 s5 s6 s7 s8 s9 sa sb sc c1 c2 c3 c4 c5 c6 c7 c8 c9 ca cb c_c f8 f9 sC sD
    refine ⟨_, rfl, _, rfl, _, rfl, z3, fun kt Ge _ se ce' => fun dk nd => ?_⟩
    refine ⟨_, rfl, z2, fun k1 Gg _ sg cg => ⟨_, rfl, _, rfl, z3, fun k2 Gh _ sh ch => ?_⟩⟩
    refine ⟨sh _ _ (sg _ _ upd_same), [(Sum.inr "y", .ref k1), (Sum.inr "x", .ref k2)], rfl, (by show 2 ≤ 15; decide), ?_⟩
    have ndk : ∀ x o, Ge x = some o → x ≠ dk := fun x o h => ne_of_none h nd
    have sdk : ∀ x o, x ≠ dk → Gh x = some o → (upd Gh dk (.dK (mergeK [] [(Sum.inr "y", .ref k1), (Sum.inr "x", .ref k2)]))) x = some o := fun x o h1 h2 => by
      rw [upd_ne h1]
      exact h2
    have sf : Same Ge Gh := (same_new nd).trans (sg.trans sh)
    have sF : Same Ge (upd Gh dk (.dK (mergeK [] [(Sum.inr "y", .ref k1), (Sum.inr "x", .ref k2)]))) := fun x o h => sdk x o (ndk x o h) (sf x o h)
    have nk1 : k1 ≠ dk := ne_of cg (sg _ _ upd_same) (by intro z; cases z)
    have nk2 : k2 ≠ dk := ne_of ch (sh _ _ (sg _ _ upd_same)) (by intro z; cases z)
    refine ⟨cf, kt, dk, _, _, [a, b, c], _, [("y", [c, 1]), ("x", [a, b, 9])], _, rfl, same_sqt (se.trans sF) hcf, paired_mono (fun v a h => actv_mono (se.trans sF) h) pr, ?_, (by show 10 ≤ 1000; decide), .inr (same_sqt sF (SqT.of ce')), upd_same,
      .cons (.inl (SqL.of (sdk _ _ nk1 (sh _ _ cg)))) (.cons (.inl (SqL.of (sdk _ _ nk2 ch))) .nil), ?_, (by show 2 ≤ 1000; decide), ?_, run_take, fun r Gi si pi => ?_⟩
    · intro z hz
      simp only [List.mem_append, List.mem_cons, List.not_mem_nil, or_false] at hz
      rcases hz with (rfl | rfl | rfl | rfl | rfl | rfl | rfl) | rfl | rfl | rfl
      all_goals first | trivial | (show ("less" : Str) ∈ words8; simp [words8])
    · show [("y" : Str), "x"].Nodup
      decide
    · refine ⟨(fun x hx => nomatch hx), fun x hx => ?_, fun e he x hx => ?_⟩
      · simp only [List.mem_cons, List.not_mem_nil, or_false] at hx
        rcases hx with rfl | rfl | rfl
        · exact ha
        · exact hb
        · exact hc
      · simp only [List.mem_cons, List.not_mem_nil, or_false] at he
        rcases he with rfl | rfl
        · simp only [List.mem_cons, List.not_mem_nil, or_false] at hx
          rcases hx with rfl | rfl
          · exact hc
          · exact ⟨by decide, by decide⟩
        · simp only [List.mem_cons, List.not_mem_nil, or_false] at hx
          rcases hx with rfl | rfl | rfl
          · exact ha
          · exact hb
          · exact ⟨by decide, by decide⟩
    obtain ⟨kt2, gd, gvs, ga, n1, n2, n3, n4, hr', hkt, hgd, hE, hnd⟩ := pi.ex
    refine ⟨r, _, rfl, SqT.of hr', rfl, _, _, rfl, _, _, rfl, rfl, ?_⟩
    have sG : Same H Gi := sE.trans (se.trans (sF.trans si))
    -- same(kept, (a, b, a)) and given == {..}
    refine ⟨_, rfl, _, rfl, _, rfl, _, rfl, z3, fun k4 Gj _ sj cj => ?_⟩
    refine ⟨.ref kt2, .ref k4, .tuple ([a, b, a].map PyData.int), rfl, .tup (SqT.of (sj _ _ hkt)) (dpa_ints [a, b, a]), .tup (SqT.of cj) (dpa_ints [a, b, a]), ?_, fun Gk sk => ⟨_, rfl, iteT ?_⟩⟩
    · refine ⟨by show 3 ≤ 100000; decide, fun d hd => ?_⟩
      obtain ⟨x, _, rfl⟩ := List.mem_map.mp hd
      trivial
    refine ⟨_, rfl, fun dl ndl => ?_⟩
    refine ⟨_, rfl, _, rfl, _, rfl, _, _, rfl, rfl, _, _, rfl, rfl, (show (0 : Int) < _ by decide), z2, fun k5 Gm _ sm cm => ⟨_, rfl, z1, fun k6 Gn _ sn cn => ?_⟩⟩
    refine ⟨sn _ _ (sm _ _ upd_same), [(Sum.inr "z", .ref k5), (Sum.inr "w", .ref k6)], rfl, (by show 2 ≤ 15; decide), ?_⟩
    have snk : ∀ x o, Gk x = some o → (upd Gn dl (.dK (mergeK [] [(Sum.inr "z", .ref k5), (Sum.inr "w", .ref k6)]))) x = some o := fun x o h => by
      rw [upd_ne (ne_of_none h ndl)]
      exact sn _ _ (sm _ _ (same_new ndl _ _ h))
    have nk5 : k5 ≠ dl := ne_of cm (sm _ _ upd_same) (by intro z; cases z)
    have nk6 : k6 ≠ dl := ne_of cn (sn _ _ (sm _ _ upd_same)) (by intro z; cases z)
    cases hE with
    | cons hz1 hE =>
    cases hE with
    | cons hz2 hE =>
    cases hE
    rename_i g1 g2
    refine ⟨2, by decide, .inr ⟨gd, dl, _, _, rfl, rfl, snk _ _ (sk _ _ (sj _ _ hgd)), upd_same, rfl, fun p hp => ?_⟩, ?_⟩
    · simp only [List.mem_cons, List.not_mem_nil, or_false] at hp
      rcases hp with rfl | rfl
      · refine ⟨.ref k5, rfl, .inr (.inr (.inl ⟨g1, k5, _, _, rfl, rfl, SqL.of (snk _ _ (sk _ _ (sj _ _ hz1))), SqL.of ?_, .cons (.inl ⟨rfl, rfl⟩) (.cons (.inl ⟨rfl, rfl⟩) .nil)⟩))⟩
        rw [upd_ne nk5]
        exact sn _ _ cm
      · refine ⟨.ref k6, rfl, .inr (.inr (.inl ⟨g2, k6, _, _, rfl, rfl, SqL.of (snk _ _ (sk _ _ (sj _ _ hz2))), SqL.of ?_, .cons (.inl ⟨rfl, rfl⟩) .nil⟩))⟩
        rw [upd_ne nk6]
        exact cn
    · exact q _ (sG.trans (sj.trans (sk.trans snk)))
end
end Tw

/-! t != u of two tuples whose items are equal, one by one -/
namespace PySem.SeqAt
open AutoSeq1 (wpAny_loadPart')
open MeetsSeq MeetsSeq2 MeetsSeq3 SeqRoads2
theorem tw_tuple_ne {prog : Program} {w : World} (l b : Addr) (us ws : Array Value) (n n2 : Nat) (dd dd2 : Option Addr) (sl sl2 : Array (Option Value)) (hsz : us.size = ws.size) :
    MeetsIn prog w (Builtin.«tuple.__ne__» ⟨[.ref l, .ref b], []⟩) (fun A R s =>
      s.heap.get? l = some { cls := .type "tuple", dict := dd, data := .seq us n, slots := sl } ∧
      s.heap.get? b = some { cls := .type "tuple", dict := dd2, data := .seq ws n2, slots := sl2 } ∧
      (∀ j (h1 : j < us.size) (h2 : j < ws.size), EqP prog w A.in1 s us[j] ws[j] true) ∧ R (.ok (.ret (.bool false))) s) := by
  intro A R s h
  obtain ⟨hp, g, d, tk, os⟩ := s
  obtain ⟨hl, hb, he, h⟩ := h
  have f2 := AutoSeq1.sub_tuple_tuple
  have hZ : (us.toList.zip ws.toList).length = us.size := by simp [hsz]
  wp_walk using wpAny_loadPart' hl, wpAny_loadPart' hb, wpAny_forIn_list _ (fun rest b s' => b.1 = none ∧ s' = ⟨hp, g, d, tk, os⟩ ∧ ∃ i, rest = (us.toList.zip ws.toList).drop i) _
  case turn =>
    rintro ⟨y, x⟩ rest b s' ⟨hb', rfl, i, hz⟩
    have hlt : i < (us.toList.zip ws.toList).length := by
      rcases Nat.lt_or_ge i (us.toList.zip ws.toList).length with h' | h'
      · exact h'
      · rw [List.drop_of_length_le h'] at hz
        cases hz
    have g1 : i < us.size := hZ ▸ hlt
    have g2 : i < ws.size := hsz ▸ g1
    rw [List.drop_eq_getElem_cons hlt] at hz
    injection hz with hyx hrest
    have ey : y = us[i] := by
      have := congrArg Prod.fst hyx
      simpa using this
    have ex : x = ws[i] := by
      have := congrArg Prod.snd hyx
      simpa using this
    subst ey ex
    refine wpAny_bind (he i g1 g2 _ _ ?_)
    wp_walk
    exact ⟨rfl, rfl, i + 1, hrest⟩
  case fin =>
    rintro ⟨b1, b2⟩ s' ⟨hb', rfl, i, hz⟩
    simp only at hb'
    subst hb'
    wp_walk
    simpa [Builtin.Tuple.tupleCompareSizes, hsz] using h
  case h => exact ⟨rfl, rfl, 0, rfl⟩
end PySem.SeqAt
namespace Tw
open PySem PySem.Spec PyProof.Rows L2
/-- two items that are equal: the same data, or dicts by their values -/
def EqI (K : PySem.W.Frag) (H : Hp) (x y : V) : Prop := (∃ d, Dp K H x d ∧ Dp K H y d ∧ SeqAt.shaped d = true) ∨ ∃ n, n ≤ 10 ∧ EqV K H n x y
def rNeT (K : PySem.W.Frag) : R2 := fun x y H Q => ∃ a b xs ys, x = .ref a ∧ y = .ref b ∧ SqT K H a xs ∧ SqT K H b ys ∧ Paired (EqI K H) xs ys ∧ Q (.bl false) H
theorem op_neT {X : Cx} (hu : X.A.units + 80 < cLine) : OpR X (compareOp .NotEq) (rNeT X.K) := by
  intro pins s σ H x y v u Q I rx ry h
  obtain ⟨a, b, xs, ys, rfl, rfl, ha, hb, hp, q⟩ := h
  cases (show v = Value.ref a from rx)
  cases (show u = Value.ref b from ry)
  obtain ⟨us, r1, ⟨⟨cls, dd, data, sl⟩, ho, hc, n, hd⟩, _⟩ := I.tuple ha
  obtain ⟨ws, r2, ⟨⟨cls2, dd2, data2, sl2⟩, ho2, hc2, n2, hd2⟩, _⟩ := I.tuple hb
  simp only at hc hd hc2 hd2
  subst hc hd hc2 hd2
  have hsz : us.toArray.size = ws.toArray.size := by
    rw [List.size_toArray, List.size_toArray, ← r1.length, ← r2.length]
    exact Paired.length hp
  have item : ∀ x y v u, EqI X.K H x y → RelV x v → RelV y u → SeqAt.EqP X.prog X.w X.A.in1 s v u true := fun x y v u hE r r' => by
    rcases hE with ⟨d, h1, h2, h3⟩ | ⟨m, hm, h1⟩
    · obtain ⟨as, q1⟩ := Dp.reads I d x v h1 r
      obtain ⟨bs, q2⟩ := Dp.reads I d y u h2 r'
      have hc := SeqAt.canLay_of_shaped h3
      have := SeqAt.eqAt_reads d d X.A.in1 s v u as bs q1 q2 hc hc (SeqAt.room_of_shaped h3 (by show X.A.units + 1 + 64 < cLine; omega))
      rw [SeqAt.eqv_refl d hc] at this
      exact this.eqP
    · exact eqV_run I m X.A.in1 (by show X.A.units + 1 + m < cLine; omega) x y v u h1 r r'
  have ta : s.TypeIs (.ref a) "tuple" := ⟨_, ho, rfl⟩
  have tb : s.TypeIs (.ref b) "tuple" := ⟨_, ho2, rfl⟩
  refine wpAny_richCompare_same_room (op := .NotEq) ta tb F.slot_tuple_ne (call_meetsIn F.slot_tuple_ne ta F.entry_tuple_ne (F.args_tuple_ne_2 _ _)
    (SeqAt.tw_tuple_ne a b us.toArray ws.toArray n n2 dd dd2 sl sl2 hsz) ⟨ho, ho2, fun j g1 g2 => ?_, ?_⟩) (by omega)
  · have k := items_run item hp r1 r2 j (by simpa using g1) (by simpa using g2)
    simpa using k
  · show Value.bool false ≠ Value.notImplemented ∧ _
    exact ⟨(fun z => nomatch z), ⟨.bl false, H, I, rfl, q⟩⟩
end Tw

/-! the law -/
namespace Tw
open PySem PySem.Spec PyProof.Rows L2
abbrev sLaw : Stmt := topS 17
theorem scLaw : FnScope ["_law_script", "_law_cells", "_law_k", "_law_tape_here", "_law_wide", "_law_a", "_law_b", "_law_c", "_law_d", "_law_one", "_law_other", "_law_turn"] ["_law_script"] (defScope sLaw) := ⟨rfl, rfl, rfl, by decide +kernel, rfl, by decide +kernel, by decide +kernel⟩
def spLaw (K : PySem.W.Frag) : Sp := fun vs H Q _ => ∃ (a : Addr) (ns : List Int), vs = [.ref a] ∧ SqL K H a (ns.map V.int) ∧ ns.length ≤ 63 ∧ ∀ H', Q (.bl true) H'
theorem can_ints : ∀ ns : List Int, PyData.canLayAll0 (ns.map PyData.int) = true ∧ PyData.depthAll (ns.map PyData.int) = 0
  | [] => ⟨rfl, rfl⟩
  | n :: r => by
    obtain ⟨h1, h2⟩ := can_ints r
    refine ⟨?_, ?_⟩
    · show (true && PyData.canLayAll0 (r.map PyData.int)) = true
      rw [h1]
      rfl
    · show max 0 (PyData.depthAll (r.map PyData.int)) = 0
      rw [h2]
      rfl
theorem shaped_ints (ns : List Int) : SeqAt.shaped (.list (ns.map PyData.int)) = true := by
  obtain ⟨h1, h2⟩ := can_ints ns
  show (PyData.canLayAll0 (ns.map PyData.int) && decide (PyData.depthAll (ns.map PyData.int) + 1 ≤ 64)) = true
  rw [h1, h2]
  rfl
section
variable {P : Program} {w : World} {K : PySem.W.Frag} {mg : Str → Option Value} {base : Heap}
theorem ok_law {f : Addr} {fd : FuncData} (g : Bl mg) (cc : Cst mg) (C_law_tape : Cal P w K mg base "_law_tape" 1 ["_law_script", "_law_k"] (spTape K)) (C_law_draw : Cal P w K mg base "_law_draw" 1 ["_law_tape_here", "_law_many"] spDraw) (C_law_folded : Cal P w K mg base "_law_folded" 1 ["_law_script", "_law_many"] (spFolded K))
    (Cdone_by : Cal P w K mg base "done_by" 4 ["code", "kept", "taken"] (spDoneBy K)) (C_law_pairs_right : Cal P w K mg base "_law_pairs_right" 6 ["_law_a", "_law_b"] spPairs) (C_law_places_right : Cal P w K mg base "_law_places_right" 6 ["_law_a", "_law_b", "_law_c", "_law_d"] spPlaces)
    (F : Fun K "law" "law" sLaw f fd) : FnOk P w K mg base CX0 7 f fd ["_law_script"] (spLaw K) := by
  refine F.ok scLaw (fun vs H Q E h => ?_) (fun cdv A outer s H vs Q E hr h => ?_)
  · obtain ⟨a, ns, rfl, _⟩ := h
    rfl
  · obtain ⟨a, ns, rfl, hS, hlen, q⟩ := h
    obtain ⟨tw, cW⟩ := cc.WIDE
    have hu80 : (A.deeper (envOfC "law" (defScope sLaw) s.heap.objs.size f cdv)).units + 80 < cLine := by have := hr.un; omega
    refine ⟨_, (pss_cons (ps_set (i := 1) scLaw.nd rfl (Or.inl rfl) (pe_cut (pe_ifExp (pt_cmpR (op_neD hr.units) (pv 0) (pe_lstU pa_nil) (nomark _)) (pe_c C_law_folded hr (ha := (pa_cons (pv 0) (pa_cons pe_int pa_nil)))) (pe_lstU (pa_cons pe_int pa_nil)))))
  (pss_cons (ps_if (PW.pt (pw_or (pt_cmpR op_ne (pe_glob (v := .int 1000000) rfl cW ⟨_, rfl⟩) (pe_op op_pow pe_int pe_int) (nomark _)) (pw_or1 (pt_cmpR (op_neT hu80) (pe_c Cdone_by hr (ha := (pa_cons (pe_tupU pa_nil) (pa_cons (pe_tupU (pa_cons pe_int pa_nil)) (pa_cons pe_dnewK pa_nil))))) (pe_tupU (pa_cons (pe_tupU (pa_cons pe_int pa_nil)) (pa_cons pe_dnewK pa_nil))) (nomark _)))))
    (pss_one (ps_ret pe_bl))
    pss_nil)
  (pss_cons (ps_for PassesOwn.never rfl (pi_range1 (by rfl) g.range (pa_cons (pe_callB call_len_seq (by rfl) g.len PySem.boot_len (pa_cons (pv 1) pa_nil)) pa_nil)) (pg_name (i := 2) scLaw.nd rfl (Or.inl rfl))
    (pss_cons (ps_set (i := 3) scLaw.nd rfl (Or.inr rfl) (pe_c C_law_tape hr (ha := (pa_cons (pv 1) (pa_cons (pv 2) pa_nil)))))
    (pss_one (ps_for PassesOwn.never rfl (pi_tup (pe_tupU (pa_cons pe_int (pa_cons pe_int (pa_cons (pe_op op_pow pe_int pe_int) pa_nil))))) (pg_name (i := 4) scLaw.nd rfl (Or.inr rfl))
      (pss_cons (ps_asg (pe_lc (own := [("_law_turn", 11)]) (g := (gName 11)) (tt := tYes) rfl scLaw.nd (pi_range1 (by rfl) g.range (pa_cons pe_int pa_nil)) (blkOk_by (own := [("_law_turn", 11)]) (N := ["_law_script", "_law_cells", "_law_k", "_law_tape_here", "_law_wide", "_law_a", "_law_b", "_law_c", "_law_d", "_law_one", "_law_other", "_law_turn"]) (sc := defScope sLaw) (by decide +kernel)) (fun _ _ _ _ _ => (pg_name (i := 11) scLaw.nd rfl (Or.inl rfl))) (fun _ _ _ _ _ => pts_nil) (fun _ _ _ _ _ => (pe_c C_law_draw hr (ha := (pa_cons (pv 3) (pa_cons (pv 4) pa_nil)))))) (pg_unl rfl (pgs_cons (pg_name (i := 5) scLaw.nd rfl (Or.inl rfl)) (pgs_cons (pg_name (i := 6) scLaw.nd rfl (Or.inl rfl)) (pgs_cons (pg_name (i := 7) scLaw.nd rfl (Or.inl rfl)) (pgs_cons (pg_name (i := 8) scLaw.nd rfl (Or.inl rfl)) pgs_nil))))))
      (pss_cons (ps_for PassesOwn.never rfl (pi_tup (pe_tupU (pa_cons (pe_tupU (pa_cons (pv 5) (pa_cons (pv 6) pa_nil))) (pa_cons (pe_tupU (pa_cons (pv 6) (pa_cons (pv 5) pa_nil))) (pa_cons (pe_tupU (pa_cons (pv 5) (pa_cons (pv 5) pa_nil))) (pa_cons (pe_tupU (pa_cons pe_int (pa_cons (pv 5) pa_nil))) (pa_cons (pe_tupU (pa_cons (pv 5) (pa_cons (pe_op op_sub (pe_op op_pow pe_int pe_int) pe_int) pa_nil))) (pa_cons (pe_tupU (pa_cons (pe_op op_sub (pe_op op_pow pe_int pe_int) pe_int) (pa_cons (pe_op op_sub (pe_op op_pow pe_int pe_int) pe_int) pa_nil))) (pa_cons (pe_tupU (pa_cons pe_int (pa_cons pe_int pa_nil))) pa_nil))))))))) (pg_tup rfl (pgs_cons (pg_name (i := 9) scLaw.nd rfl (Or.inl rfl)) (pgs_cons (pg_name (i := 10) scLaw.nd rfl (Or.inl rfl)) pgs_nil)))
        (pss_one (ps_if (pt_not (pt_val (pe_c C_law_pairs_right hr (ha := (pa_cons (pv 9) (pa_cons (pv 10) pa_nil))))))
          (pss_one (ps_ret pe_bl))
          pss_nil)))
      (pss_one (ps_if (PW.pt (pw_or (pt_not (pt_val (pe_c C_law_places_right hr (ha := (pa_cons (pv 5) (pa_cons (pv 6) (pa_cons (pv 7) (pa_cons (pv 8) pa_nil)))))))) (pw_or1 (pt_not (pt_val (pe_c C_law_places_right hr (ha := (pa_cons (pv 8) (pa_cons (pv 7) (pa_cons (pv 6) (pa_cons (pv 5) pa_nil)))))))))))
        (pss_one (ps_ret pe_bl))
        pss_nil))))))))
  (pss_one (ps_ret pe_bl))))), ?_⟩
    have z1 : 1 ≤ 100000 := by decide
    have z2 : 2 ≤ 100000 := by decide
    have z3 : 3 ≤ 100000 := by decide
    have hpow : CPow 10 6 := ⟨by decide, by decide, by decide⟩
    -- cells
    refine ⟨fun v H' => ∃ cl cs, v = .ref cl ∧ H' cl = some (.lst (List.map V.int cs)) ∧ 1 ≤ cs.length ∧ cs.length ≤ 4, ?_, ?_⟩
    · refine ⟨_, rfl, Nat.zero_le _, fun e0 H1 _ s1 c1 => ?_⟩
      refine ⟨.list (ns.map PyData.int), .list [], .lst (s1.seq hS) (dpa_ints ns), .lst (SqL.of c1) .nil, shaped_ints ns, rfl, _, rfl, ?_⟩
      cases ns with
      | nil =>
        refine iteF ?_
        exact ⟨z1, fun cl H2 _ s2 c2 => ⟨cl, [0], rfl, c2, by decide, by decide⟩⟩
      | cons n r =>
        refine iteT ?_
        refine ⟨_, rfl, a, 4, n :: r, rfl, s1.seq hS, hlen, Nat.succ_pos _, by decide, by decide, fun p H2 cs _ s2 c2 h1 h2 => ⟨p, cs, rfl, c2, h1, h2⟩⟩
    rintro v H1 ⟨cl, cs, rfl, hcl, hc1, hc4⟩
    -- WIDE, done_by((), (3,), {})
    refine ⟨_, _, rfl, rfl, hpow, rfl, _, rfl, iteNS rfl ?_⟩
    refine ⟨Nat.zero_le _, fun t0 G1 _ s1 c1 => ⟨z1, fun t1 G2 _ s2 c2 => fun d1 nd1 => ?_⟩⟩
    have s3 : Same G2 (upd G2 d1 (.dK [])) := same_new nd1
    refine ⟨t0, t1, d1, [], [], [3], [], [], ⟨[], [3], [], []⟩, rfl, SqT.of (s3 _ _ (s2 _ _ c1)), .nil, (fun x hx => nomatch hx), by decide, .inr (SqT.of (s3 _ _ c2)), upd_same, .nil, List.nodup_nil, by decide, ⟨(fun x hx => nomatch hx), ?_, (fun x hx => nomatch hx)⟩, rfl, fun r G3 s4 p4 => ?_⟩
    · intro x hx
      rw [List.mem_singleton.mp hx]
      exact ⟨by decide, by decide⟩
    obtain ⟨kt, gd, gvs, ga, n1, n2, n3, n4, hr', hkt, hgd, hE, hnd⟩ := p4.ex
    cases hE
    refine ⟨z1, fun t2 G4 _ s5 c5 => fun d2 nd2 => ⟨z2, fun t3 G5 _ s6 c6 => ?_⟩⟩
    have s7 : Same G4 (upd G4 d2 (.dK [])) := same_new nd2
    have s8 : Same G3 G5 := s5.trans (s7.trans s6)
    refine ⟨r, t3, _, _, rfl, rfl, SqT.of (s8 _ _ hr'), SqT.of c6, .cons (.inl ⟨.tuple [.int 3], .tup (SqT.of (s8 _ _ hkt)) (.cons (.int 3) .nil), .tup (SqT.of (s6 _ _ (s7 _ _ c5))) (.cons (.int 3) .nil), rfl⟩) (.cons (.inr ⟨1, by decide, .inr (.inr (.inr ⟨gd, d2, [], [], rfl, rfl, s8 _ _ hgd, s6 _ _ upd_same, rfl, fun p hp => nomatch hp⟩))⟩) .nil), _, rfl, iteF ?_⟩
    have sA : Same H1 G5 := s1.trans (s2.trans (s3.trans (s4.trans s8)))
    have hcl5 := sA _ _ hcl
    clear s1 s2 s3 s4 s5 s6 s7 s8 sA c1 c2 c5 c6 hr' hkt hgd hcl
    -- for k in range(len(cells))
    refine ⟨_, rfl, cl, _, rfl, .inl (SqL.of hcl5), _, rfl, ?_, ?_, for_range (lo := 0) (n := (((cs.map V.int).length : Nat) : Int).toNat) (fun i σ H2 => ∃ y2 y3 y4 y5 y6 y7 y8 y9 y10, σ = [some (.ref a), some (.ref cl), y2, y3, y4, y5, y6, y7, y8, y9, y10, none] ∧ H2 cl = some (.lst (cs.map V.int))) ⟨none, none, none, none, none, none, none, none, none, rfl, hcl5⟩ ?_ ?_⟩
    · rw [List.length_map]
      omega
    · rw [List.length_map]
      omega
    · rintro i σ H2 hi ⟨y2, y3, y4, y5, y6, y7, y8, y9, y10, rfl, h2⟩
      have hi4 : i < 4 := by
        rw [List.length_map] at hi
        omega
      rw [Int.zero_add]
      refine ⟨_, rfl, _, rfl, cl, i, cs, rfl, SqL.of h2, by omega, fun t H3 nt s3 hT => ?_⟩
      have htc : cl ≠ t := ne_of_none h2 nt
      have h3 := s3 _ _ h2
      -- for wide in (3, 1000, 10 ** 6)
      refine ⟨_, _, rfl, rfl, hpow, z3, fun wp H4 nw s4 c4 => ?_⟩
      have ht4 : t ≠ wp := by
        obtain ⟨_, _, _, e, _⟩ := hT
        exact ne_of_none e nw
      have hT4 : Tape H4 t 1000 := by
        obtain ⟨x, y, z, e, h⟩ := hT.mono (m := 1000) (by decide)
        exact ⟨x, y, z, s4 _ _ e, h⟩
      have e6 : (10 : Int) ^ (6 : Int).toNat = 1000000 := by decide
      have c4 : H4 wp = some (.tup [.int 3, .int 1000, .int 1000000]) := by
        rw [← e6]
        exact c4
      refine ⟨wp, rfl, ⟨_, SqT.of c4⟩, for_tup (K := K) (xs := [V.int 3, .int 1000, .int 1000000]) (fun j σ H5 => ∃ y4 y5 y6 y7 y8 y9 y10, σ = [some (.ref a), some (.ref cl), some (.int (i : Int)), some (.ref t), y4, y5, y6, y7, y8, y9, y10, none] ∧ H5 cl = some (.lst (cs.map V.int)) ∧ H5 wp = some (.tup [.int 3, .int 1000, .int 1000000]) ∧ Tape H5 t (1000 - 4 * j))
        ⟨y4, y5, y6, y7, y8, y9, y10, rfl, s4 _ _ h3, c4, hT4⟩ (fun j σ H5 _ ⟨_, _, _, _, _, _, _, _, _, h, _⟩ => SqT.of h) ?_ ?_⟩
      · rintro j x σ H5 hj ⟨y4, y5, y6, y7, y8, y9, y10, rfl, k1, k2, k3⟩
        have hj3 : j < 3 := (List.getElem?_eq_some_iff.mp hj).1
        obtain ⟨wd, rfl, hw1, hw2⟩ : ∃ wd : Int, x = .int wd ∧ 0 < wd ∧ wd ≤ 1000000 := by
          have := List.mem_of_getElem? hj
          simp only [List.mem_cons, List.not_mem_nil, or_false] at this
          rcases this with rfl | rfl | rfl
          · exact ⟨_, rfl, by decide, by decide⟩
          · exact ⟨_, rfl, by decide, by decide⟩
          · exact ⟨_, rfl, by decide, by decide⟩
        clear hj
        -- [draw(tape, wide) for turn in range(4)]
        refine ⟨4, rfl, by decide, by decide, fun D nD => ?_⟩
        have hDc : cl ≠ D := ne_of_none k1 nD
        have hDw : wp ≠ D := ne_of_none k2 nD
        have hDt : D ≠ t := fun e => by
          obtain ⟨_, _, _, e', _⟩ := k3
          rw [e, e'] at nD
          cases nD
        refine lc_range (lo := 0) (n := 4) (fun m H6 => Kp t H5 H6 ∧ (∃ xs : List Int, xs.length = m ∧ (∀ x ∈ xs, 0 ≤ x ∧ x < wd) ∧ H6 D = some (.lst (xs.map V.int))) ∧ Tape H6 t (1000 - 4 * (j + 1) + (4 - m))) ⟨Kp.new nD, ⟨[], rfl, (fun x hx => nomatch hx), upd_same⟩, ?_⟩ ?_ ?_
        · obtain ⟨x, y, z, e, h⟩ := k3.mono (m := 1000 - 4 * (j + 1) + (4 - 0)) (by omega)
          refine ⟨x, y, z, ?_, h⟩
          rw [upd_ne hDt.symm]
          exact e
        · rintro m H6 hm ⟨p1, ⟨xs, l1, l2, l3⟩, p3⟩
          refine ⟨rfl, ?_⟩
          refine ⟨_, rfl, _, rfl, t, wd, 1000 - 4 * (j + 1) + (4 - (m + 1)), rfl, hw1, by omega, p3.mono (by omega), fun v H7 v0 v1 kp tp => ?_⟩
          refine ⟨_, kp _ _ hDt l3, ?_, ?_, ⟨xs ++ [v], ?_, ?_, ?_⟩, ?_⟩
          · rw [List.length_map, l1]
            exact Nat.lt_trans hm (by decide)
          · exact fun b o hb h => by
              rw [upd_ne (ne_of_none h nD)]
              exact (p1.trans kp) b o hb h
          · rw [List.length_append, l1]
            rfl
          · intro z hz
            rcases List.mem_append.mp hz with hz | hz
            · exact l2 z hz
            · rw [List.mem_singleton.mp hz]
              exact ⟨v0, v1⟩
          · rw [upd_same, List.map_append]
            rfl
          · obtain ⟨x, y, z, e, h⟩ := tp
            refine ⟨x, y, z, ?_, h⟩
            rw [upd_ne hDt.symm]
            exact e
        · rintro H6 ⟨p1, ⟨xs, l1, l2, l3⟩, p3⟩
          obtain ⟨va, vb, vc, vd, rfl⟩ : ∃ va vb vc vd, xs = [va, vb, vc, vd] := by
            match xs, l1 with
            | [va, vb, vc, vd], _ => exact ⟨va, vb, vc, vd, rfl⟩
          have ita : it va := ⟨(l2 va (by simp)).1, by have := (l2 va (by simp)).2; omega⟩
          have itb : it vb := ⟨(l2 vb (by simp)).1, by have := (l2 vb (by simp)).2; omega⟩
          have itc : it vc := ⟨(l2 vc (by simp)).1, by have := (l2 vc (by simp)).2; omega⟩
          have itd : it vd := ⟨(l2 vd (by simp)).1, by have := (l2 vd (by simp)).2; omega⟩
          have k1' := p1 _ _ htc k1
          have k2' := p1 _ _ ht4.symm k2
          refine ⟨D, _, rfl, SqL.of l3, rfl, _, _, rfl, _, _, rfl, _, _, rfl, _, _, rfl, rfl, ?_⟩
          -- the seven pairs
          refine ⟨_, rfl, _, rfl, z2, fun u1 I1 _ r1 d1 => ⟨_, rfl, _, rfl, z2, fun u2 I2 _ r2 d2 => ⟨_, rfl, _, rfl, z2, fun u3 I3 _ r3 d3 => ⟨_, rfl, z2, fun u4 I4 _ r4 d4 => ?_⟩⟩⟩⟩
          refine ⟨_, rfl, _, _, rfl, rfl, hpow, _, _, rfl, rfl, z2, fun u5 I5 _ r5 d5 => ?_⟩
          refine ⟨_, _, rfl, rfl, hpow, _, _, rfl, rfl, _, _, rfl, rfl, hpow, _, _, rfl, rfl, z2, fun u6 I6 _ r6 d6 => ⟨z2, fun u7 I7 _ r7 d7 => ⟨(by show 7 ≤ 100000; decide), fun up I8 _ r8 d8 => ?_⟩⟩⟩
          have d8 : I8 up = some (.tup [.ref u1, .ref u2, .ref u3, .ref u4, .ref u5, .ref u6, .ref u7]) := d8
          have it0 : it 0 := ⟨by decide, by decide⟩
          have itm : it ((10 : Int) ^ (6 : Int).toNat - 1) := ⟨by decide, by decide⟩
          have all7 : ∀ x ∈ [V.ref u1, .ref u2, .ref u3, .ref u4, .ref u5, .ref u6, .ref u7], ∃ t x1 x2, x = .ref t ∧ I8 t = some (.tup [.int x1, .int x2]) ∧ it x1 ∧ it x2 := fun x hx => by
            simp only [List.mem_cons, List.not_mem_nil, or_false] at hx
            rcases hx with rfl | rfl | rfl | rfl | rfl | rfl | rfl
            · exact ⟨u1, _, _, rfl, r8 _ _ (r7 _ _ (r6 _ _ (r5 _ _ (r4 _ _ (r3 _ _ (r2 _ _ d1)))))), ita, itb⟩
            · exact ⟨u2, _, _, rfl, r8 _ _ (r7 _ _ (r6 _ _ (r5 _ _ (r4 _ _ (r3 _ _ d2))))), itb, ita⟩
            · exact ⟨u3, _, _, rfl, r8 _ _ (r7 _ _ (r6 _ _ (r5 _ _ (r4 _ _ d3)))), ita, ita⟩
            · exact ⟨u4, _, _, rfl, r8 _ _ (r7 _ _ (r6 _ _ (r5 _ _ d4))), it0, ita⟩
            · exact ⟨u5, _, _, rfl, r8 _ _ (r7 _ _ (r6 _ _ d5)), ita, itm⟩
            · exact ⟨u6, _, _, rfl, r8 _ _ (r7 _ _ d6), itm, itm⟩
            · exact ⟨u7, _, _, rfl, r8 _ _ d7, it0, it0⟩
          have sI : Same H6 I8 := r1.trans (r2.trans (r3.trans (r4.trans (r5.trans (r6.trans (r7.trans r8))))))
          clear r1 r2 r3 r4 r5 r6 r7 r8 d1 d2 d3 d4 d5 d6 d7
          refine ⟨up, rfl, ⟨_, SqT.of d8⟩, for_tup (K := K) (xs := [V.ref u1, .ref u2, .ref u3, .ref u4, .ref u5, .ref u6, .ref u7]) (fun m σ G => ∃ y9 y10, σ = [some (.ref a), some (.ref cl), some (.int (i : Int)), some (.ref t), some (.int wd), some (.int va), some (.int vb), some (.int vc), some (.int vd), y9, y10, none] ∧ Same I8 G)
            ⟨y9, y10, rfl, Same.refl _⟩ (fun m σ G _ ⟨_, _, _, s⟩ => SqT.of (s _ _ d8)) ?_ ?_⟩
          · rintro m x σ G hm ⟨y9, y10, rfl, s0⟩
            obtain ⟨tt, x1, x2, rfl, h1, i1, i2⟩ := all7 x (List.mem_of_getElem? hm)
            refine ⟨tt, _, rfl, SqT.of (s0 _ _ h1), rfl, _, _, rfl, _, _, rfl, rfl, ?_⟩
            exact ⟨_, rfl, _, rfl, x1, x2, rfl, i1, i2, fun G1 s1 => ⟨_, rfl, iteF ⟨_, _, rfl, s0.trans s1⟩⟩⟩
          · rintro σ G ⟨y9, y10, rfl, s0⟩
            refine ⟨_, rfl, _, rfl, _, rfl, _, rfl, va, vb, vc, vd, rfl, ita, itb, itc, itd, fun G1 s1 => ⟨_, rfl, iteF ?_⟩⟩
            refine ⟨_, rfl, _, rfl, _, rfl, _, rfl, vd, vc, vb, va, rfl, itd, itc, itb, ita, fun G2 s2 => ⟨_, rfl, iteF ?_⟩⟩
            have sJ : Same H6 G2 := sI.trans (s0.trans (s1.trans s2))
            refine ⟨_, _, _, _, _, _, _, rfl, sJ _ _ k1', sJ _ _ k2', ?_⟩
            obtain ⟨x, y, z, e, h⟩ := p3
            exact ⟨x, y, z, sJ _ _ e, h⟩
      · rintro σ H5 ⟨y4, y5, y6, y7, y8, y9, y10, rfl, k1, k2, k3⟩
        exact ⟨_, _, _, _, _, _, _, _, _, rfl, k1⟩
    · rintro σ H2 ⟨y2, y3, y4, y5, y6, y7, y8, y9, y10, rfl, h2⟩
      exact q _
end
end Tw

/-! what the top has written, and the end -/
namespace Tw
open PySem PySem.Spec PyProof.Rows L2
theorem all_mk {l : PySem.W.OpenLaw} {w : World} {K : PySem.W.Frag} {h : Heap} {mg : Str → Option Value} {fa : Addr} (X : K.In h) (G : h.Ns mainGlobals mg) (hfa : mg "law" = some (.ref fa))
    {f0 : Addr} {od0 an0 : Option Addr} {sl0 : Array (Option Value)} {oc0 kV0 dc0 pm0 cd0 ct0 : Value}
    {f1 : Addr} {od1 an1 : Option Addr} {sl1 : Array (Option Value)} {oc1 kV1 dc1 pm1 cd1 ct1 : Value}
    {f2 : Addr} {od2 an2 : Option Addr} {sl2 : Array (Option Value)} {oc2 kV2 dc2 pm2 cd2 ct2 : Value}
    {f3 : Addr} {od3 an3 : Option Addr} {sl3 : Array (Option Value)} {oc3 kV3 dc3 pm3 cd3 ct3 : Value}
    {f4 : Addr} {od4 an4 : Option Addr} {sl4 : Array (Option Value)} {oc4 kV4 dc4 pm4 cd4 ct4 : Value}
    {f5 : Addr} {od5 an5 : Option Addr} {sl5 : Array (Option Value)} {oc5 kV5 dc5 pm5 cd5 ct5 : Value}
    {f6 : Addr} {od6 an6 : Option Addr} {sl6 : Array (Option Value)} {oc6 kV6 dc6 pm6 cd6 ct6 : Value}
    {f7 : Addr} {od7 an7 : Option Addr} {sl7 : Array (Option Value)} {oc7 kV7 dc7 pm7 cd7 ct7 : Value}
    {f8 : Addr} {od8 an8 : Option Addr} {sl8 : Array (Option Value)} {oc8 kV8 dc8 pm8 cd8 ct8 : Value}
    {f9 : Addr} {od9 an9 : Option Addr} {sl9 : Array (Option Value)} {oc9 kV9 dc9 pm9 cd9 ct9 : Value}
    {C0 : Addr}
    {mf0_0 : Addr} {mod0_0 man0_0 : Option Addr} {msl0_0 : Array (Option Value)} {moc0_0 mkV0_0 mdc0_0 mpm0_0 mcd0_0 mct0_0 : Value}
    {mf0_1 : Addr} {mod0_1 man0_1 : Option Addr} {msl0_1 : Array (Option Value)} {moc0_1 mkV0_1 mdc0_1 mpm0_1 mcd0_1 mct0_1 : Value}
    {mf0_2 : Addr} {mod0_2 man0_2 : Option Addr} {msl0_2 : Array (Option Value)} {moc0_2 mkV0_2 mdc0_2 mpm0_2 mcd0_2 mct0_2 : Value}
    {mf0_3 : Addr} {mod0_3 man0_3 : Option Addr} {msl0_3 : Array (Option Value)} {moc0_3 mkV0_3 mdc0_3 mpm0_3 mcd0_3 mct0_3 : Value}
    {mf0_4 : Addr} {mod0_4 man0_4 : Option Addr} {msl0_4 : Array (Option Value)} {moc0_4 mkV0_4 mdc0_4 mpm0_4 mcd0_4 mct0_4 : Value}
    {mf0_5 : Addr} {mod0_5 man0_5 : Option Addr} {msl0_5 : Array (Option Value)} {moc0_5 mkV0_5 mdc0_5 mpm0_5 mcd0_5 mct0_5 : Value}
    {tk0 : Tok}
    {tk1 : Tok}
    {tk2 : Tok}
    {tk3 : Tok}
    {tk4 : Tok}
    (a0 : PySem.W.nsIn K mainGlobals "reckoned" = some (some (.ref f0))) (l0 : K.lookup f0 = some ⟨oc0, od0, .func (PySem.W.fnOf "reckoned" "reckoned" (defArgs sReckoned) (defBody sReckoned) (defScope sReckoned) .none kV0 dc0 pm0 an0 cd0 ct0), sl0⟩) (c0 : PySem.W.codeIn K cd0 "reckoned" = true) (k0 : PySem.W.keepIn K (.ref f0) = true)
    (a1 : PySem.W.nsIn K mainGlobals "done_by" = some (some (.ref f1))) (l1 : K.lookup f1 = some ⟨oc1, od1, .func (PySem.W.fnOf "done_by" "done_by" (defArgs sDoneBy) (defBody sDoneBy) (defScope sDoneBy) .none kV1 dc1 pm1 an1 cd1 ct1), sl1⟩) (c1 : PySem.W.codeIn K cd1 "done_by" = true) (k1 : PySem.W.keepIn K (.ref f1) = true)
    (a2 : PySem.W.nsIn K mainGlobals "_law_tape" = some (some (.ref f2))) (l2 : K.lookup f2 = some ⟨oc2, od2, .func (PySem.W.fnOf "_law_tape" "_law_tape" (defArgs sTape) (defBody sTape) (defScope sTape) .none kV2 dc2 pm2 an2 cd2 ct2), sl2⟩) (c2 : PySem.W.codeIn K cd2 "_law_tape" = true) (k2 : PySem.W.keepIn K (.ref f2) = true)
    (a3 : PySem.W.nsIn K mainGlobals "_law_draw" = some (some (.ref f3))) (l3 : K.lookup f3 = some ⟨oc3, od3, .func (PySem.W.fnOf "_law_draw" "_law_draw" (defArgs sDraw) (defBody sDraw) (defScope sDraw) .none kV3 dc3 pm3 an3 cd3 ct3), sl3⟩) (c3 : PySem.W.codeIn K cd3 "_law_draw" = true) (k3 : PySem.W.keepIn K (.ref f3) = true)
    (a4 : PySem.W.nsIn K mainGlobals "_law_folded" = some (some (.ref f4))) (l4 : K.lookup f4 = some ⟨oc4, od4, .func (PySem.W.fnOf "_law_folded" "_law_folded" (defArgs sFolded) (defBody sFolded) (defScope sFolded) .none kV4 dc4 pm4 an4 cd4 ct4), sl4⟩) (c4 : PySem.W.codeIn K cd4 "_law_folded" = true) (k4 : PySem.W.keepIn K (.ref f4) = true)
    (a5 : PySem.W.nsIn K mainGlobals "_law_same" = some (some (.ref f5))) (l5 : K.lookup f5 = some ⟨oc5, od5, .func (PySem.W.fnOf "_law_same" "_law_same" (defArgs sSame) (defBody sSame) (defScope sSame) .none kV5 dc5 pm5 an5 cd5 ct5), sl5⟩) (c5 : PySem.W.codeIn K cd5 "_law_same" = true) (k5 : PySem.W.keepIn K (.ref f5) = true)
    (a6 : PySem.W.nsIn K mainGlobals "_law_told" = some (some (.ref f6))) (l6 : K.lookup f6 = some ⟨oc6, od6, .func (PySem.W.fnOf "_law_told" "_law_told" (defArgs sLTold) (defBody sLTold) (defScope sLTold) .none kV6 dc6 pm6 an6 cd6 ct6), sl6⟩) (c6 : PySem.W.codeIn K cd6 "_law_told" = true) (k6 : PySem.W.keepIn K (.ref f6) = true)
    (a7 : PySem.W.nsIn K mainGlobals "_law_pairs_right" = some (some (.ref f7))) (l7 : K.lookup f7 = some ⟨oc7, od7, .func (PySem.W.fnOf "_law_pairs_right" "_law_pairs_right" (defArgs sPairs) (defBody sPairs) (defScope sPairs) .none kV7 dc7 pm7 an7 cd7 ct7), sl7⟩) (c7 : PySem.W.codeIn K cd7 "_law_pairs_right" = true) (k7 : PySem.W.keepIn K (.ref f7) = true)
    (a8 : PySem.W.nsIn K mainGlobals "_law_places_right" = some (some (.ref f8))) (l8 : K.lookup f8 = some ⟨oc8, od8, .func (PySem.W.fnOf "_law_places_right" "_law_places_right" (defArgs sPlaces) (defBody sPlaces) (defScope sPlaces) .none kV8 dc8 pm8 an8 cd8 ct8), sl8⟩) (c8 : PySem.W.codeIn K cd8 "_law_places_right" = true) (k8 : PySem.W.keepIn K (.ref f8) = true)
    (a9 : PySem.W.nsIn K mainGlobals "law" = some (some (.ref f9))) (l9 : K.lookup f9 = some ⟨oc9, od9, .func (PySem.W.fnOf "law" "law" (defArgs sLaw) (defBody sLaw) (defScope sLaw) .none kV9 dc9 pm9 an9 cd9 ct9), sl9⟩) (c9 : PySem.W.codeIn K cd9 "law" = true) (k9 : PySem.W.keepIn K (.ref f9) = true)
    (aC0 : PySem.W.nsIn K mainGlobals "Doing" = some (some (.ref C0)))
    (ma0_0 : PySem.W.findIn K (.ref C0) "__init__" = some (some (.ref mf0_0))) (mi0_0 : PySem.W.isFn K (.ref mf0_0) = true) (ml0_0 : K.lookup mf0_0 = some ⟨moc0_0, mod0_0, .func (PySem.W.fnOf "__init__" "Doing.__init__" (defArgs sDoInit) (defBody sDoInit) (defScope sDoInit) .none mkV0_0 mdc0_0 mpm0_0 man0_0 mcd0_0 mct0_0), msl0_0⟩) (mc0_0 : PySem.W.codeIn K mcd0_0 "Doing.__init__" = true) (mk0_0 : PySem.W.keepIn K (.ref mf0_0) = true)
    (ma0_1 : PySem.W.findIn K (.ref C0) "do_act" = some (some (.ref mf0_1))) (mi0_1 : PySem.W.isFn K (.ref mf0_1) = true) (ml0_1 : K.lookup mf0_1 = some ⟨moc0_1, mod0_1, .func (PySem.W.fnOf "do_act" "Doing.do_act" (defArgs sDoAct) (defBody sDoAct) (defScope sDoAct) .none mkV0_1 mdc0_1 mpm0_1 man0_1 mcd0_1 mct0_1), msl0_1⟩) (mc0_1 : PySem.W.codeIn K mcd0_1 "Doing.do_act" = true) (mk0_1 : PySem.W.keepIn K (.ref mf0_1) = true)
    (ma0_2 : PySem.W.findIn K (.ref C0) "come_on" = some (some (.ref mf0_2))) (mi0_2 : PySem.W.isFn K (.ref mf0_2) = true) (ml0_2 : K.lookup mf0_2 = some ⟨moc0_2, mod0_2, .func (PySem.W.fnOf "come_on" "Doing.come_on" (defArgs sComeOn) (defBody sComeOn) (defScope sComeOn) .none mkV0_2 mdc0_2 mpm0_2 man0_2 mcd0_2 mct0_2), msl0_2⟩) (mc0_2 : PySem.W.codeIn K mcd0_2 "Doing.come_on" = true) (mk0_2 : PySem.W.keepIn K (.ref mf0_2) = true)
    (ma0_3 : PySem.W.findIn K (.ref C0) "go_off" = some (some (.ref mf0_3))) (mi0_3 : PySem.W.isFn K (.ref mf0_3) = true) (ml0_3 : K.lookup mf0_3 = some ⟨moc0_3, mod0_3, .func (PySem.W.fnOf "go_off" "Doing.go_off" (defArgs sGoOff) (defBody sGoOff) (defScope sGoOff) .none mkV0_3 mdc0_3 mpm0_3 man0_3 mcd0_3 mct0_3), msl0_3⟩) (mc0_3 : PySem.W.codeIn K mcd0_3 "Doing.go_off" = true) (mk0_3 : PySem.W.keepIn K (.ref mf0_3) = true)
    (ma0_4 : PySem.W.findIn K (.ref C0) "reckon" = some (some (.ref mf0_4))) (mi0_4 : PySem.W.isFn K (.ref mf0_4) = true) (ml0_4 : K.lookup mf0_4 = some ⟨moc0_4, mod0_4, .func (PySem.W.fnOf "reckon" "Doing.reckon" (defArgs sReckon) (defBody sReckon) (defScope sReckon) .none mkV0_4 mdc0_4 mpm0_4 man0_4 mcd0_4 mct0_4), msl0_4⟩) (mc0_4 : PySem.W.codeIn K mcd0_4 "Doing.reckon" = true) (mk0_4 : PySem.W.keepIn K (.ref mf0_4) = true)
    (ma0_5 : PySem.W.findIn K (.ref C0) "told" = some (some (.ref mf0_5))) (mi0_5 : PySem.W.isFn K (.ref mf0_5) = true) (ml0_5 : K.lookup mf0_5 = some ⟨moc0_5, mod0_5, .func (PySem.W.fnOf "told" "Doing.told" (defArgs sTold) (defBody sTold) (defScope sTold) .none mkV0_5 mdc0_5 mpm0_5 man0_5 mcd0_5 mct0_5), msl0_5⟩) (mc0_5 : PySem.W.codeIn K mcd0_5 "Doing.told" = true) (mk0_5 : PySem.W.keepIn K (.ref mf0_5) = true)
    (pg0 : PySem.W.plainGet K C0 Str.empty = true) (hd0 : PySem.W.hasDictIn K C0 = true) (po0 : PySem.W.plainOver K C0 = true) (sa0 : PySem.W.findIn K (.ref C0) "__setattr__" = some (some (.builtin "object.__setattr__"))) (mks0 : PySem.W.makesIn K C0 = true) (kc0 : PySem.W.keepIn K (.ref C0) = true)
    (na0_0 : PySem.W.findIn K (.ref C0) "own_pile" = some none)
    (na0_1 : PySem.W.findIn K (.ref C0) "own_kept" = some none)
    (na0_2 : PySem.W.findIn K (.ref C0) "own_taken" = some none)
    (na0_3 : PySem.W.findIn K (.ref C0) "own_given" = some none)
    (q0 : PySem.W.nsIn K mainGlobals "TAKE" = some (some (.str "take" tk0)))
    (q1 : PySem.W.nsIn K mainGlobals "GIVE" = some (some (.str "give" tk1)))
    (q2 : PySem.W.nsIn K mainGlobals "KEEP" = some (some (.str "keep" tk2)))
    (q3 : PySem.W.nsIn K mainGlobals "KEPT" = some (some (.str "kept" tk3)))
    (q4 : PySem.W.nsIn K mainGlobals "WIDE" = some (some (.int 1000000 tk4)))
    (z_len : PySem.W.nsIn K mainGlobals "len" = some none)
    (z_abs : PySem.W.nsIn K mainGlobals "abs" = some none)
    (z_int : PySem.W.nsIn K mainGlobals "int" = some none)
    (z_list : PySem.W.nsIn K mainGlobals "list" = some none)
    (z_tuple : PySem.W.nsIn K mainGlobals "tuple" = some none)
    (z_str : PySem.W.nsIn K mainGlobals "str" = some none)
    (z_bool : PySem.W.nsIn K mainGlobals "bool" = some none)
    (z_range : PySem.W.nsIn K mainGlobals "range" = some none)
    (z_enumerate : PySem.W.nsIn K mainGlobals "enumerate" = some none)
    (z_zip : PySem.W.nsIn K mainGlobals "zip" = some none)
    (z_all : PySem.W.nsIn K mainGlobals "all" = some none)
    (z_isinstance : PySem.W.nsIn K mainGlobals "isinstance" = some none) :
    ∃ fd : FuncData, (∀ (s : Shared) (v : Value), BindsTo s fd ⟨[v], []⟩ [("_law_script", v)]) ∧ ∀ base : Heap, K.In base → base.Ns mainGlobals mg → FnOk l.prog w K mg base CX0 7 fa fd ["_law_script"] (spLaw K) := by
  have e := hfa.symm.trans (PySem.W.mg_of X G a9)
  cases e
  have F0 := fun_mk (st := sReckoned) l0 c0 k0
  have b0 := F0.binds (ps := ["word", "a", "b"]) fun _ _ _ _ _ _ us hl => match us, hl with | [_, _, _], _ => rfl
  have g0 := PySem.W.mg_of X G a0
  have F1 := fun_mk (st := sDoneBy) l1 c1 k1
  have b1 := F1.binds (ps := ["code", "kept", "taken"]) fun _ _ _ _ _ _ us hl => match us, hl with | [_, _, _], _ => rfl
  have g1 := PySem.W.mg_of X G a1
  have F2 := fun_mk (st := sTape) l2 c2 k2
  have b2 := F2.binds (ps := ["_law_script", "_law_k"]) fun _ _ _ _ _ _ us hl => match us, hl with | [_, _], _ => rfl
  have g2 := PySem.W.mg_of X G a2
  have F3 := fun_mk (st := sDraw) l3 c3 k3
  have b3 := F3.binds (ps := ["_law_tape_here", "_law_many"]) fun _ _ _ _ _ _ us hl => match us, hl with | [_, _], _ => rfl
  have g3 := PySem.W.mg_of X G a3
  have F4 := fun_mk (st := sFolded) l4 c4 k4
  have b4 := F4.binds (ps := ["_law_script", "_law_many"]) fun _ _ _ _ _ _ us hl => match us, hl with | [_, _], _ => rfl
  have g4 := PySem.W.mg_of X G a4
  have F5 := fun_mk (st := sSame) l5 c5 k5
  have b5 := F5.binds (ps := ["_law_found", "_law_due"]) fun _ _ _ _ _ _ us hl => match us, hl with | [_, _], _ => rfl
  have g5 := PySem.W.mg_of X G a5
  have F6 := fun_mk (st := sLTold) l6 c6 k6
  have b6 := F6.binds (ps := ["_law_acts", "_law_numbers", "_law_places"]) fun _ _ _ _ _ _ us hl => match us, hl with | [_, _, _], _ => rfl
  have g6 := PySem.W.mg_of X G a6
  have F7 := fun_mk (st := sPairs) l7 c7 k7
  have b7 := F7.binds (ps := ["_law_a", "_law_b"]) fun _ _ _ _ _ _ us hl => match us, hl with | [_, _], _ => rfl
  have g7 := PySem.W.mg_of X G a7
  have F8 := fun_mk (st := sPlaces) l8 c8 k8
  have b8 := F8.binds (ps := ["_law_a", "_law_b", "_law_c", "_law_d"]) fun _ _ _ _ _ _ us hl => match us, hl with | [_, _, _, _], _ => rfl
  have g8 := PySem.W.mg_of X G a8
  have F9 := fun_mk (st := sLaw) l9 c9 k9
  have b9 := F9.binds (ps := ["_law_script"]) fun _ _ _ _ _ _ us hl => match us, hl with | [_], _ => rfl
  have g9 := PySem.W.mg_of X G a9
  have MF0_0 := fun_mk (st := sDoInit) ml0_0 mc0_0 mk0_0
  have mb0_0 := MF0_0.binds (ps := ["self", "kept", "taken"]) fun _ _ _ _ _ _ us hl => match us, hl with | [_, _, _], _ => rfl
  have MF0_1 := fun_mk (st := sDoAct) ml0_1 mc0_1 mk0_1
  have mb0_1 := MF0_1.binds (ps := ["self", "act"]) fun _ _ _ _ _ _ us hl => match us, hl with | [_, _], _ => rfl
  have MF0_2 := fun_mk (st := sComeOn) ml0_2 mc0_2 mk0_2
  have mb0_2 := MF0_2.binds (ps := ["self", "word", "thing"]) fun _ _ _ _ _ _ us hl => match us, hl with | [_, _, _], _ => rfl
  have MF0_3 := fun_mk (st := sGoOff) ml0_3 mc0_3 mk0_3
  have mb0_3 := MF0_3.binds (ps := ["self", "word", "thing"]) fun _ _ _ _ _ _ us hl => match us, hl with | [_, _, _], _ => rfl
  have MF0_4 := fun_mk (st := sReckon) ml0_4 mc0_4 mk0_4
  have mb0_4 := MF0_4.binds (ps := ["self", "word"]) fun _ _ _ _ _ _ us hl => match us, hl with | [_, _], _ => rfl
  have MF0_5 := fun_mk (st := sTold) ml0_5 mc0_5 mk0_5
  have mb0_5 := MF0_5.binds (ps := ["self"]) fun _ _ _ _ _ _ us hl => match us, hl with | [_], _ => rfl
  have B : Bl mg := ⟨PySem.W.mg_none_of X G z_len, PySem.W.mg_none_of X G z_abs, PySem.W.mg_none_of X G z_int, PySem.W.mg_none_of X G z_list, PySem.W.mg_none_of X G z_tuple, PySem.W.mg_none_of X G z_str, PySem.W.mg_none_of X G z_bool, PySem.W.mg_none_of X G z_range, PySem.W.mg_none_of X G z_enumerate, PySem.W.mg_none_of X G z_zip, PySem.W.mg_none_of X G z_all, PySem.W.mg_none_of X G z_isinstance⟩
  have cst : Cst mg := ⟨⟨_, PySem.W.mg_of X G q0⟩, ⟨_, PySem.W.mg_of X G q1⟩, ⟨_, PySem.W.mg_of X G q2⟩, ⟨_, PySem.W.mg_of X G q3⟩, ⟨_, PySem.W.mg_of X G q4⟩⟩
  have T : TD K mg C0 := ⟨⟨pg0, hd0, po0, sa0⟩, na0_0, na0_1, na0_2, na0_3, PySem.W.mg_of X G aC0⟩
  have M : Mk K C0 mf0_0 := ⟨mks0, ma0_0, mi0_0, kc0⟩
  refine ⟨PySem.W.fnOf "law" "law" (defArgs sLaw) (defBody sLaw) (defScope sLaw) .none kV9 dc9 pm9 an9 cd9 ct9, fun s v => .of_eq rfl, fun base _ _ => ?_⟩
  have cR : Cal l.prog w K mg base "reckoned" 1 ["word", "a", "b"] spReckoned := ⟨_, _, ok_reckoned (k := 0) cst F0, g0, k0, b0⟩
  have m4 : MCal l.prog w K mg base C0 "reckon" 2 ["self", "word"] (spReckon C0) := ⟨_, _, ok_reckon (k := 1) T cR (by decide) MF0_4, ⟨ma0_4, mi0_4, mk0_4⟩, mb0_4⟩
  have m2 : MCal l.prog w K mg base C0 "come_on" 1 ["self", "word", "thing"] (spComeOn C0) := ⟨_, _, ok_come_on (k := 0) T cst MF0_2, ⟨ma0_2, mi0_2, mk0_2⟩, mb0_2⟩
  have m3 : MCal l.prog w K mg base C0 "go_off" 1 ["self", "word", "thing"] (spGoOff C0) := ⟨_, _, ok_go_off (k := 0) T cst MF0_3, ⟨ma0_3, mi0_3, mk0_3⟩, mb0_3⟩
  have m1 : MCal l.prog w K mg base C0 "do_act" 3 ["self", "act"] (spDoAct K C0) := ⟨_, _, ok_do_act (k := 2) T cst m2 m3 m4 (by decide) (by decide) (by decide) MF0_1, ⟨ma0_1, mi0_1, mk0_1⟩, mb0_1⟩
  have m5 : MCal l.prog w K mg base C0 "told" 1 ["self"] (spTold C0) := ⟨_, _, ok_told (k := 0) B T MF0_5, ⟨ma0_5, mi0_5, mk0_5⟩, mb0_5⟩
  have cD : Cal l.prog w K mg base "done_by" 4 ["code", "kept", "taken"] (spDoneBy K) := ⟨_, _, ok_done_by (k := 3) B T M (ok_init (k := 0) B T MF0_0) mb0_0 m1 m5 (by decide) (by decide) (by decide) F1, g1, k1, b1⟩
  have cT : Cal l.prog w K mg base "_law_tape" 1 ["_law_script", "_law_k"] (spTape K) := ⟨_, _, ok_tape (k := 0) B F2, g2, k2, b2⟩
  have cW : Cal l.prog w K mg base "_law_draw" 1 ["_law_tape_here", "_law_many"] spDraw := ⟨_, _, ok_draw (k := 0) F3, g3, k3, b3⟩
  have cF : Cal l.prog w K mg base "_law_folded" 1 ["_law_script", "_law_many"] (spFolded K) := ⟨_, _, ok_folded (k := 0) B F4, g4, k4, b4⟩
  have cS : Cal l.prog w K mg base "_law_same" 4 ["_law_found", "_law_due"] (spSame K 2) := ⟨_, _, ok_same B F5 g5 b5 2, g5, k5, b5⟩
  have cL : Cal l.prog w K mg base "_law_told" 5 ["_law_acts", "_law_numbers", "_law_places"] (spLTold K) := ⟨_, _, ok_ltold (k := 4) B cD (by decide) F6, g6, k6, b6⟩
  have cP : Cal l.prog w K mg base "_law_pairs_right" 6 ["_law_a", "_law_b"] spPairs := ⟨_, _, ok_pairs (k := 5) B cL cS (by decide) (by decide) F7, g7, k7, b7⟩
  have cQ : Cal l.prog w K mg base "_law_places_right" 6 ["_law_a", "_law_b", "_law_c", "_law_d"] spPlaces := ⟨_, _, ok_places (k := 5) B cst cL cS cD (by decide) (by decide) (by decide) F8, g8, k8, b8⟩
  exact ok_law B cst cT cW cF cD cP cQ F9
end Tw
open PySem PySem.W PyProof.Rows
set_option maxRecDepth 100000 in
set_option maxHeartbeats 0 in
theorem PySem.Challenge.cw_trayworks_k05_acts_known_by_hand_holds : PySem.Challenge.rw_trayworks_k05_acts_known_by_hand.Holds := by
  w_on; o_law; k_head; (case hw => w_witness2)
  k_fill
  refine L2.walk_of (l := PySem.Challenge.rw_trayworks_k05_acts_known_by_hand) (n := 63) (k := 7) (x := "_law_script") (CX := fun _ => L2.CX0) (sp := fun w => Tw.spLaw _) rfl (by decide) rfl ⟨rfl, by decide, by decide⟩ (fun w h Y => PySem.W.kIn_of Y) ?F (fun _ _ a ns hl _ hS => ⟨a, ns, rfl, hS, hl, fun _ => rfl⟩) (fun _ _ _ _ _ h => h)
  case F =>
    intro w mg fa h KX G hmg
    refine' Tw.all_mk KX G hmg ?a0 ?l0 ?c0 ?k0 ?a1 ?l1 ?c1 ?k1 ?a2 ?l2 ?c2 ?k2 ?a3 ?l3 ?c3 ?k3 ?a4 ?l4 ?c4 ?k4 ?a5 ?l5 ?c5 ?k5 ?a6 ?l6 ?c6 ?k6 ?a7 ?l7 ?c7 ?k7 ?a8 ?l8 ?c8 ?k8 ?a9 ?l9 ?c9 ?k9 ?aC0 ?ma0_0 ?mi0_0 ?ml0_0 ?mc0_0 ?mk0_0 ?ma0_1 ?mi0_1 ?ml0_1 ?mc0_1 ?mk0_1 ?ma0_2 ?mi0_2 ?ml0_2 ?mc0_2 ?mk0_2 ?ma0_3 ?mi0_3 ?ml0_3 ?mc0_3 ?mk0_3 ?ma0_4 ?mi0_4 ?ml0_4 ?mc0_4 ?mk0_4 ?ma0_5 ?mi0_5 ?ml0_5 ?mc0_5 ?mk0_5 ?pg0 ?hd0 ?po0 ?sa0 ?mks0 ?kc0 ?na0_0 ?na0_1 ?na0_2 ?na0_3 ?q0 ?q1 ?q2 ?q3 ?q4 ?z_len ?z_abs ?z_int ?z_list ?z_tuple ?z_str ?z_bool ?z_range ?z_enumerate ?z_zip ?z_all ?z_isinstance
    (case a0 => k_is); (case l0 => k_is); (case c0 => k_is); (case k0 => k_is); (case a1 => k_is); (case l1 => k_is)
    (case c1 => k_is); (case k1 => k_is); (case a2 => k_is); (case l2 => k_is); (case c2 => k_is); (case k2 => k_is)
    (case a3 => k_is); (case l3 => k_is); (case c3 => k_is); (case k3 => k_is); (case a4 => k_is); (case l4 => k_is)
    (case c4 => k_is); (case k4 => k_is); (case a5 => k_is); (case l5 => k_is); (case c5 => k_is); (case k5 => k_is)
    (case a6 => k_is); (case l6 => k_is); (case c6 => k_is); (case k6 => k_is); (case a7 => k_is); (case l7 => k_is)
    (case c7 => k_is); (case k7 => k_is); (case a8 => k_is); (case l8 => k_is); (case c8 => k_is); (case k8 => k_is)
    (case a9 => k_is); (case l9 => k_is); (case c9 => k_is); (case k9 => k_is); (case aC0 => k_is); (case ma0_0 => k_is)
    (case mi0_0 => k_is); (case ml0_0 => k_is); (case mc0_0 => k_is); (case mk0_0 => k_is); (case ma0_1 => k_is); (case mi0_1 => k_is)
    (case ml0_1 => k_is); (case mc0_1 => k_is); (case mk0_1 => k_is); (case ma0_2 => k_is); (case mi0_2 => k_is); (case ml0_2 => k_is)
    (case mc0_2 => k_is); (case mk0_2 => k_is); (case ma0_3 => k_is); (case mi0_3 => k_is); (case ml0_3 => k_is); (case mc0_3 => k_is)
    (case mk0_3 => k_is); (case ma0_4 => k_is); (case mi0_4 => k_is); (case ml0_4 => k_is); (case mc0_4 => k_is); (case mk0_4 => k_is)
    (case ma0_5 => k_is); (case mi0_5 => k_is); (case ml0_5 => k_is); (case mc0_5 => k_is); (case mk0_5 => k_is); (case pg0 => k_is)
    (case hd0 => k_is); (case po0 => k_is); (case sa0 => k_is); (case mks0 => k_is); (case kc0 => k_is); (case na0_0 => k_is)
    (case na0_1 => k_is); (case na0_2 => k_is); (case na0_3 => k_is); (case q0 => k_is); (case q1 => k_is); (case q2 => k_is)
    (case q3 => k_is); (case q4 => k_is); (case z_len => k_is); (case z_abs => k_is); (case z_int => k_is); (case z_list => k_is)
    (case z_tuple => k_is); (case z_str => k_is); (case z_bool => k_is); (case z_range => k_is); (case z_enumerate => k_is); (case z_zip => k_is)
    (case z_all => k_is); (case z_isinstance => k_is)

